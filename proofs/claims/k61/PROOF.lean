import PyProof.Rows.All
import Wide.All
import OpenK.AllK
import Wide.FinOn
import KE.KStateDown
import Lean
import HandS.ForMost
import HandS.Exc
import HandS.Flow
import HandS.DictComp
import HandS.Style
import HandS.Wide
import HandS.WideBits
import HandS.IsInst
import HandS.Codes
import HandS.Walk
import HandS.Words
import HandS.WordsExc
import HandS.Defaults
import HandS.Head0
import HandS.Head1
import HandS.Head2
import HandS.HeadEnd
import HandS.HeadHook1
import HandS.HeadHook2
import HandS.SortInts
import PyProof.Rows.SortShellAny
import PyProof.InstNe
import KE.DataMinMax
import KE.SortData
import KE.IntBitsLaws
import KE.BitLaws
import HandS.Deep
import HandS.SetKeys
import PyProof.Rows.StrMul
import HandS.TupLe
import HandS.Property
import PySem.Challenge.RW_wholesound_k61_unseen_by_all
set_option Elab.async false
set_option linter.all false
set_option maxRecDepth 100000
set_option maxHeartbeats 4000000
set_option exponentiation.threshold 100000
namespace Pre
open PySem PySem.Spec PyProof.Rows L2
/-! ### heaps -/
theorem same_upd {H : Hp} {p : Addr} {o : HO} (h : H p = none) : Same H (upd H p o) := fun b x e => by
  rw [upd_ne (ne_of_none e h)]
  exact e
/-- a fresh thing that is then changed is no change of what was -/
theorem same_over {H H' : Hp} {p : Addr} {o : HO} (n : H p = none) (s : Same H H') : Same H (upd H' p o) := fun b x e => by
  rw [upd_ne (ne_of_none e n)]
  exact s b x e
theorem Same.tup {K : PySem.W.Frag} {H H' : Hp} {a : Addr} {xs : List V} (e : Same H H') (h : SqT K H a xs) : SqT K H' a xs := by
  rcases h with (h | ⟨o, h⟩) | h
  · exact .inl (.inl (e _ _ h))
  · exact .inl (.inr ⟨o, e _ _ h⟩)
  · exact .inr h
mutual
theorem dp_same {K : PySem.W.Frag} {H H' : Hp} (s : Same H H') : ∀ (d : PyData) (v : V), Dp K H v d → Dp K H' v d
  | .none, _, h => by cases h; exact .non
  | .bool _, _, h => by cases h; exact .bl _
  | .int _, _, h => by cases h; exact .int _
  | .str _, _, h => by cases h; exact .str _
  | .list ds, _, h => by cases h with | lst a b => exact .lst (s.seq a) (dps_same s ds _ b)
  | .tuple ds, _, h => by cases h with | tup a b => exact .tup (Same.tup s a) (dps_same s ds _ b)
  | .dict _, _, h => nomatch h
theorem dps_same {K : PySem.W.Frag} {H H' : Hp} (s : Same H H') : ∀ (ds : List PyData) (vs : List V), DpAll K H vs ds → DpAll K H' vs ds
  | [], _, h => by cases h; exact .nil
  | d :: ds, _, h => by cases h with | cons a b => exact .cons (dp_same s d _ a) (dps_same s ds _ b)
end
theorem dp_ints {K : PySem.W.Frag} {H : Hp} : ∀ ns : List Int, DpAll K H (ns.map V.int) (ns.map PyData.int)
  | [] => .nil
  | n :: r => .cons (.int n) (dp_ints r)
theorem eqv_ints : ∀ ns ms : List Int, PyData.eqvAll (ns.map PyData.int) (ms.map PyData.int) = decide (ns = ms)
  | [], [] => rfl
  | [], _ :: _ => rfl
  | _ :: _, [] => rfl
  | n :: r, m :: q => by
    show (PyData.eqv (.int n) (.int m) && PyData.eqvAll (r.map PyData.int) (q.map PyData.int)) = decide (n :: r = m :: q)
    rw [eqv_ints r q]
    show ((n == m) && decide (r = q)) = decide (n :: r = m :: q)
    by_cases h : n = m
    · subst h; simp
    · simp [h]
theorem lay_ints : ∀ ns : List Int, PyData.canLayAll0 (ns.map PyData.int) = true
  | [] => rfl
  | n :: r => by
    show (PyData.canLay0 (.int n) && PyData.canLayAll0 (r.map PyData.int)) = true
    rw [lay_ints r]
    rfl
theorem depth_ints : ∀ ns : List Int, PyData.depthAll (ns.map PyData.int) = 0
  | [] => by simp [PyData.depthAll]
  | n :: r => by
    show PyData.depthAll (.int n :: r.map PyData.int) = 0
    rw [PyData.depthAll, depth_ints r]
    simp [PyData.depth]
theorem shaped_ints (ns : List Int) : SeqAt.shaped (.list (ns.map PyData.int)) = true := by
  unfold SeqAt.shaped
  rw [PyData.canLay0, lay_ints, PyData.depth, depth_ints]
  rfl
theorem shaped_tup (ns : List Int) : SeqAt.shaped (.tuple (ns.map PyData.int)) = true := by
  unfold SeqAt.shaped
  rw [PyData.canLay0, lay_ints, PyData.depth, depth_ints]
  rfl
/-! ### comparisons of lists and tuples of whole numbers that are told alike -/
theorem ne_tup {K : PySem.W.Frag} {H : Hp} {a b : Addr} {ns : List Int} {Q : V → Hp → Prop} (ha : SqT K H a (ns.map V.int)) (hb : SqT K H b (ns.map V.int)) (q : Q (.bl false) H) : rNeD K (.ref a) (.ref b) H Q := by
  refine ⟨.tuple (ns.map PyData.int), .tuple (ns.map PyData.int), .tup ha (dp_ints ns), .tup hb (dp_ints ns), shaped_tup ns, shaped_tup ns, ?_⟩
  rw [PyData.eqv, eqv_ints, decide_eq_true rfl]
  exact q
theorem eq_tup {K : PySem.W.Frag} {H : Hp} {a b : Addr} {ns : List Int} {Q : V → Hp → Prop} (ha : SqT K H a (ns.map V.int)) (hb : SqT K H b (ns.map V.int)) (q : Q (.bl true) H) : rEqD K (.ref a) (.ref b) H Q := by
  refine ⟨.tuple (ns.map PyData.int), .tuple (ns.map PyData.int), .tup ha (dp_ints ns), .tup hb (dp_ints ns), shaped_tup ns, shaped_tup ns, ?_⟩
  rw [PyData.eqv, eqv_ints, decide_eq_true rfl]
  exact q
/-- lists of whole numbers, compared -/
theorem eqD_lst {K : PySem.W.Frag} {H : Hp} {a b : Addr} {ns ms : List Int} {Q : V → Hp → Prop} (ha : SqL K H a (ns.map V.int)) (hb : SqL K H b (ms.map V.int)) (q : Q (.bl (decide (ns = ms))) H) : rEqD K (.ref a) (.ref b) H Q := by
  refine ⟨.list (ns.map PyData.int), .list (ms.map PyData.int), .lst ha (dp_ints ns), .lst hb (dp_ints ms), shaped_ints ns, shaped_ints ms, ?_⟩
  rw [PyData.eqv, eqv_ints]
  exact q
theorem neD_lst {K : PySem.W.Frag} {H : Hp} {a b : Addr} {ns ms : List Int} {Q : V → Hp → Prop} (ha : SqL K H a (ns.map V.int)) (hb : SqL K H b (ms.map V.int)) (q : Q (.bl (!decide (ns = ms))) H) : rNeD K (.ref a) (.ref b) H Q := by
  refine ⟨.list (ns.map PyData.int), .list (ms.map PyData.int), .lst ha (dp_ints ns), .lst hb (dp_ints ms), shaped_ints ns, shaped_ints ms, ?_⟩
  rw [PyData.eqv, eqv_ints]
  exact q
theorem ne_lst {K : PySem.W.Frag} {H : Hp} {a b : Addr} {ns : List Int} {Q : V → Hp → Prop} (ha : SqL K H a (ns.map V.int)) (hb : SqL K H b (ns.map V.int)) (q : Q (.bl false) H) : rNeD K (.ref a) (.ref b) H Q :=
  neD_lst ha hb (by rw [decide_eq_true rfl]; exact q)
theorem eq_lst {K : PySem.W.Frag} {H : Hp} {a b : Addr} {ns : List Int} {Q : V → Hp → Prop} (ha : SqL K H a (ns.map V.int)) (hb : SqL K H b (ns.map V.int)) (q : Q (.bl true) H) : rEqD K (.ref a) (.ref b) H Q :=
  eqD_lst ha hb (by rw [decide_eq_true rfl]; exact q)
/-! ### powers -/
def CPowW (i j : Int) : Prop := 0 ≤ j ∧ (Builtin.Int.intBits i : Int) * j ≤ 2 ^ 27
theorem op_powW {X : Cx} : OpR X (binaryOp .Pow) (rI CPowW fun i j => .int (i ^ j.toNat)) := opI fun _ _ _ _ _ _ _ hc q => pow_int hc.1 hc.2 q
/-! ### comprehensions whose parts leave what is tracked as it is: sel tells of each item what comes of it -/
theorem take_fm {α : Type} {l : List (Option α)} {i : Nat} {o : Option α} (h : l[i]? = some o) : (l.take (i + 1)).filterMap id = (l.take i).filterMap id ++ o.toList := by
  rw [List.take_add_one, h, List.filterMap_append]
  cases o <;> rfl
theorem fm_len {α : Type} (l : List (Option α)) (i : Nat) : ((l.take i).filterMap id).length ≤ l.length :=
  Nat.le_trans (List.length_filterMap_le _ _) (by rw [List.length_take]; omega)
theorem lc_selL {K : PySem.W.Frag} {a : Addr} {xs : List V} {j : Nat} {tt : TT} {te : TE} {vs : List Nat} {σ : L2.St} {H1 : Hp} {D : Addr} {Qd : Hp → Prop} (sel : List (Option V)) (nD : H1 D = none) (hS : SqL K H1 a xs) (hlen : sel.length = xs.length) (hz : xs.length < sizeLine)
    (hw : ∀ x, wipe ((wipe σ vs).set j (some x)) vs = wipe σ vs)
    (hs : ∀ (i : Nat) (x : V) (o : Option V) (H' : Hp), xs[i]? = some x → sel[i]? = some o → Same H1 H' → ∀ Qt : Option V → Hp → Prop, (∀ H'', Same H' H'' → Qt o H'') →
      tt ((wipe σ vs).set j (some x)) H' fun b H3 => if b = true then te ((wipe σ vs).set j (some x)) H3 fun y H4 => Qt (some y) H4 else Qt none H3)
    (hd : ∀ H', Same H1 H' → H' D = some (.lst (sel.filterMap id)) → Qd H') :
    ∃ W : Nat → Nat → Hp → Prop, (∃ m, W 0 m (upd H1 D (.lst []))) ∧ ∀ i m H, W i m H →
      ((Itl K a).stop i H ∧ Qd H) ∨ ((Itl K a).go i H ∧ ∃ Nx : Hp → Prop, (∀ H', Nx H' → ∃ m', m' < m ∧ W (i + 1) m' H') ∧ ∀ x H', (Itl K a).yld i H x H' → gName j x (wipe σ vs) H' fun σ2 H2 => wipe σ2 vs = wipe σ vs ∧ tt σ2 H2 fun b H3 =>
        if b = true then te σ2 H3 fun y H4 => ∃ acc, H4 D = some (.lst acc) ∧ acc.length < sizeLine ∧ Nx (upd H4 D (.lst (acc ++ [y]))) else Nx H3) := by
  refine lc_list (K := K) (a := a) (xs := xs) (fun i H => Same H1 H ∧ H D = some (.lst ((sel.take i).filterMap id))) ⟨same_upd nD, upd_same⟩ (fun i H _ p => p.1.seq hS) ?_ ?_
  · rintro i x H hx ⟨s, hD⟩
    refine ⟨hw x, ?_⟩
    have hi : i < sel.length := by rw [hlen]; exact (List.getElem?_eq_some_iff.mp hx).1
    have ho : sel[i]? = some sel[i] := List.getElem?_eq_getElem hi
    have hl : ((sel.take i).filterMap id).length < sizeLine := Nat.lt_of_le_of_lt (fm_len sel i) (by omega)
    refine hs i x sel[i] H hx ho s (fun o H4 => match o with
      | some y => ∃ acc, H4 D = some (.lst acc) ∧ acc.length < sizeLine ∧ (Same H1 (upd H4 D (.lst (acc ++ [y]))) ∧ (upd H4 D (.lst (acc ++ [y]))) D = some (.lst ((sel.take (i + 1)).filterMap id)))
      | none => Same H1 H4 ∧ H4 D = some (.lst ((sel.take (i + 1)).filterMap id))) fun H4 s4 => ?_
    generalize sel[i] = o at ho ⊢
    cases o with
    | some y =>
      refine ⟨_, s4 _ _ hD, hl, same_over nD (s.trans s4), ?_⟩
      rw [upd_same, take_fm ho]
      rfl
    | none =>
      refine ⟨s.trans s4, ?_⟩
      rw [take_fm ho, s4 _ _ hD]
      simp
  · rintro H ⟨s, hD⟩
    refine hd H s ?_
    rw [hD, ← hlen, List.take_length]
/-- the items of a range -/
def rgV (lo : Int) (n : Nat) : List V := (List.range n).map fun (i : Nat) => V.int (lo + (i : Int))
theorem lc_selR {lo : Int} {n : Nat} {j : Nat} {tt : TT} {te : TE} {vs : List Nat} {σ : L2.St} {H1 : Hp} {D : Addr} {Qd : Hp → Prop} (sel : List (Option V)) (nD : H1 D = none) (hlen : sel.length = n) (hz : n < sizeLine)
    (hw : ∀ x, wipe ((wipe σ vs).set j (some x)) vs = wipe σ vs)
    (hs : ∀ (i : Nat) (o : Option V) (H' : Hp), i < n → sel[i]? = some o → Same H1 H' → ∀ Qt : Option V → Hp → Prop, (∀ H'', Same H' H'' → Qt o H'') →
      tt ((wipe σ vs).set j (some (.int (lo + (i : Int))))) H' fun b H3 => if b = true then te ((wipe σ vs).set j (some (.int (lo + (i : Int))))) H3 fun y H4 => Qt (some y) H4 else Qt none H3)
    (hd : ∀ H', Same H1 H' → H' D = some (.lst (sel.filterMap id)) → Qd H') :
    ∃ W : Nat → Nat → Hp → Prop, (∃ m, W 0 m (upd H1 D (.lst []))) ∧ ∀ i m H, W i m H →
      ((Itr lo n).stop i H ∧ Qd H) ∨ ((Itr lo n).go i H ∧ ∃ Nx : Hp → Prop, (∀ H', Nx H' → ∃ m', m' < m ∧ W (i + 1) m' H') ∧ ∀ x H', (Itr lo n).yld i H x H' → gName j x (wipe σ vs) H' fun σ2 H2 => wipe σ2 vs = wipe σ vs ∧ tt σ2 H2 fun b H3 =>
        if b = true then te σ2 H3 fun y H4 => ∃ acc, H4 D = some (.lst acc) ∧ acc.length < sizeLine ∧ Nx (upd H4 D (.lst (acc ++ [y]))) else Nx H3) := by
  refine lc_range (lo := lo) (n := n) (fun i H => Same H1 H ∧ H D = some (.lst ((sel.take i).filterMap id))) ⟨same_upd nD, upd_same⟩ ?_ ?_
  · rintro i H hi' ⟨s, hD⟩
    refine ⟨hw _, ?_⟩
    have hi : i < sel.length := by rw [hlen]; exact hi'
    have ho : sel[i]? = some sel[i] := List.getElem?_eq_getElem hi
    have hl : ((sel.take i).filterMap id).length < sizeLine := Nat.lt_of_le_of_lt (fm_len sel i) (by omega)
    refine hs i sel[i] H hi' ho s (fun o H4 => match o with
      | some y => ∃ acc, H4 D = some (.lst acc) ∧ acc.length < sizeLine ∧ (Same H1 (upd H4 D (.lst (acc ++ [y]))) ∧ (upd H4 D (.lst (acc ++ [y]))) D = some (.lst ((sel.take (i + 1)).filterMap id)))
      | none => Same H1 H4 ∧ H4 D = some (.lst ((sel.take (i + 1)).filterMap id))) fun H4 s4 => ?_
    generalize sel[i] = o at ho ⊢
    cases o with
    | some y =>
      refine ⟨_, s4 _ _ hD, hl, same_over nD (s.trans s4), ?_⟩
      rw [upd_same, take_fm ho]
      rfl
    | none =>
      refine ⟨s.trans s4, ?_⟩
      rw [take_fm ho, s4 _ _ hD]
      simp
  · rintro H ⟨s, hD⟩
    refine hd H s ?_
    rw [hD, ← hlen, List.take_length]
theorem fm_some {α : Type} (ys : List α) : (ys.map some).filterMap id = ys := by
  rw [List.filterMap_map]
  show List.filterMap (fun y => some y) ys = ys
  exact List.filterMap_some
/-- no test: ys tells what comes of each item -/
theorem lc_mapL {K : PySem.W.Frag} {a : Addr} {xs : List V} {j : Nat} {te : TE} {vs : List Nat} {σ : L2.St} {H1 : Hp} {D : Addr} {Qd : Hp → Prop} (ys : List V) (nD : H1 D = none) (hS : SqL K H1 a xs) (hlen : ys.length = xs.length) (hz : xs.length < sizeLine)
    (hw : ∀ x, wipe ((wipe σ vs).set j (some x)) vs = wipe σ vs)
    (hs : ∀ (i : Nat) (x y : V) (H' : Hp), xs[i]? = some x → ys[i]? = some y → Same H1 H' → ∀ Qt : V → Hp → Prop, (∀ H'', Same H' H'' → Qt y H'') → te ((wipe σ vs).set j (some x)) H' Qt)
    (hd : ∀ H', Same H1 H' → H' D = some (.lst ys) → Qd H') :
    ∃ W : Nat → Nat → Hp → Prop, (∃ m, W 0 m (upd H1 D (.lst []))) ∧ ∀ i m H, W i m H →
      ((Itl K a).stop i H ∧ Qd H) ∨ ((Itl K a).go i H ∧ ∃ Nx : Hp → Prop, (∀ H', Nx H' → ∃ m', m' < m ∧ W (i + 1) m' H') ∧ ∀ x H', (Itl K a).yld i H x H' → gName j x (wipe σ vs) H' fun σ2 H2 => wipe σ2 vs = wipe σ vs ∧ tYes σ2 H2 fun b H3 =>
        if b = true then te σ2 H3 fun y H4 => ∃ acc, H4 D = some (.lst acc) ∧ acc.length < sizeLine ∧ Nx (upd H4 D (.lst (acc ++ [y]))) else Nx H3) := by
  refine lc_selL (K := K) (a := a) (xs := xs) (tt := tYes) (ys.map some) nD hS (by rw [List.length_map]; exact hlen) hz hw ?_ ?_
  · intro i x o H' hx ho s Qt qt
    rw [List.getElem?_map] at ho
    obtain ⟨y, hy, rfl⟩ := Option.map_eq_some_iff.mp ho
    show if true = true then te ((wipe σ vs).set j (some x)) H' (fun y H4 => Qt (some y) H4) else Qt none H'
    exact iteT (hs i x y H' hx hy s (fun y H4 => Qt (some y) H4) qt)
  · intro H' s hD
    rw [fm_some] at hD
    exact hd H' s hD
theorem lc_mapR {lo : Int} {n : Nat} {j : Nat} {te : TE} {vs : List Nat} {σ : L2.St} {H1 : Hp} {D : Addr} {Qd : Hp → Prop} (ys : List V) (nD : H1 D = none) (hlen : ys.length = n) (hz : n < sizeLine)
    (hw : ∀ x, wipe ((wipe σ vs).set j (some x)) vs = wipe σ vs)
    (hs : ∀ (i : Nat) (y : V) (H' : Hp), i < n → ys[i]? = some y → Same H1 H' → ∀ Qt : V → Hp → Prop, (∀ H'', Same H' H'' → Qt y H'') → te ((wipe σ vs).set j (some (.int (lo + (i : Int))))) H' Qt)
    (hd : ∀ H', Same H1 H' → H' D = some (.lst ys) → Qd H') :
    ∃ W : Nat → Nat → Hp → Prop, (∃ m, W 0 m (upd H1 D (.lst []))) ∧ ∀ i m H, W i m H →
      ((Itr lo n).stop i H ∧ Qd H) ∨ ((Itr lo n).go i H ∧ ∃ Nx : Hp → Prop, (∀ H', Nx H' → ∃ m', m' < m ∧ W (i + 1) m' H') ∧ ∀ x H', (Itr lo n).yld i H x H' → gName j x (wipe σ vs) H' fun σ2 H2 => wipe σ2 vs = wipe σ vs ∧ tYes σ2 H2 fun b H3 =>
        if b = true then te σ2 H3 fun y H4 => ∃ acc, H4 D = some (.lst acc) ∧ acc.length < sizeLine ∧ Nx (upd H4 D (.lst (acc ++ [y]))) else Nx H3) := by
  refine lc_selR (lo := lo) (n := n) (tt := tYes) (ys.map some) nD (by rw [List.length_map]; exact hlen) hz hw ?_ ?_
  · intro i o H' hi ho s Qt qt
    rw [List.getElem?_map] at ho
    obtain ⟨y, hy, rfl⟩ := Option.map_eq_some_iff.mp ho
    show if true = true then te ((wipe σ vs).set j (some (.int (lo + (i : Int))))) H' (fun y H4 => Qt (some y) H4) else Qt none H'
    exact iteT (hs i y H' hi hy s (fun y H4 => Qt (some y) H4) qt)
  · intro H' s hD
    rw [fm_some] at hD
    exact hd H' s hD
/-- an item of a list of whole numbers -/
theorem int_at {ns : List Int} {i : Nat} {x : V} (h : (ns.map V.int)[i]? = some x) : ∃ n, ns[i]? = some n ∧ x = .int n := by
  rw [List.getElem?_map] at h
  obtain ⟨n, hn, e⟩ := Option.map_eq_some_iff.mp h
  exact ⟨n, hn, e.symm⟩
/-! ### rules with the written part named (within a comprehension Lean doesn't find it) -/
section
variable {X : Cx}
theorem k_len (K : PySem.W.Frag) (h : X.K = K) : CallR X (.builtin "len") (fun xs H Q => ∃ p ys, xs = [.ref p] ∧ (SqL K H p ys ∨ SqT K H p ys) ∧ Q (.int ys.length) H) := by subst h; exact call_len_seq
theorem k_sum (K : PySem.W.Frag) (h : X.K = K) (hc : X.calm = true) : CallR X (.builtin "sum") (rSum K) := by subst h; exact cr_sum hc
theorem k_max (K : PySem.W.Frag) (h : X.K = K) (hc : X.calm = true) : CallR X (.builtin "max") (rMax K) := by subst h; exact cr_max hc
theorem k_min (K : PySem.W.Frag) (h : X.K = K) (hc : X.calm = true) : CallR X (.builtin "min") (rMin K) := by subst h; exact cr_min hc
theorem k_isi (K : PySem.W.Frag) (h : X.K = K) : CallR X (.builtin "isinstance") (rIsi K) := by subst h; exact call_isi
theorem k_listOf (K : PySem.W.Frag) (h : X.K = K) : CallR X (.type "list") (fun xs H Q => ∃ p ys, xs = [.ref p] ∧ (SqL K H p ys ∨ SqT K H p ys) ∧ ∀ l, H l = none → Q (.ref l) (upd H l (.lst ys))) := by subst h; exact call_list_of
theorem k_tupleOf (K : PySem.W.Frag) (h : X.K = K) : CallR X (.type "tuple") (fun xs H Q => ∃ p ys, xs = [.ref p] ∧ ((SqL K H p ys ∧ ∀ l, H l = none → Q (.ref l) (upd H l (.tup ys))) ∨ (SqT K H p ys ∧ Q (.ref p) H))) := by subst h; exact call_tuple_of
theorem k_ixL (K : PySem.W.Frag) (h : X.K = K) : IxR X (rIxL K) := by subst h; exact ix_list
theorem k_ixT (K : PySem.W.Frag) (h : X.K = K) : IxR X (rIxT K) := by subst h; exact ix_tup
theorem k_slL (K : PySem.W.Frag) (h : X.K = K) : SlR X (rSlL K) := by subst h; exact sl_list
theorem k_slT (K : PySem.W.Frag) (h : X.K = K) : SlR X (rSlT K) := by subst h; exact sl_tup
theorem k_eqD (K : PySem.W.Frag) (h : X.K = K) (hu : X.A.units + 64 < cLine) : OpR X (compareOp .Eq) (rEqD K) := by subst h; exact op_eqD hu
theorem k_neD (K : PySem.W.Frag) (h : X.K = K) (hu : X.A.units + 64 < cLine) : OpR X (compareOp .NotEq) (rNeD K) := by subst h; exact op_neD hu
theorem k_in (K : PySem.W.Frag) (h : X.K = K) : OpR X (compareOp .In) (rIn K false) := by subst h; exact op_in_seq
theorem k_notIn (K : PySem.W.Frag) (h : X.K = K) : OpR X (compareOp .NotIn) (rIn K true) := by subst h; exact op_notIn_seq
theorem k_piL (K : PySem.W.Frag) (h : X.K = K) {tg l : Expr} {tl : TE} (hl : PE X l tl) : PI X tg l (iList K tl) := by subst h; exact pi_list hl
theorem k_piT (K : PySem.W.Frag) (h : X.K = K) {tg l : Expr} {tl : TE} (hl : PE X l tl) : PI X tg l (iTup K tl) := by subst h; exact pi_tup hl
theorem k_piE (K : PySem.W.Frag) (h : X.K = K) {e : Expr} {ta : TA} {p pos tpos : Pos} {elts : List Expr} {kk : Nat} (hg : Gl X "enumerate") (hm : X.mg "enumerate" = none) (ha : PA X [e] ta) (hs : starEach [e] X.env = [(false, eval e X.env)] := by rfl) : PI X (.Tuple elts kk tpos) (.Call (.Name "enumerate" p) [e] [] pos) (iEnum K ta) := by subst h; exact pi_enum hg hm ha hs
theorem k_pgT (K : PySem.W.Frag) (h : X.K = K) {es : List Expr} {k : Nat} {t : TGs} {n : Nat} {pos : Pos} (hc : X.calm = true) (hp : PGs X es t) (hn : (assignEach es X.env).length = n := by rfl) (hst : (assignEach es X.env).findIdx? (·.1) = none := by rfl) : PG X (.Tuple es k pos) (gTup K n t) := by subst h; exact pg_tup hc hp hn hst
theorem k_fld (K : PySem.W.Frag) (h : X.K = K) {e : Expr} {f : Str} {pos : Pos} {ta : TE} (he : PE X e ta) (hb : attributeBase e f X.env (eval e X.env) = eval e X.env) : PE X (.Attribute e f pos) (tFld K ta f) := by subst h; exact pe_fld he hb
theorem k_index (K : PySem.W.Frag) (h : X.K = K) : MtR X "list.index" (rIndex K) := by subst h; exact mt_index
end
/-! ### small things -/
theorem fresh {H : Hp} {p : Addr} (o : HO) (np : H p = none) : ∃ H', upd H p o = H' ∧ Same H H' ∧ H' p = some o := ⟨_, rfl, same_upd np, upd_same⟩
theorem cut_take (xs : List V) (k : Nat) : cutV xs none (some (k : Int)) = xs.take k := by
  unfold cutV
  rw [HT.sIx_nat, HT.sIx_none, List.drop_zero, Nat.sub_zero]
  rcases Nat.le_total k xs.length with h | h
  · rw [Nat.min_eq_left h]
  · rw [Nat.min_eq_right h, List.take_of_length_le h, List.take_length]
theorem cut_drop (xs : List V) (k : Nat) : cutV xs (some (k : Int)) none = xs.drop k := by
  unfold cutV
  rw [HT.sIx_nat, HT.sIx_none]
  rcases Nat.le_total k xs.length with h | h
  · rw [Nat.min_eq_left h, List.take_of_length_le (by rw [List.length_drop]; exact Nat.le_refl _)]
  · rw [Nat.min_eq_right h, List.drop_length, List.drop_of_length_le h, List.take_nil]
theorem rep_ints (k : Nat) (ks : List Int) : (List.replicate k (ks.map V.int)).flatten = ((List.replicate k ks).flatten).map V.int := by
  rw [List.map_flatten, List.map_replicate]
theorem rep_len {α : Type} (k : Nat) (ks : List α) : ((List.replicate k ks).flatten).length = k * ks.length := by
  induction k with
  | zero => simp
  | succ k ih => rw [List.replicate_succ, List.flatten_cons, List.length_append, ih, Nat.succ_mul]; omega
theorem rep_mem {α : Type} {k : Nat} {ks : List α} {x : α} (h : x ∈ (List.replicate k ks).flatten) : x ∈ ks := by
  obtain ⟨l, hl, hx⟩ := List.mem_flatten.mp h
  rw [(List.mem_replicate.mp hl).2] at hx
  exact hx
/-! ### comprehensions that make new things: R tells what is known of the i-th; D is no part of it -/
def Off (D : Addr) (H H' : Hp) : Prop := ∀ b o, b ≠ D → H b = some o → H' b = some o
def RelPv (R : Nat → V → Hp → Prop) (H1 : Hp) (D : Addr) (i : Nat) (H : Hp) : Prop := ∃ ys : List V, Same H1 H ∧ H D = some (.lst ys) ∧ ys.length = i ∧ ∀ (k : Nat) (y : V), ys[k]? = some y → R k y H
theorem lc_relR {lo : Int} {n : Nat} {j : Nat} {te : TE} {vs : List Nat} {σ : L2.St} {H1 : Hp} {D : Addr} {Qd : Hp → Prop} (R : Nat → V → Hp → Prop) (nD : H1 D = none) (hz : n < sizeLine)
    (mono : ∀ i y H H', Off D H H' → R i y H → R i y H')
    (hw : ∀ x, wipe ((wipe σ vs).set j (some x)) vs = wipe σ vs)
    (hs : ∀ (i : Nat) (H' : Hp) (xs : List V), i < n → Same H1 H' → H' D = some (.lst xs) → ∀ Qt : V → Hp → Prop, (∀ y H'', Same H' H'' → R i y H'' → Qt y H'') → te ((wipe σ vs).set j (some (.int (lo + (i : Int))))) H' Qt)
    (hd : ∀ H' ys, Same H1 H' → H' D = some (.lst ys) → ys.length = n → (∀ (i : Nat) (y : V), ys[i]? = some y → R i y H') → Qd H') :
    ∃ W : Nat → Nat → Hp → Prop, (∃ m, W 0 m (upd H1 D (.lst []))) ∧ ∀ i m H, W i m H →
      ((Itr lo n).stop i H ∧ Qd H) ∨ ((Itr lo n).go i H ∧ ∃ Nx : Hp → Prop, (∀ H', Nx H' → ∃ m', m' < m ∧ W (i + 1) m' H') ∧ ∀ x H', (Itr lo n).yld i H x H' → gName j x (wipe σ vs) H' fun σ2 H2 => wipe σ2 vs = wipe σ vs ∧ tYes σ2 H2 fun b H3 =>
        if b = true then te σ2 H3 fun y H4 => ∃ acc, H4 D = some (.lst acc) ∧ acc.length < sizeLine ∧ Nx (upd H4 D (.lst (acc ++ [y]))) else Nx H3) := by
  refine lc_range (lo := lo) (n := n) (RelPv R H1 D) ⟨[], same_upd nD, upd_same, rfl, fun k y h => by simp at h⟩ ?_ ?_
  · rintro i H hi ⟨ys, s, hD, hl, hR⟩
    refine ⟨hw _, ?_⟩
    show if true = true then te ((wipe σ vs).set j (some (.int (lo + (i : Int))))) H (fun y H4 => ∃ acc, H4 D = some (.lst acc) ∧ acc.length < sizeLine ∧ RelPv R H1 D (i + 1) (upd H4 D (.lst (acc ++ [y])))) else RelPv R H1 D (i + 1) H
    refine iteT (hs i H ys hi s hD _ fun y H4 s4 r4 => ?_)
    refine ⟨ys, s4 _ _ hD, by omega, ys ++ [y], same_over nD (s.trans s4), upd_same, by rw [List.length_append, hl]; rfl, fun k z hz => ?_⟩
    have off : Off D H4 (upd H4 D (.lst (ys ++ [y]))) := fun b o nb h => by rw [upd_ne nb]; exact h
    by_cases hk : k < ys.length
    · rw [List.getElem?_append_left hk] at hz
      exact mono k z H _ (fun b o nb h => off b o nb (s4 b o h)) (hR k z hz)
    · rw [List.getElem?_append_right (by omega)] at hz
      have hk2 : k - ys.length = 0 := by
        have h2 := (List.getElem?_eq_some_iff.mp hz).1
        rw [List.length_singleton] at h2
        omega
      rw [hk2] at hz
      cases hz
      have ek : k = i := by omega
      rw [ek]
      exact mono i y H4 _ off r4
  · rintro H ⟨ys, s, hD, hl, hR⟩
    exact hd H ys s hD hl hR
/-! ### ways that are told by whole numbers -/
theorem iteDT {p A B : Prop} [Decidable p] (hp : p) (h : A) : if decide p = true then A else B := by rw [decide_eq_true hp]; exact iteT h
theorem iteDF {p A B : Prop} [Decidable p] (hp : ¬ p) (h : B) : if decide p = true then A else B := by rw [decide_eq_false hp]; exact iteF h
theorem iteNT {p A B : Prop} [Decidable p] (hp : ¬ p) (h : A) : if (!decide p) = true then A else B := by rw [decide_eq_false hp]; exact iteT h
theorem iteNF {p A B : Prop} [Decidable p] (hp : p) (h : B) : if (!decide p) = true then A else B := by rw [decide_eq_true hp]; exact iteF h
theorem iteET {a b : Int} {A B : Prop} [Decidable (V.int a = V.int b)] (hp : a = b) (h : A) : if decide (V.int a = V.int b) = true then A else B := iteDT (congrArg V.int hp) h
theorem iteEF {a b : Int} {A B : Prop} [Decidable (V.int a = V.int b)] (hp : ¬ a = b) (h : B) : if decide (V.int a = V.int b) = true then A else B := iteDF (fun z => hp (V.int.inj z)) h
theorem iteENT {a b : Int} {A B : Prop} [Decidable (V.int a = V.int b)] (hp : ¬ a = b) (h : A) : if (!decide (V.int a = V.int b)) = true then A else B := iteNT (fun z => hp (V.int.inj z)) h
theorem iteENF {a b : Int} {A B : Prop} [Decidable (V.int a = V.int b)] (hp : a = b) (h : B) : if (!decide (V.int a = V.int b)) = true then A else B := iteNF (congrArg V.int hp) h
theorem iteNtt {A B : Prop} (h : B) : if (!true) = true then A else B := h
theorem iteNff {A B : Prop} (h : A) : if (!false) = true then A else B := h
/-- 1 or 0 of a comparison -/
theorem int_if {p : Prop} [Decidable p] : (if decide p = true then (1 : Int) else 0) = if p then 1 else 0 := by by_cases h : p <;> simp [h]
end Pre

namespace My
open PySem PySem.Spec PyProof.Rows L2
theorem nil_binds {K : PySem.W.Frag} {fd : FuncData} {ps : List Str} (h : ∃ ds, Vals [] ds ∧ Binds K fd ps ds) : Binds K fd ps [] := by
  obtain ⟨ds, v, b⟩ := h
  cases v
  exact b
def top (i : Nat) : Stmt := PySem.Challenge.pw_wholesound_k61_unseen_by_all.main.body.getD i (.Pass ⟨0, 0, 0, 0⟩)
abbrev s_is_whole : Stmt := top 7
abbrev N_is_whole : List Str := ["value"]
theorem sc_is_whole : FnScope N_is_whole ["value"] (defScope s_is_whole) := ⟨rfl, rfl, rfl, by decide +kernel, rfl, by decide +kernel, by decide +kernel⟩
abbrev s_is_between : Stmt := top 8
abbrev N_is_between : List Str := ["value", "low", "high"]
theorem sc_is_between : FnScope N_is_between ["value", "low", "high"] (defScope s_is_between) := ⟨rfl, rfl, rfl, by decide +kernel, rfl, by decide +kernel, by decide +kernel⟩
abbrev s_is_bits : Stmt := top 9
abbrev N_is_bits : List Str := ["value", "sign"]
theorem sc_is_bits : FnScope N_is_bits ["value"] (defScope s_is_bits) := ⟨rfl, rfl, rfl, by decide +kernel, rfl, by decide +kernel, by decide +kernel⟩
abbrev s_bits_of : Stmt := top 10
abbrev N_bits_of : List Str := ["number", "many", "at"]
theorem sc_bits_of : FnScope N_bits_of ["number", "many"] (defScope s_bits_of) := ⟨rfl, rfl, rfl, by decide +kernel, rfl, by decide +kernel, by decide +kernel⟩
abbrev s_check_number : Stmt := top 11
abbrev N_check_number : List Str := ["number", "low", "high"]
theorem sc_check_number : FnScope N_check_number ["number", "low", "high"] (defScope s_check_number) := ⟨rfl, rfl, rfl, by decide +kernel, rfl, by decide +kernel, by decide +kernel⟩
abbrev s_check_bits : Stmt := top 12
abbrev N_check_bits : List Str := ["bits"]
theorem sc_check_bits : FnScope N_check_bits ["bits"] (defScope s_check_bits) := ⟨rfl, rfl, rfl, by decide +kernel, rfl, by decide +kernel, by decide +kernel⟩
abbrev s_sum_of : Stmt := top 17
abbrev N_sum_of : List Str := ["check"]
theorem sc_sum_of : FnScope N_sum_of ["check"] (defScope s_sum_of) := ⟨rfl, rfl, rfl, by decide +kernel, rfl, by decide +kernel, by decide +kernel⟩
abbrev s_check_check : Stmt := top 18
abbrev N_check_check : List Str := ["check"]
theorem sc_check_check : FnScope N_check_check ["check"] (defScope s_check_check) := ⟨rfl, rfl, rfl, by decide +kernel, rfl, by decide +kernel, by decide +kernel⟩
abbrev s_are_places : Stmt := top 19
abbrev N_are_places : List Str := ["value", "one", "other", "place"]
theorem sc_are_places : FnScope N_are_places ["value"] (defScope s_are_places) := ⟨rfl, rfl, rfl, by decide +kernel, rfl, by decide +kernel, by decide +kernel⟩
abbrev s_check_places : Stmt := top 20
abbrev N_check_places : List Str := ["places"]
theorem sc_check_places : FnScope N_check_places ["places"] (defScope s_check_places) := ⟨rfl, rfl, rfl, by decide +kernel, rfl, by decide +kernel, by decide +kernel⟩
abbrev s_shifted : Stmt := top 21
abbrev N_shifted : List Str := ["check", "one"]
theorem sc_shifted : FnScope N_shifted ["check", "one"] (defScope s_shifted) := ⟨rfl, rfl, rfl, by decide +kernel, rfl, by decide +kernel, by decide +kernel⟩
abbrev s_rest_of : Stmt := top 22
abbrev N_rest_of : List Str := ["check", "bits", "found", "sign"]
theorem sc_rest_of : FnScope N_rest_of ["check", "bits"] (defScope s_rest_of) := ⟨rfl, rfl, rfl, by decide +kernel, rfl, by decide +kernel, by decide +kernel⟩
abbrev s_rest_times : Stmt := top 23
abbrev N_rest_times : List Str := ["check", "one", "other", "found", "place"]
theorem sc_rest_times : FnScope N_rest_times ["check", "one", "other"] (defScope s_rest_times) := ⟨rfl, rfl, rfl, by decide +kernel, rfl, by decide +kernel, by decide +kernel⟩
abbrev s_power_of : Stmt := top 24
abbrev N_power_of : List Str := ["check", "many", "found", "base", "left"]
theorem sc_power_of : FnScope N_power_of ["check", "many"] (defScope s_power_of) := ⟨rfl, rfl, rfl, by decide +kernel, rfl, by decide +kernel, by decide +kernel⟩
abbrev s_sum_at : Stmt := top 25
abbrev N_sum_at : List Str := ["check", "places", "found", "place"]
theorem sc_sum_at : FnScope N_sum_at ["check", "places"] (defScope s_sum_at) := ⟨rfl, rfl, rfl, by decide +kernel, rfl, by decide +kernel, by decide +kernel⟩
abbrev s_rest : Stmt := top 26
abbrev N_rest : List Str := ["check", "bits"]
theorem sc_rest : FnScope N_rest ["check", "bits"] (defScope s_rest) := ⟨rfl, rfl, rfl, by decide +kernel, rfl, by decide +kernel, by decide +kernel⟩
abbrev s_is_right : Stmt := top 27
abbrev N_is_right : List Str := ["check", "bits"]
theorem sc_is_right : FnScope N_is_right ["check", "bits"] (defScope s_is_right) := ⟨rfl, rfl, rfl, by decide +kernel, rfl, by decide +kernel, by decide +kernel⟩
abbrev s_unseen : Stmt := top 28
abbrev N_unseen : List Str := ["check", "places"]
theorem sc_unseen : FnScope N_unseen ["check", "places"] (defScope s_unseen) := ⟨rfl, rfl, rfl, by decide +kernel, rfl, by decide +kernel, by decide +kernel⟩
abbrev s_powers_of : Stmt := top 29
abbrev N_powers_of : List Str := ["check", "found", "now"]
theorem sc_powers_of : FnScope N_powers_of ["check"] (defScope s_powers_of) := ⟨rfl, rfl, rfl, by decide +kernel, rfl, by decide +kernel, by decide +kernel⟩
abbrev s_spots_of : Stmt := top 30
abbrev N_spots_of : List Str := ["powers", "place", "value"]
theorem sc_spots_of : FnScope N_spots_of ["powers"] (defScope s_spots_of) := ⟨rfl, rfl, rfl, by decide +kernel, rfl, by decide +kernel, by decide +kernel⟩
abbrev s_least_of_three : Stmt := top 31
abbrev N_least_of_three : List Str := ["powers", "spots", "place", "value"]
theorem sc_least_of_three : FnScope N_least_of_three ["powers", "spots"] (defScope s_least_of_three) := ⟨rfl, rfl, rfl, by decide +kernel, rfl, by decide +kernel, by decide +kernel⟩
abbrev s_least_of_four : Stmt := top 32
abbrev N_least_of_four : List Str := ["powers", "most", "pairs", "place", "other"]
theorem sc_least_of_four : FnScope N_least_of_four ["powers", "most"] (defScope s_least_of_four) := ⟨rfl, rfl, rfl, by decide +kernel, rfl, by decide +kernel, by decide +kernel⟩
abbrev s_longest_of : Stmt := top 33
abbrev N_longest_of : List Str := ["powers", "few", "found"]
theorem sc_longest_of : FnScope N_longest_of ["powers", "few"] (defScope s_longest_of) := ⟨rfl, rfl, rfl, by decide +kernel, rfl, by decide +kernel, by decide +kernel⟩
abbrev s_longest : Stmt := top 34
abbrev N_longest : List Str := ["check", "few"]
theorem sc_longest : FnScope N_longest ["check", "few"] (defScope s_longest) := ⟨rfl, rfl, rfl, by decide +kernel, rfl, by decide +kernel, by decide +kernel⟩
abbrev s_distance : Stmt := top 35
abbrev N_distance : List Str := ["check", "many", "powers", "few"]
theorem sc_distance : FnScope N_distance ["check", "many"] (defScope s_distance) := ⟨rfl, rfl, rfl, by decide +kernel, rfl, by decide +kernel, by decide +kernel⟩
abbrev s_first_four : Stmt := top 36
abbrev N_first_four : List Str := ["powers", "spots", "many", "one", "other", "last"]
theorem sc_first_four : FnScope N_first_four ["powers", "spots", "many"] (defScope s_first_four) := ⟨rfl, rfl, rfl, by decide +kernel, rfl, by decide +kernel, by decide +kernel⟩
abbrev s_least_unseen : Stmt := top 37
abbrev N_least_unseen : List Str := ["check", "many", "found", "powers", "spots", "one", "place"]
theorem sc_least_unseen : FnScope N_least_unseen ["check", "many"] (defScope s_least_unseen) := ⟨rfl, rfl, rfl, by decide +kernel, rfl, by decide +kernel, by decide +kernel⟩
abbrev s_ones_in : Stmt := top 38
abbrev N_ones_in : List Str := ["number", "place"]
theorem sc_ones_in : FnScope N_ones_in ["number"] (defScope s_ones_in) := ⟨rfl, rfl, rfl, by decide +kernel, rfl, by decide +kernel, by decide +kernel⟩
abbrev s_all_odd : Stmt := top 39
abbrev N_all_odd : List Str := ["check"]
theorem sc_all_odd : FnScope N_all_odd ["check"] (defScope s_all_odd) := ⟨rfl, rfl, rfl, by decide +kernel, rfl, by decide +kernel, by decide +kernel⟩
abbrev s_law_hash : Stmt := top 41
abbrev N_law_hash : List Str := ["_law_seed", "_law_index", "_law_mixed"]
theorem sc_law_hash : FnScope N_law_hash ["_law_seed", "_law_index"] (defScope s_law_hash) := ⟨rfl, rfl, rfl, by decide +kernel, rfl, by decide +kernel, by decide +kernel⟩
abbrev s_law_random : Stmt := top 42
abbrev N_law_random : List Str := ["_law_generator_here", "_law_bound", "_law_drawn_here", "_law_turn"]
theorem sc_law_random : FnScope N_law_random ["_law_generator_here", "_law_bound"] (defScope s_law_random) := ⟨rfl, rfl, rfl, by decide +kernel, rfl, by decide +kernel, by decide +kernel⟩
abbrev s_law_cell : Stmt := top 43
abbrev N_law_cell : List Str := ["_law_script", "_law_index"]
theorem sc_law_cell : FnScope N_law_cell ["_law_script", "_law_index"] (defScope s_law_cell) := ⟨rfl, rfl, rfl, by decide +kernel, rfl, by decide +kernel, by decide +kernel⟩
abbrev s_law_generator : Stmt := top 44
abbrev N_law_generator : List Str := ["_law_script", "_law_index", "_law_seed"]
theorem sc_law_generator : FnScope N_law_generator ["_law_script", "_law_index"] (defScope s_law_generator) := ⟨rfl, rfl, rfl, by decide +kernel, rfl, by decide +kernel, by decide +kernel⟩
abbrev s_law_rest : Stmt := top 45
abbrev N_law_rest : List Str := ["_law_whole", "_law_number", "_law_left"]
theorem sc_law_rest : FnScope N_law_rest ["_law_whole", "_law_number"] (defScope s_law_rest) := ⟨rfl, rfl, rfl, by decide +kernel, rfl, by decide +kernel, by decide +kernel⟩
abbrev s_law_bits : Stmt := top 46
abbrev N_law_bits : List Str := ["_law_number", "_law_many", "_law_found", "_law_place"]
theorem sc_law_bits : FnScope N_law_bits ["_law_number", "_law_many"] (defScope s_law_bits) := ⟨rfl, rfl, rfl, by decide +kernel, rfl, by decide +kernel, by decide +kernel⟩
abbrev s_law_drawn : Stmt := top 47
abbrev N_law_drawn : List Str := ["_law_generator_here", "_law_width"]
theorem sc_law_drawn : FnScope N_law_drawn ["_law_generator_here", "_law_width"] (defScope s_law_drawn) := ⟨rfl, rfl, rfl, by decide +kernel, rfl, by decide +kernel, by decide +kernel⟩
abbrev s_law_places : Stmt := top 48
abbrev N_law_places : List Str := ["_law_number", "_law_place"]
theorem sc_law_places : FnScope N_law_places ["_law_number"] (defScope s_law_places) := ⟨rfl, rfl, rfl, by decide +kernel, rfl, by decide +kernel, by decide +kernel⟩
abbrev s_law_sets_right : Stmt := top 49
abbrev N_law_sets_right : List Str := ["_law_generator_here", "_law_check", "_law_whole", "_law_many", "_law_found", "_law_number", "_law_small", "_law_least", "_law_due", "_law_told", "_law_places_here", "_law_step", "_law_place"]
theorem sc_law_sets_right : FnScope N_law_sets_right ["_law_generator_here", "_law_check", "_law_whole", "_law_many"] (defScope s_law_sets_right) := ⟨rfl, rfl, rfl, by decide +kernel, rfl, by decide +kernel, by decide +kernel⟩
abbrev s_law_rows_right : Stmt := top 50
abbrev N_law_rows_right : List Str := ["_law_check", "_law_whole", "_law_many", "_law_rows", "_law_apart", "_law_one", "_law_told", "_law_number", "_law_other"]
theorem sc_law_rows_right : FnScope N_law_rows_right ["_law_check", "_law_whole", "_law_many"] (defScope s_law_rows_right) := ⟨rfl, rfl, rfl, by decide +kernel, rfl, by decide +kernel, by decide +kernel⟩
abbrev s_law_longest : Stmt := top 51
abbrev N_law_longest : List Str := ["_law_whole", "_law_few", "_law_powers", "_law_many", "_law_top", "_law_one", "_law_other", "_law_last"]
theorem sc_law_longest : FnScope N_law_longest ["_law_whole", "_law_few"] (defScope s_law_longest) := ⟨rfl, rfl, rfl, by decide +kernel, rfl, by decide +kernel, by decide +kernel⟩
abbrev s_law : Stmt := top 52
abbrev N_law : List Str := ["_law_script", "_law_index", "_law_generator_here", "_law_width", "_law_low", "_law_few", "_law_check", "_law_whole", "_law_many"]
theorem sc_law : FnScope N_law ["_law_script"] (defScope s_law) := ⟨rfl, rfl, rfl, by decide +kernel, rfl, by decide +kernel, by decide +kernel⟩
abbrev s_Check___init__ : Stmt := inClass (top 16) 0
abbrev N_Check___init__ : List Str := ["self", "width", "low"]
theorem sc_Check___init__ : FnScope N_Check___init__ ["self", "width", "low"] (defScope s_Check___init__) := ⟨rfl, rfl, rfl, by decide +kernel, rfl, by decide +kernel, by decide +kernel⟩
abbrev s_Check_width : Stmt := inClass (top 16) 2
theorem sc_Check_width : FnScope ["self"] ["self"] (defScope s_Check_width) := ⟨rfl, rfl, rfl, by decide +kernel, rfl, by decide +kernel, by decide +kernel⟩
abbrev s_Check_low : Stmt := inClass (top 16) 3
theorem sc_Check_low : FnScope ["self"] ["self"] (defScope s_Check_low) := ⟨rfl, rfl, rfl, by decide +kernel, rfl, by decide +kernel, by decide +kernel⟩
/-- what the top has left -/
structure Top (K : PySem.W.Frag) (mg : Str → Option Value) where
  C_Check : Addr
  gc_Check : mg "Check" = some (.ref C_Check)
  cl_Check : Cls K C_Check
  ic_Check : C8.InsC K C_Check
  na_Check_size : NoAttr K C_Check "size"
  na_Check_tail : NoAttr K C_Check "tail"
  f_is_whole : Addr
  fd_is_whole : FuncData
  F_is_whole : FunD K "is_whole" "is_whole" (defArgs s_is_whole) (defBody s_is_whole) (defScope s_is_whole) [] [] f_is_whole fd_is_whole
  b_is_whole : Binds K fd_is_whole ["value"] []
  g_is_whole : mg "is_whole" = some (.ref f_is_whole)
  f_is_between : Addr
  fd_is_between : FuncData
  F_is_between : FunD K "is_between" "is_between" (defArgs s_is_between) (defBody s_is_between) (defScope s_is_between) [] [] f_is_between fd_is_between
  b_is_between : Binds K fd_is_between ["value", "low", "high"] []
  g_is_between : mg "is_between" = some (.ref f_is_between)
  f_is_bits : Addr
  fd_is_bits : FuncData
  F_is_bits : FunD K "is_bits" "is_bits" (defArgs s_is_bits) (defBody s_is_bits) (defScope s_is_bits) [] [] f_is_bits fd_is_bits
  b_is_bits : Binds K fd_is_bits ["value"] []
  g_is_bits : mg "is_bits" = some (.ref f_is_bits)
  f_bits_of : Addr
  fd_bits_of : FuncData
  F_bits_of : FunD K "bits_of" "bits_of" (defArgs s_bits_of) (defBody s_bits_of) (defScope s_bits_of) [] [] f_bits_of fd_bits_of
  b_bits_of : Binds K fd_bits_of ["number", "many"] []
  g_bits_of : mg "bits_of" = some (.ref f_bits_of)
  f_check_number : Addr
  fd_check_number : FuncData
  F_check_number : FunD K "check_number" "check_number" (defArgs s_check_number) (defBody s_check_number) (defScope s_check_number) [] [] f_check_number fd_check_number
  b_check_number : Binds K fd_check_number ["number", "low", "high"] []
  g_check_number : mg "check_number" = some (.ref f_check_number)
  f_check_bits : Addr
  fd_check_bits : FuncData
  F_check_bits : FunD K "check_bits" "check_bits" (defArgs s_check_bits) (defBody s_check_bits) (defScope s_check_bits) [] [] f_check_bits fd_check_bits
  b_check_bits : Binds K fd_check_bits ["bits"] []
  g_check_bits : mg "check_bits" = some (.ref f_check_bits)
  f_sum_of : Addr
  fd_sum_of : FuncData
  F_sum_of : FunD K "sum_of" "sum_of" (defArgs s_sum_of) (defBody s_sum_of) (defScope s_sum_of) [] [] f_sum_of fd_sum_of
  b_sum_of : Binds K fd_sum_of ["check"] []
  g_sum_of : mg "sum_of" = some (.ref f_sum_of)
  f_check_check : Addr
  fd_check_check : FuncData
  F_check_check : FunD K "check_check" "check_check" (defArgs s_check_check) (defBody s_check_check) (defScope s_check_check) [] [] f_check_check fd_check_check
  b_check_check : Binds K fd_check_check ["check"] []
  g_check_check : mg "check_check" = some (.ref f_check_check)
  f_are_places : Addr
  fd_are_places : FuncData
  F_are_places : FunD K "are_places" "are_places" (defArgs s_are_places) (defBody s_are_places) (defScope s_are_places) [] [] f_are_places fd_are_places
  b_are_places : Binds K fd_are_places ["value"] []
  g_are_places : mg "are_places" = some (.ref f_are_places)
  f_check_places : Addr
  fd_check_places : FuncData
  F_check_places : FunD K "check_places" "check_places" (defArgs s_check_places) (defBody s_check_places) (defScope s_check_places) [] [] f_check_places fd_check_places
  b_check_places : Binds K fd_check_places ["places"] []
  g_check_places : mg "check_places" = some (.ref f_check_places)
  f_shifted : Addr
  fd_shifted : FuncData
  F_shifted : FunD K "shifted" "shifted" (defArgs s_shifted) (defBody s_shifted) (defScope s_shifted) [] [] f_shifted fd_shifted
  b_shifted : Binds K fd_shifted ["check", "one"] []
  g_shifted : mg "shifted" = some (.ref f_shifted)
  f_rest_of : Addr
  fd_rest_of : FuncData
  F_rest_of : FunD K "rest_of" "rest_of" (defArgs s_rest_of) (defBody s_rest_of) (defScope s_rest_of) [] [] f_rest_of fd_rest_of
  b_rest_of : Binds K fd_rest_of ["check", "bits"] []
  g_rest_of : mg "rest_of" = some (.ref f_rest_of)
  f_rest_times : Addr
  fd_rest_times : FuncData
  F_rest_times : FunD K "rest_times" "rest_times" (defArgs s_rest_times) (defBody s_rest_times) (defScope s_rest_times) [] [] f_rest_times fd_rest_times
  b_rest_times : Binds K fd_rest_times ["check", "one", "other"] []
  g_rest_times : mg "rest_times" = some (.ref f_rest_times)
  f_power_of : Addr
  fd_power_of : FuncData
  F_power_of : FunD K "power_of" "power_of" (defArgs s_power_of) (defBody s_power_of) (defScope s_power_of) [] [] f_power_of fd_power_of
  b_power_of : Binds K fd_power_of ["check", "many"] []
  g_power_of : mg "power_of" = some (.ref f_power_of)
  f_sum_at : Addr
  fd_sum_at : FuncData
  F_sum_at : FunD K "sum_at" "sum_at" (defArgs s_sum_at) (defBody s_sum_at) (defScope s_sum_at) [] [] f_sum_at fd_sum_at
  b_sum_at : Binds K fd_sum_at ["check", "places"] []
  g_sum_at : mg "sum_at" = some (.ref f_sum_at)
  f_rest : Addr
  fd_rest : FuncData
  F_rest : FunD K "rest" "rest" (defArgs s_rest) (defBody s_rest) (defScope s_rest) [] [] f_rest fd_rest
  b_rest : Binds K fd_rest ["check", "bits"] []
  g_rest : mg "rest" = some (.ref f_rest)
  f_is_right : Addr
  fd_is_right : FuncData
  F_is_right : FunD K "is_right" "is_right" (defArgs s_is_right) (defBody s_is_right) (defScope s_is_right) [] [] f_is_right fd_is_right
  b_is_right : Binds K fd_is_right ["check", "bits"] []
  g_is_right : mg "is_right" = some (.ref f_is_right)
  f_unseen : Addr
  fd_unseen : FuncData
  F_unseen : FunD K "unseen" "unseen" (defArgs s_unseen) (defBody s_unseen) (defScope s_unseen) [] [] f_unseen fd_unseen
  b_unseen : Binds K fd_unseen ["check", "places"] []
  g_unseen : mg "unseen" = some (.ref f_unseen)
  f_powers_of : Addr
  fd_powers_of : FuncData
  F_powers_of : FunD K "powers_of" "powers_of" (defArgs s_powers_of) (defBody s_powers_of) (defScope s_powers_of) [] [] f_powers_of fd_powers_of
  b_powers_of : Binds K fd_powers_of ["check"] []
  g_powers_of : mg "powers_of" = some (.ref f_powers_of)
  f_spots_of : Addr
  fd_spots_of : FuncData
  F_spots_of : FunD K "spots_of" "spots_of" (defArgs s_spots_of) (defBody s_spots_of) (defScope s_spots_of) [] [] f_spots_of fd_spots_of
  b_spots_of : Binds K fd_spots_of ["powers"] []
  g_spots_of : mg "spots_of" = some (.ref f_spots_of)
  f_least_of_three : Addr
  fd_least_of_three : FuncData
  F_least_of_three : FunD K "least_of_three" "least_of_three" (defArgs s_least_of_three) (defBody s_least_of_three) (defScope s_least_of_three) [] [] f_least_of_three fd_least_of_three
  b_least_of_three : Binds K fd_least_of_three ["powers", "spots"] []
  g_least_of_three : mg "least_of_three" = some (.ref f_least_of_three)
  f_least_of_four : Addr
  fd_least_of_four : FuncData
  F_least_of_four : FunD K "least_of_four" "least_of_four" (defArgs s_least_of_four) (defBody s_least_of_four) (defScope s_least_of_four) [] [] f_least_of_four fd_least_of_four
  b_least_of_four : Binds K fd_least_of_four ["powers", "most"] []
  g_least_of_four : mg "least_of_four" = some (.ref f_least_of_four)
  f_longest_of : Addr
  fd_longest_of : FuncData
  F_longest_of : FunD K "longest_of" "longest_of" (defArgs s_longest_of) (defBody s_longest_of) (defScope s_longest_of) [] [] f_longest_of fd_longest_of
  b_longest_of : Binds K fd_longest_of ["powers", "few"] []
  g_longest_of : mg "longest_of" = some (.ref f_longest_of)
  f_longest : Addr
  fd_longest : FuncData
  F_longest : FunD K "longest" "longest" (defArgs s_longest) (defBody s_longest) (defScope s_longest) [] [] f_longest fd_longest
  b_longest : Binds K fd_longest ["check", "few"] []
  g_longest : mg "longest" = some (.ref f_longest)
  f_distance : Addr
  fd_distance : FuncData
  F_distance : FunD K "distance" "distance" (defArgs s_distance) (defBody s_distance) (defScope s_distance) [] [] f_distance fd_distance
  b_distance : Binds K fd_distance ["check", "many"] []
  g_distance : mg "distance" = some (.ref f_distance)
  f_first_four : Addr
  fd_first_four : FuncData
  F_first_four : FunD K "first_four" "first_four" (defArgs s_first_four) (defBody s_first_four) (defScope s_first_four) [] [] f_first_four fd_first_four
  b_first_four : Binds K fd_first_four ["powers", "spots", "many"] []
  g_first_four : mg "first_four" = some (.ref f_first_four)
  f_least_unseen : Addr
  fd_least_unseen : FuncData
  F_least_unseen : FunD K "least_unseen" "least_unseen" (defArgs s_least_unseen) (defBody s_least_unseen) (defScope s_least_unseen) [] [] f_least_unseen fd_least_unseen
  b_least_unseen : Binds K fd_least_unseen ["check", "many"] []
  g_least_unseen : mg "least_unseen" = some (.ref f_least_unseen)
  f_ones_in : Addr
  fd_ones_in : FuncData
  F_ones_in : FunD K "ones_in" "ones_in" (defArgs s_ones_in) (defBody s_ones_in) (defScope s_ones_in) [] [] f_ones_in fd_ones_in
  b_ones_in : Binds K fd_ones_in ["number"] []
  g_ones_in : mg "ones_in" = some (.ref f_ones_in)
  f_all_odd : Addr
  fd_all_odd : FuncData
  F_all_odd : FunD K "all_odd" "all_odd" (defArgs s_all_odd) (defBody s_all_odd) (defScope s_all_odd) [] [] f_all_odd fd_all_odd
  b_all_odd : Binds K fd_all_odd ["check"] []
  g_all_odd : mg "all_odd" = some (.ref f_all_odd)
  f_law_hash : Addr
  fd_law_hash : FuncData
  F_law_hash : FunD K "_law_hash" "_law_hash" (defArgs s_law_hash) (defBody s_law_hash) (defScope s_law_hash) [] [] f_law_hash fd_law_hash
  b_law_hash : Binds K fd_law_hash ["_law_seed", "_law_index"] []
  g_law_hash : mg "_law_hash" = some (.ref f_law_hash)
  f_law_random : Addr
  fd_law_random : FuncData
  F_law_random : FunD K "_law_random" "_law_random" (defArgs s_law_random) (defBody s_law_random) (defScope s_law_random) [] [] f_law_random fd_law_random
  b_law_random : Binds K fd_law_random ["_law_generator_here", "_law_bound"] []
  g_law_random : mg "_law_random" = some (.ref f_law_random)
  f_law_cell : Addr
  fd_law_cell : FuncData
  F_law_cell : FunD K "_law_cell" "_law_cell" (defArgs s_law_cell) (defBody s_law_cell) (defScope s_law_cell) [] [] f_law_cell fd_law_cell
  b_law_cell : Binds K fd_law_cell ["_law_script", "_law_index"] []
  g_law_cell : mg "_law_cell" = some (.ref f_law_cell)
  f_law_generator : Addr
  fd_law_generator : FuncData
  F_law_generator : FunD K "_law_generator" "_law_generator" (defArgs s_law_generator) (defBody s_law_generator) (defScope s_law_generator) [] [] f_law_generator fd_law_generator
  b_law_generator : Binds K fd_law_generator ["_law_script", "_law_index"] []
  g_law_generator : mg "_law_generator" = some (.ref f_law_generator)
  f_law_rest : Addr
  fd_law_rest : FuncData
  F_law_rest : FunD K "_law_rest" "_law_rest" (defArgs s_law_rest) (defBody s_law_rest) (defScope s_law_rest) [] [] f_law_rest fd_law_rest
  b_law_rest : Binds K fd_law_rest ["_law_whole", "_law_number"] []
  g_law_rest : mg "_law_rest" = some (.ref f_law_rest)
  f_law_bits : Addr
  fd_law_bits : FuncData
  F_law_bits : FunD K "_law_bits" "_law_bits" (defArgs s_law_bits) (defBody s_law_bits) (defScope s_law_bits) [] [] f_law_bits fd_law_bits
  b_law_bits : Binds K fd_law_bits ["_law_number", "_law_many"] []
  g_law_bits : mg "_law_bits" = some (.ref f_law_bits)
  f_law_drawn : Addr
  fd_law_drawn : FuncData
  F_law_drawn : FunD K "_law_drawn" "_law_drawn" (defArgs s_law_drawn) (defBody s_law_drawn) (defScope s_law_drawn) [] [] f_law_drawn fd_law_drawn
  b_law_drawn : Binds K fd_law_drawn ["_law_generator_here", "_law_width"] []
  g_law_drawn : mg "_law_drawn" = some (.ref f_law_drawn)
  f_law_places : Addr
  fd_law_places : FuncData
  F_law_places : FunD K "_law_places" "_law_places" (defArgs s_law_places) (defBody s_law_places) (defScope s_law_places) [] [] f_law_places fd_law_places
  b_law_places : Binds K fd_law_places ["_law_number"] []
  g_law_places : mg "_law_places" = some (.ref f_law_places)
  f_law_sets_right : Addr
  fd_law_sets_right : FuncData
  F_law_sets_right : FunD K "_law_sets_right" "_law_sets_right" (defArgs s_law_sets_right) (defBody s_law_sets_right) (defScope s_law_sets_right) [] [] f_law_sets_right fd_law_sets_right
  b_law_sets_right : Binds K fd_law_sets_right ["_law_generator_here", "_law_check", "_law_whole", "_law_many"] []
  g_law_sets_right : mg "_law_sets_right" = some (.ref f_law_sets_right)
  f_law_rows_right : Addr
  fd_law_rows_right : FuncData
  F_law_rows_right : FunD K "_law_rows_right" "_law_rows_right" (defArgs s_law_rows_right) (defBody s_law_rows_right) (defScope s_law_rows_right) [] [] f_law_rows_right fd_law_rows_right
  b_law_rows_right : Binds K fd_law_rows_right ["_law_check", "_law_whole", "_law_many"] []
  g_law_rows_right : mg "_law_rows_right" = some (.ref f_law_rows_right)
  f_law_longest : Addr
  fd_law_longest : FuncData
  F_law_longest : FunD K "_law_longest" "_law_longest" (defArgs s_law_longest) (defBody s_law_longest) (defScope s_law_longest) [] [] f_law_longest fd_law_longest
  b_law_longest : Binds K fd_law_longest ["_law_whole", "_law_few"] []
  g_law_longest : mg "_law_longest" = some (.ref f_law_longest)
  f_law : Addr
  fd_law : FuncData
  F_law : FunD K "law" "law" (defArgs s_law) (defBody s_law) (defScope s_law) [] [] f_law fd_law
  b_law : Binds K fd_law ["_law_script"] []
  g_law : mg "law" = some (.ref f_law)
  f_Check___init__ : Addr
  fd_Check___init__ : FuncData
  F_Check___init__ : FunD K "__init__" "Check.__init__" (defArgs s_Check___init__) (defBody s_Check___init__) (defScope s_Check___init__) [] [] f_Check___init__ fd_Check___init__
  b_Check___init__ : Binds K fd_Check___init__ ["self", "width", "low"] []
  me_Check___init__ : Meth K C_Check "__init__" f_Check___init__
  mk_Check : Mk K C_Check f_Check___init__
  pp_Check_width : Addr
  pg_Check_width : Addr
  po_Check_width : PropOf K C_Check "width" pp_Check_width pg_Check_width
  fdp_Check_width : FuncData
  Fp_Check_width : FunD K "width" "Check.width" (defArgs s_Check_width) (defBody s_Check_width) (defScope s_Check_width) [] [] pg_Check_width fdp_Check_width
  bp_Check_width : Binds K fdp_Check_width ["self"] []
  pp_Check_low : Addr
  pg_Check_low : Addr
  po_Check_low : PropOf K C_Check "low" pp_Check_low pg_Check_low
  fdp_Check_low : FuncData
  Fp_Check_low : FunD K "low" "Check.low" (defArgs s_Check_low) (defBody s_Check_low) (defScope s_Check_low) [] [] pg_Check_low fdp_Check_low
  bp_Check_low : Binds K fdp_Check_low ["self"] []
  n_len : mg "len" = none
  n_sum : mg "sum" = none
  n_max : mg "max" = none
  n_min : mg "min" = none
  n_int : mg "int" = none
  n_bool : mg "bool" = none
  n_list : mg "list" = none
  n_str : mg "str" = none
  n_range : mg "range" = none
  n_isinstance : mg "isinstance" = none
  n_enumerate : mg "enumerate" = none
  n_zip : mg "zip" = none
  n_sorted : mg "sorted" = none
  n_repr : mg "repr" = none
  n_all : mg "all" = none
  t_MOST_WIDTH : Tok
  m_MOST_WIDTH : mg "MOST_WIDTH" = some (.int 16 t_MOST_WIDTH)
  t_MOST_PLACE : Tok
  m_MOST_PLACE : mg "MOST_PLACE" = some (.int 1000000000000000000 t_MOST_PLACE)
def d_is_whole : He.DefD := ⟨("is_whole", none), "is_whole", "is_whole", defArgs s_is_whole, defBody s_is_whole, defScope s_is_whole, [], []⟩
def d_is_between : He.DefD := ⟨("is_between", none), "is_between", "is_between", defArgs s_is_between, defBody s_is_between, defScope s_is_between, [], []⟩
def d_is_bits : He.DefD := ⟨("is_bits", none), "is_bits", "is_bits", defArgs s_is_bits, defBody s_is_bits, defScope s_is_bits, [], []⟩
def d_bits_of : He.DefD := ⟨("bits_of", none), "bits_of", "bits_of", defArgs s_bits_of, defBody s_bits_of, defScope s_bits_of, [], []⟩
def d_check_number : He.DefD := ⟨("check_number", none), "check_number", "check_number", defArgs s_check_number, defBody s_check_number, defScope s_check_number, [], []⟩
def d_check_bits : He.DefD := ⟨("check_bits", none), "check_bits", "check_bits", defArgs s_check_bits, defBody s_check_bits, defScope s_check_bits, [], []⟩
def d_sum_of : He.DefD := ⟨("sum_of", none), "sum_of", "sum_of", defArgs s_sum_of, defBody s_sum_of, defScope s_sum_of, [], []⟩
def d_check_check : He.DefD := ⟨("check_check", none), "check_check", "check_check", defArgs s_check_check, defBody s_check_check, defScope s_check_check, [], []⟩
def d_are_places : He.DefD := ⟨("are_places", none), "are_places", "are_places", defArgs s_are_places, defBody s_are_places, defScope s_are_places, [], []⟩
def d_check_places : He.DefD := ⟨("check_places", none), "check_places", "check_places", defArgs s_check_places, defBody s_check_places, defScope s_check_places, [], []⟩
def d_shifted : He.DefD := ⟨("shifted", none), "shifted", "shifted", defArgs s_shifted, defBody s_shifted, defScope s_shifted, [], []⟩
def d_rest_of : He.DefD := ⟨("rest_of", none), "rest_of", "rest_of", defArgs s_rest_of, defBody s_rest_of, defScope s_rest_of, [], []⟩
def d_rest_times : He.DefD := ⟨("rest_times", none), "rest_times", "rest_times", defArgs s_rest_times, defBody s_rest_times, defScope s_rest_times, [], []⟩
def d_power_of : He.DefD := ⟨("power_of", none), "power_of", "power_of", defArgs s_power_of, defBody s_power_of, defScope s_power_of, [], []⟩
def d_sum_at : He.DefD := ⟨("sum_at", none), "sum_at", "sum_at", defArgs s_sum_at, defBody s_sum_at, defScope s_sum_at, [], []⟩
def d_rest : He.DefD := ⟨("rest", none), "rest", "rest", defArgs s_rest, defBody s_rest, defScope s_rest, [], []⟩
def d_is_right : He.DefD := ⟨("is_right", none), "is_right", "is_right", defArgs s_is_right, defBody s_is_right, defScope s_is_right, [], []⟩
def d_unseen : He.DefD := ⟨("unseen", none), "unseen", "unseen", defArgs s_unseen, defBody s_unseen, defScope s_unseen, [], []⟩
def d_powers_of : He.DefD := ⟨("powers_of", none), "powers_of", "powers_of", defArgs s_powers_of, defBody s_powers_of, defScope s_powers_of, [], []⟩
def d_spots_of : He.DefD := ⟨("spots_of", none), "spots_of", "spots_of", defArgs s_spots_of, defBody s_spots_of, defScope s_spots_of, [], []⟩
def d_least_of_three : He.DefD := ⟨("least_of_three", none), "least_of_three", "least_of_three", defArgs s_least_of_three, defBody s_least_of_three, defScope s_least_of_three, [], []⟩
def d_least_of_four : He.DefD := ⟨("least_of_four", none), "least_of_four", "least_of_four", defArgs s_least_of_four, defBody s_least_of_four, defScope s_least_of_four, [], []⟩
def d_longest_of : He.DefD := ⟨("longest_of", none), "longest_of", "longest_of", defArgs s_longest_of, defBody s_longest_of, defScope s_longest_of, [], []⟩
def d_longest : He.DefD := ⟨("longest", none), "longest", "longest", defArgs s_longest, defBody s_longest, defScope s_longest, [], []⟩
def d_distance : He.DefD := ⟨("distance", none), "distance", "distance", defArgs s_distance, defBody s_distance, defScope s_distance, [], []⟩
def d_first_four : He.DefD := ⟨("first_four", none), "first_four", "first_four", defArgs s_first_four, defBody s_first_four, defScope s_first_four, [], []⟩
def d_least_unseen : He.DefD := ⟨("least_unseen", none), "least_unseen", "least_unseen", defArgs s_least_unseen, defBody s_least_unseen, defScope s_least_unseen, [], []⟩
def d_ones_in : He.DefD := ⟨("ones_in", none), "ones_in", "ones_in", defArgs s_ones_in, defBody s_ones_in, defScope s_ones_in, [], []⟩
def d_all_odd : He.DefD := ⟨("all_odd", none), "all_odd", "all_odd", defArgs s_all_odd, defBody s_all_odd, defScope s_all_odd, [], []⟩
def d_law_hash : He.DefD := ⟨("_law_hash", none), "_law_hash", "_law_hash", defArgs s_law_hash, defBody s_law_hash, defScope s_law_hash, [], []⟩
def d_law_random : He.DefD := ⟨("_law_random", none), "_law_random", "_law_random", defArgs s_law_random, defBody s_law_random, defScope s_law_random, [], []⟩
def d_law_cell : He.DefD := ⟨("_law_cell", none), "_law_cell", "_law_cell", defArgs s_law_cell, defBody s_law_cell, defScope s_law_cell, [], []⟩
def d_law_generator : He.DefD := ⟨("_law_generator", none), "_law_generator", "_law_generator", defArgs s_law_generator, defBody s_law_generator, defScope s_law_generator, [], []⟩
def d_law_rest : He.DefD := ⟨("_law_rest", none), "_law_rest", "_law_rest", defArgs s_law_rest, defBody s_law_rest, defScope s_law_rest, [], []⟩
def d_law_bits : He.DefD := ⟨("_law_bits", none), "_law_bits", "_law_bits", defArgs s_law_bits, defBody s_law_bits, defScope s_law_bits, [], []⟩
def d_law_drawn : He.DefD := ⟨("_law_drawn", none), "_law_drawn", "_law_drawn", defArgs s_law_drawn, defBody s_law_drawn, defScope s_law_drawn, [], []⟩
def d_law_places : He.DefD := ⟨("_law_places", none), "_law_places", "_law_places", defArgs s_law_places, defBody s_law_places, defScope s_law_places, [], []⟩
def d_law_sets_right : He.DefD := ⟨("_law_sets_right", none), "_law_sets_right", "_law_sets_right", defArgs s_law_sets_right, defBody s_law_sets_right, defScope s_law_sets_right, [], []⟩
def d_law_rows_right : He.DefD := ⟨("_law_rows_right", none), "_law_rows_right", "_law_rows_right", defArgs s_law_rows_right, defBody s_law_rows_right, defScope s_law_rows_right, [], []⟩
def d_law_longest : He.DefD := ⟨("_law_longest", none), "_law_longest", "_law_longest", defArgs s_law_longest, defBody s_law_longest, defScope s_law_longest, [], []⟩
def d_law : He.DefD := ⟨("law", none), "law", "law", defArgs s_law, defBody s_law, defScope s_law, [], []⟩
def d_Check___init__ : He.DefD := ⟨("Check", some "__init__"), "__init__", "Check.__init__", defArgs s_Check___init__, defBody s_Check___init__, defScope s_Check___init__, [], []⟩
def fn : List He.DefD := [d_is_whole, d_is_between, d_is_bits, d_bits_of, d_check_number, d_check_bits, d_sum_of, d_check_check, d_are_places, d_check_places, d_shifted, d_rest_of, d_rest_times, d_power_of, d_sum_at, d_rest, d_is_right, d_unseen, d_powers_of, d_spots_of, d_least_of_three, d_least_of_four, d_longest_of, d_longest, d_distance, d_first_four, d_least_unseen, d_ones_in, d_all_odd, d_law_hash, d_law_random, d_law_cell, d_law_generator, d_law_rest, d_law_bits, d_law_drawn, d_law_places, d_law_sets_right, d_law_rows_right, d_law_longest, d_law, d_Check___init__]
def fa0 : List He.Fa := [.glo "is_whole", .glo "is_between", .glo "is_bits", .glo "bits_of", .glo "check_number", .glo "check_bits", .glo "sum_of", .glo "check_check", .glo "are_places", .glo "check_places", .glo "shifted", .glo "rest_of", .glo "rest_times", .glo "power_of", .glo "sum_at", .glo "rest", .glo "is_right", .glo "unseen", .glo "powers_of", .glo "spots_of", .glo "least_of_three", .glo "least_of_four", .glo "longest_of", .glo "longest", .glo "distance", .glo "first_four", .glo "least_unseen", .glo "ones_in", .glo "all_odd", .glo "_law_hash"]
def fa1 : List He.Fa := [.glo "_law_random", .glo "_law_cell", .glo "_law_generator", .glo "_law_rest", .glo "_law_bits", .glo "_law_drawn", .glo "_law_places", .glo "_law_sets_right", .glo "_law_rows_right", .glo "_law_longest", .glo "law", .free "len", .free "sum", .free "max", .free "min", .free "int", .free "bool", .free "list", .free "str", .free "range", .free "isinstance", .free "enumerate", .free "zip", .free "sorted", .free "repr", .free "all", .int "MOST_WIDTH" 16, .int "MOST_PLACE" 1000000000000000000, .glo "Check", .cls "Check"]
def fa2 : List He.Fa := [.noat "Check" "size", .noat "Check" "tail", .mkr "Check", .meth "Check" "__init__"]
def fa : List He.Fa := fa0 ++ fa1 ++ fa2
/-- isinstance of an own class -/
def insB (K : PySem.W.Frag) (x : Str) : Bool := decide (PySem.W.findIn K (.ref (He.ga K x)) "__class__" = some (some (.builtin "object.__class__"))) && (decide (PySem.W.specialIn K (.builtin "object.__class__") "__get__" = some (some (.builtin "getset_descriptor.__get__"))) && (decide (PySem.W.takesIn K (.builtin "object.__class__") = some true) && (decide (PySem.W.mroIn K (He.ga K x) (.type "object") = some true) && decide (PySem.W.kitOne K (.ref (He.ga K x)) (.ref (He.ga K x)) = some true))))
theorem insB_ok {K : PySem.W.Frag} {x : Str} (cl : Cls K (He.ga K x)) (h : insB K x = true) : C8.InsC K (He.ga K x) := by
  unfold insB at h
  simp only [Bool.and_eq_true, decide_eq_true_eq] at h
  exact ⟨cl, h.1, h.2.1, h.2.2.1, h.2.2.2.1, h.2.2.2.2⟩
def eqB (K : PySem.W.Frag) (x : Str) : Bool := decide (PySem.W.findIn K (.ref (He.ga K x)) "__ne__" = some (some (.builtin "object.__ne__"))) && (decide (PySem.W.subIn K (.ref (He.ga K x)) (.type "object") = some true) && (decide (PySem.W.subIn K (.type "list") (.ref (He.ga K x)) = some false) && (decide (PySem.W.kitOne K (.type "list") (.ref (He.ga K x)) = some false) && (decide (PySem.W.subIn K (.type "tuple") (.ref (He.ga K x)) = some false) && decide (PySem.W.kitOne K (.type "tuple") (.ref (He.ga K x)) = some false)))))
def eqs : List Str := []
def own : List Str := ["Check"]
def ex (K : PySem.W.Frag) : Bool := (own.all fun x => insB K x) && eqs.all fun x => eqB K x
abbrev R : PySem.W.OpenRow := PySem.W.OpenLaw.row PySem.Challenge.rw_wholesound_k61_unseen_by_all
/-- properties: the getter's place, what is asked of it -/
def pgA (K : PySem.W.Frag) (x f : Str) : Addr := match PySem.W.recIn K (He.ma K (He.ga K x) f) "property" with
  | some (.ref a :: _) => a
  | _ => 0
def prB (K : PySem.W.Frag) (x f q : Str) : Bool := decide (PySem.W.findIn K (.ref (He.ga K x)) f = some (some (.ref (He.ma K (He.ga K x) f)))) && (decide (PySem.W.specialIn K (.ref (He.ma K (He.ga K x) f)) "__get__" = some (some (.builtin "property.__get__"))) && (decide (PySem.W.takesIn K (.ref (He.ma K (He.ga K x) f)) = some true) && ((match PySem.W.recIn K (He.ma K (He.ga K x) f) "property" with
  | some (.ref _ :: _) => true
  | _ => false) && (PySem.W.keepIn K (.ref (pgA K x f)) && (match K.lookup (pgA K x f) with
  | some ⟨_, _, .func fd, _⟩ => PySem.W.codeIn K fd.code q && (He.dflB K fd.defaults [] && He.kwdB K fd.kwdefaults [])
  | _ => false)))))
def prW (K : PySem.W.Frag) (x f : Str) : He.FnW := match K.lookup (pgA K x f) with
  | some ⟨_, _, .func fd, _⟩ => some (fd.name, fd.qualname, fd.params, fd.body, fd.scope, fd.globals, fd.closure, fd.builtins)
  | _ => none
theorem prop_ok {K : PySem.W.Frag} {z : Str × Str × Str} (h : prB K z.1 z.2.1 z.2.2 = true) : PropOf K (He.ga K z.1) z.2.1 (He.ma K (He.ga K z.1) z.2.1) (pgA K z.1 z.2.1) := by
  obtain ⟨h1, h⟩ := He.ba h
  obtain ⟨h2, h⟩ := He.ba h
  obtain ⟨h3, h⟩ := He.ba h
  obtain ⟨h4, _⟩ := He.ba h
  refine ⟨of_decide_eq_true h1, of_decide_eq_true h2, of_decide_eq_true h3, ?_⟩
  unfold pgA
  cases e : PySem.W.recIn K (He.ma K (He.ga K z.1) z.2.1) "property" with
  | none => rw [e] at h4; cases h4
  | some l =>
    cases l with
    | nil => rw [e] at h4; cases h4
    | cons v r =>
      cases v with
      | ref a => exact ⟨r, rfl⟩
      | _ => rw [e] at h4; cases h4
theorem prop_fn {K : PySem.W.Frag} {z : Str × Str × Str} {name : Str} {params : Arguments} {body : List Stmt} {scope : Scope} (h : prB K z.1 z.2.1 z.2.2 = true) (e : prW K z.1 z.2.1 = some (name, z.2.2, params, .stmts body, scope, mainGlobals, [], builtinsNs)) : ∃ fd, FunD K name z.2.2 params body scope [] [] (pgA K z.1 z.2.1) fd := by
  obtain ⟨_, h⟩ := He.ba h
  obtain ⟨_, h⟩ := He.ba h
  obtain ⟨_, h⟩ := He.ba h
  obtain ⟨_, h⟩ := He.ba h
  obtain ⟨kp, c2⟩ := He.ba h
  unfold prW at e
  cases q : K.lookup (pgA K z.1 z.2.1) with
  | none => rw [q] at c2; cases c2
  | some o =>
    obtain ⟨oc, od, dt, osl⟩ := o
    rw [q] at c2 e
    cases dt with
    | func fd =>
      obtain ⟨n1, n2, n3, n4, n5, n6, n7, n8, n9, n10, n11, n12, n13, n14, n15⟩ := fd
      have e2 : (some (n1, n2, n3, n4, n5, n6, n7, n15) : He.FnW) = some (name, z.2.2, params, .stmts body, scope, mainGlobals, [], builtinsNs) := e
      simp only [Option.some.injEq, Prod.mk.injEq] at e2
      obtain ⟨h1, h2, h3, h4, h5, h6, h7, h8⟩ := e2
      subst h1 h2 h3 h4 h5 h6 h7 h8
      obtain ⟨k1, k2⟩ := He.ba (show (PySem.W.codeIn K n13 z.2.2 && (He.dflB K n8 [] && He.kwdB K n9 [])) = true from c2)
      obtain ⟨k3, k4⟩ := He.ba k2
      exact ⟨_, ⟨oc, od, n8, n9, n10, n11, n12, n13, n14, osl, rfl, q, k1, He.dflB_ok k3, He.kwdB_ok k4⟩, kp⟩
    | _ => cases c2
theorem prV_at {K : PySem.W.Frag} {ps : List (Str × Str × Str)} {vs : List He.FnW} (e : (ps.map fun z => prW K z.1 z.2.1) = vs) (i : Nat) {z : Str × Str × Str} {v : He.FnW} (hz : ps[i]? = some z) (hv : vs[i]? = some v) : prW K z.1 z.2.1 = v := by
  rw [← e, List.getElem?_map, hz] at hv
  exact Option.some.inj hv
def prs : List (Str × Str × Str) := [("Check", "width", "Check.width"), ("Check", "low", "Check.low")]
def prV : List He.FnW := [some ("width", "Check.width", defArgs s_Check_width, .stmts (defBody s_Check_width), defScope s_Check_width, mainGlobals, [], builtinsNs), some ("low", "Check.low", defArgs s_Check_low, .stmts (defBody s_Check_low), defScope s_Check_low, mainGlobals, [], builtinsNs)]
def exP (K : PySem.W.Frag) : Bool := ex K && prs.all fun z => prB K z.1 z.2.1 z.2.2
def exW (K : PySem.W.Frag) : List He.FnW := prs.map fun z => prW K z.1 z.2.1
abbrev Al : Type := He.AlD × Bool × List He.FnW
def obsG (g : Addr → Option Obj) : Al := (He.obsDG 5 fa fn g, exP (He.frG g (He.asD g 5)), exW (He.frG g (He.asD g 5)))
def Says (K : PySem.W.Frag) : Prop := He.SaysD fa fn K ∧ ex K = true ∧ (∀ z ∈ prs, prB K z.1 z.2.1 z.2.2 = true) ∧ exW K = prV
theorem says_of {K : PySem.W.Frag} (e : (He.obsD fa fn K, exP K, exW K) = ((He.valD fn, true, prV) : Al)) : Says K := by
  have e1 := congrArg Prod.fst e
  have e2 := congrArg (fun z : Al => z.2.1) e
  have e3 := congrArg (fun z : Al => z.2.2) e
  have e4 := Bool.and_eq_true_iff.mp e2
  exact ⟨e1, e4.1, List.all_eq_true.mp e4.2, e3⟩
def hk : PySem.W.Hook where
  α := Al
  obs := fun s => obsG s.heap.get?
  val := fun _ => (He.valD fn, true, prV)
  says := fun _ h => ∃ K : PySem.W.Frag, K.In h ∧ Says K
  of := fun _ _ e => ⟨_, He.frG_in, says_of e⟩
  keeps := fun _ _ _ ⟨K, hK, c⟩ k => ⟨K, PySem.W.Frag.In.keeps hK k, c⟩
def ob (s : PySem.W.SharedT) : Al := obsG (HandSHeadRun.getT s)
theorem ob_eq (s : PySem.W.SharedT) : ob s = hk.obs s.abs := by
  have e : HandSHeadRun.getT s = s.abs.heap.get? := funext (HandSHeadRun.getT_eq s)
  show obsG (HandSHeadRun.getT s) = obsG s.abs.heap.get?
  rw [e]
def loose0 : List PySem.Str := ["SoundError", "InvalidNumber", "InvalidCheck", "InvalidBits", "InvalidPlaces", "is_whole", "is_between", "is_bits", "bits_of", "check_number", "check_bits", "MOST_WIDTH", "MOST_PLACE", "Check", "sum_of", "check_check", "are_places", "check_places", "shifted", "rest_of", "rest_times", "power_of", "sum_at", "rest", "is_right", "unseen", "powers_of", "spots_of", "least_of_three", "least_of_four"]
def loose1 : List PySem.Str := ["longest_of", "longest", "distance", "first_four", "least_unseen", "ones_in", "all_odd", "_law_hash", "_law_random", "_law_cell", "_law_generator", "_law_rest", "_law_bits", "_law_drawn", "_law_places", "_law_sets_right", "_law_rows_right", "_law_longest"]
abbrev loose : List PySem.Str := loose0 ++ loose1
theorem run (w : World) : HandSHeadRun.RunEq R (PySem.W.view R.prog [52]) hk ob 8000 loose w := by
  intro os
  kernel_rfl
noncomputable def top_mk {K : PySem.W.Frag} {h : Heap} {mg : Str → Option Value} (X : K.In h) (G : h.Ns mainGlobals mg) (c : Says K) : Top K mg :=
  let p0 := c.1.def_ 0 (d := d_is_whole) rfl
  let p1 := c.1.def_ 1 (d := d_is_between) rfl
  let p2 := c.1.def_ 2 (d := d_is_bits) rfl
  let p3 := c.1.def_ 3 (d := d_bits_of) rfl
  let p4 := c.1.def_ 4 (d := d_check_number) rfl
  let p5 := c.1.def_ 5 (d := d_check_bits) rfl
  let p6 := c.1.def_ 6 (d := d_sum_of) rfl
  let p7 := c.1.def_ 7 (d := d_check_check) rfl
  let p8 := c.1.def_ 8 (d := d_are_places) rfl
  let p9 := c.1.def_ 9 (d := d_check_places) rfl
  let p10 := c.1.def_ 10 (d := d_shifted) rfl
  let p11 := c.1.def_ 11 (d := d_rest_of) rfl
  let p12 := c.1.def_ 12 (d := d_rest_times) rfl
  let p13 := c.1.def_ 13 (d := d_power_of) rfl
  let p14 := c.1.def_ 14 (d := d_sum_at) rfl
  let p15 := c.1.def_ 15 (d := d_rest) rfl
  let p16 := c.1.def_ 16 (d := d_is_right) rfl
  let p17 := c.1.def_ 17 (d := d_unseen) rfl
  let p18 := c.1.def_ 18 (d := d_powers_of) rfl
  let p19 := c.1.def_ 19 (d := d_spots_of) rfl
  let p20 := c.1.def_ 20 (d := d_least_of_three) rfl
  let p21 := c.1.def_ 21 (d := d_least_of_four) rfl
  let p22 := c.1.def_ 22 (d := d_longest_of) rfl
  let p23 := c.1.def_ 23 (d := d_longest) rfl
  let p24 := c.1.def_ 24 (d := d_distance) rfl
  let p25 := c.1.def_ 25 (d := d_first_four) rfl
  let p26 := c.1.def_ 26 (d := d_least_unseen) rfl
  let p27 := c.1.def_ 27 (d := d_ones_in) rfl
  let p28 := c.1.def_ 28 (d := d_all_odd) rfl
  let p29 := c.1.def_ 29 (d := d_law_hash) rfl
  let p30 := c.1.def_ 30 (d := d_law_random) rfl
  let p31 := c.1.def_ 31 (d := d_law_cell) rfl
  let p32 := c.1.def_ 32 (d := d_law_generator) rfl
  let p33 := c.1.def_ 33 (d := d_law_rest) rfl
  let p34 := c.1.def_ 34 (d := d_law_bits) rfl
  let p35 := c.1.def_ 35 (d := d_law_drawn) rfl
  let p36 := c.1.def_ 36 (d := d_law_places) rfl
  let p37 := c.1.def_ 37 (d := d_law_sets_right) rfl
  let p38 := c.1.def_ 38 (d := d_law_rows_right) rfl
  let p39 := c.1.def_ 39 (d := d_law_longest) rfl
  let p40 := c.1.def_ 40 (d := d_law) rfl
  let p41 := c.1.def_ 41 (d := d_Check___init__) rfl
  let q0 := He.int_ok X G (c.1.fact 56 (f := .int "MOST_WIDTH" 16) rfl)
  let q1 := He.int_ok X G (c.1.fact 57 (f := .int "MOST_PLACE" 1000000000000000000) rfl)
  let r0 := prop_fn (c.2.2.1 ("Check", "width", "Check.width") (by decide +kernel)) (prV_at c.2.2.2 0 (z := ("Check", "width", "Check.width")) rfl rfl)
  let r1 := prop_fn (c.2.2.1 ("Check", "low", "Check.low") (by decide +kernel)) (prV_at c.2.2.2 1 (z := ("Check", "low", "Check.low")) rfl rfl)
  { C_Check := _, gc_Check := He.glo_ok X G (c.1.fact 58 (f := .glo "Check") rfl), cl_Check := He.cls_ok (c.1.fact 59 (f := .cls "Check") rfl), ic_Check := insB_ok (x := "Check") (He.cls_ok (c.1.fact 59 (f := .cls "Check") rfl)) (List.all_eq_true.mp (Bool.and_eq_true_iff.mp c.2.1).1 "Check" (by decide +kernel)),
    na_Check_size := He.noat_ok (c.1.fact 60 (f := .noat "Check" "size") rfl),
    na_Check_tail := He.noat_ok (c.1.fact 61 (f := .noat "Check" "tail") rfl),
    f_is_whole := _, fd_is_whole := p0.choose, F_is_whole := p0.choose_spec, b_is_whole := p0.choose_spec.bindsN fun _ _ _ _ _ _ us hl => match us, hl with | [_], _ => rfl, g_is_whole := He.glo_ok X G (c.1.fact 0 (f := .glo "is_whole") rfl),
    f_is_between := _, fd_is_between := p1.choose, F_is_between := p1.choose_spec, b_is_between := p1.choose_spec.bindsN fun _ _ _ _ _ _ us hl => match us, hl with | [_, _, _], _ => rfl, g_is_between := He.glo_ok X G (c.1.fact 1 (f := .glo "is_between") rfl),
    f_is_bits := _, fd_is_bits := p2.choose, F_is_bits := p2.choose_spec, b_is_bits := p2.choose_spec.bindsN fun _ _ _ _ _ _ us hl => match us, hl with | [_], _ => rfl, g_is_bits := He.glo_ok X G (c.1.fact 2 (f := .glo "is_bits") rfl),
    f_bits_of := _, fd_bits_of := p3.choose, F_bits_of := p3.choose_spec, b_bits_of := p3.choose_spec.bindsN fun _ _ _ _ _ _ us hl => match us, hl with | [_, _], _ => rfl, g_bits_of := He.glo_ok X G (c.1.fact 3 (f := .glo "bits_of") rfl),
    f_check_number := _, fd_check_number := p4.choose, F_check_number := p4.choose_spec, b_check_number := p4.choose_spec.bindsN fun _ _ _ _ _ _ us hl => match us, hl with | [_, _, _], _ => rfl, g_check_number := He.glo_ok X G (c.1.fact 4 (f := .glo "check_number") rfl),
    f_check_bits := _, fd_check_bits := p5.choose, F_check_bits := p5.choose_spec, b_check_bits := p5.choose_spec.bindsN fun _ _ _ _ _ _ us hl => match us, hl with | [_], _ => rfl, g_check_bits := He.glo_ok X G (c.1.fact 5 (f := .glo "check_bits") rfl),
    f_sum_of := _, fd_sum_of := p6.choose, F_sum_of := p6.choose_spec, b_sum_of := p6.choose_spec.bindsN fun _ _ _ _ _ _ us hl => match us, hl with | [_], _ => rfl, g_sum_of := He.glo_ok X G (c.1.fact 6 (f := .glo "sum_of") rfl),
    f_check_check := _, fd_check_check := p7.choose, F_check_check := p7.choose_spec, b_check_check := p7.choose_spec.bindsN fun _ _ _ _ _ _ us hl => match us, hl with | [_], _ => rfl, g_check_check := He.glo_ok X G (c.1.fact 7 (f := .glo "check_check") rfl),
    f_are_places := _, fd_are_places := p8.choose, F_are_places := p8.choose_spec, b_are_places := p8.choose_spec.bindsN fun _ _ _ _ _ _ us hl => match us, hl with | [_], _ => rfl, g_are_places := He.glo_ok X G (c.1.fact 8 (f := .glo "are_places") rfl),
    f_check_places := _, fd_check_places := p9.choose, F_check_places := p9.choose_spec, b_check_places := p9.choose_spec.bindsN fun _ _ _ _ _ _ us hl => match us, hl with | [_], _ => rfl, g_check_places := He.glo_ok X G (c.1.fact 9 (f := .glo "check_places") rfl),
    f_shifted := _, fd_shifted := p10.choose, F_shifted := p10.choose_spec, b_shifted := p10.choose_spec.bindsN fun _ _ _ _ _ _ us hl => match us, hl with | [_, _], _ => rfl, g_shifted := He.glo_ok X G (c.1.fact 10 (f := .glo "shifted") rfl),
    f_rest_of := _, fd_rest_of := p11.choose, F_rest_of := p11.choose_spec, b_rest_of := p11.choose_spec.bindsN fun _ _ _ _ _ _ us hl => match us, hl with | [_, _], _ => rfl, g_rest_of := He.glo_ok X G (c.1.fact 11 (f := .glo "rest_of") rfl),
    f_rest_times := _, fd_rest_times := p12.choose, F_rest_times := p12.choose_spec, b_rest_times := p12.choose_spec.bindsN fun _ _ _ _ _ _ us hl => match us, hl with | [_, _, _], _ => rfl, g_rest_times := He.glo_ok X G (c.1.fact 12 (f := .glo "rest_times") rfl),
    f_power_of := _, fd_power_of := p13.choose, F_power_of := p13.choose_spec, b_power_of := p13.choose_spec.bindsN fun _ _ _ _ _ _ us hl => match us, hl with | [_, _], _ => rfl, g_power_of := He.glo_ok X G (c.1.fact 13 (f := .glo "power_of") rfl),
    f_sum_at := _, fd_sum_at := p14.choose, F_sum_at := p14.choose_spec, b_sum_at := p14.choose_spec.bindsN fun _ _ _ _ _ _ us hl => match us, hl with | [_, _], _ => rfl, g_sum_at := He.glo_ok X G (c.1.fact 14 (f := .glo "sum_at") rfl),
    f_rest := _, fd_rest := p15.choose, F_rest := p15.choose_spec, b_rest := p15.choose_spec.bindsN fun _ _ _ _ _ _ us hl => match us, hl with | [_, _], _ => rfl, g_rest := He.glo_ok X G (c.1.fact 15 (f := .glo "rest") rfl),
    f_is_right := _, fd_is_right := p16.choose, F_is_right := p16.choose_spec, b_is_right := p16.choose_spec.bindsN fun _ _ _ _ _ _ us hl => match us, hl with | [_, _], _ => rfl, g_is_right := He.glo_ok X G (c.1.fact 16 (f := .glo "is_right") rfl),
    f_unseen := _, fd_unseen := p17.choose, F_unseen := p17.choose_spec, b_unseen := p17.choose_spec.bindsN fun _ _ _ _ _ _ us hl => match us, hl with | [_, _], _ => rfl, g_unseen := He.glo_ok X G (c.1.fact 17 (f := .glo "unseen") rfl),
    f_powers_of := _, fd_powers_of := p18.choose, F_powers_of := p18.choose_spec, b_powers_of := p18.choose_spec.bindsN fun _ _ _ _ _ _ us hl => match us, hl with | [_], _ => rfl, g_powers_of := He.glo_ok X G (c.1.fact 18 (f := .glo "powers_of") rfl),
    f_spots_of := _, fd_spots_of := p19.choose, F_spots_of := p19.choose_spec, b_spots_of := p19.choose_spec.bindsN fun _ _ _ _ _ _ us hl => match us, hl with | [_], _ => rfl, g_spots_of := He.glo_ok X G (c.1.fact 19 (f := .glo "spots_of") rfl),
    f_least_of_three := _, fd_least_of_three := p20.choose, F_least_of_three := p20.choose_spec, b_least_of_three := p20.choose_spec.bindsN fun _ _ _ _ _ _ us hl => match us, hl with | [_, _], _ => rfl, g_least_of_three := He.glo_ok X G (c.1.fact 20 (f := .glo "least_of_three") rfl),
    f_least_of_four := _, fd_least_of_four := p21.choose, F_least_of_four := p21.choose_spec, b_least_of_four := p21.choose_spec.bindsN fun _ _ _ _ _ _ us hl => match us, hl with | [_, _], _ => rfl, g_least_of_four := He.glo_ok X G (c.1.fact 21 (f := .glo "least_of_four") rfl),
    f_longest_of := _, fd_longest_of := p22.choose, F_longest_of := p22.choose_spec, b_longest_of := p22.choose_spec.bindsN fun _ _ _ _ _ _ us hl => match us, hl with | [_, _], _ => rfl, g_longest_of := He.glo_ok X G (c.1.fact 22 (f := .glo "longest_of") rfl),
    f_longest := _, fd_longest := p23.choose, F_longest := p23.choose_spec, b_longest := p23.choose_spec.bindsN fun _ _ _ _ _ _ us hl => match us, hl with | [_, _], _ => rfl, g_longest := He.glo_ok X G (c.1.fact 23 (f := .glo "longest") rfl),
    f_distance := _, fd_distance := p24.choose, F_distance := p24.choose_spec, b_distance := p24.choose_spec.bindsN fun _ _ _ _ _ _ us hl => match us, hl with | [_, _], _ => rfl, g_distance := He.glo_ok X G (c.1.fact 24 (f := .glo "distance") rfl),
    f_first_four := _, fd_first_four := p25.choose, F_first_four := p25.choose_spec, b_first_four := p25.choose_spec.bindsN fun _ _ _ _ _ _ us hl => match us, hl with | [_, _, _], _ => rfl, g_first_four := He.glo_ok X G (c.1.fact 25 (f := .glo "first_four") rfl),
    f_least_unseen := _, fd_least_unseen := p26.choose, F_least_unseen := p26.choose_spec, b_least_unseen := p26.choose_spec.bindsN fun _ _ _ _ _ _ us hl => match us, hl with | [_, _], _ => rfl, g_least_unseen := He.glo_ok X G (c.1.fact 26 (f := .glo "least_unseen") rfl),
    f_ones_in := _, fd_ones_in := p27.choose, F_ones_in := p27.choose_spec, b_ones_in := p27.choose_spec.bindsN fun _ _ _ _ _ _ us hl => match us, hl with | [_], _ => rfl, g_ones_in := He.glo_ok X G (c.1.fact 27 (f := .glo "ones_in") rfl),
    f_all_odd := _, fd_all_odd := p28.choose, F_all_odd := p28.choose_spec, b_all_odd := p28.choose_spec.bindsN fun _ _ _ _ _ _ us hl => match us, hl with | [_], _ => rfl, g_all_odd := He.glo_ok X G (c.1.fact 28 (f := .glo "all_odd") rfl),
    f_law_hash := _, fd_law_hash := p29.choose, F_law_hash := p29.choose_spec, b_law_hash := p29.choose_spec.bindsN fun _ _ _ _ _ _ us hl => match us, hl with | [_, _], _ => rfl, g_law_hash := He.glo_ok X G (c.1.fact 29 (f := .glo "_law_hash") rfl),
    f_law_random := _, fd_law_random := p30.choose, F_law_random := p30.choose_spec, b_law_random := p30.choose_spec.bindsN fun _ _ _ _ _ _ us hl => match us, hl with | [_, _], _ => rfl, g_law_random := He.glo_ok X G (c.1.fact 30 (f := .glo "_law_random") rfl),
    f_law_cell := _, fd_law_cell := p31.choose, F_law_cell := p31.choose_spec, b_law_cell := p31.choose_spec.bindsN fun _ _ _ _ _ _ us hl => match us, hl with | [_, _], _ => rfl, g_law_cell := He.glo_ok X G (c.1.fact 31 (f := .glo "_law_cell") rfl),
    f_law_generator := _, fd_law_generator := p32.choose, F_law_generator := p32.choose_spec, b_law_generator := p32.choose_spec.bindsN fun _ _ _ _ _ _ us hl => match us, hl with | [_, _], _ => rfl, g_law_generator := He.glo_ok X G (c.1.fact 32 (f := .glo "_law_generator") rfl),
    f_law_rest := _, fd_law_rest := p33.choose, F_law_rest := p33.choose_spec, b_law_rest := p33.choose_spec.bindsN fun _ _ _ _ _ _ us hl => match us, hl with | [_, _], _ => rfl, g_law_rest := He.glo_ok X G (c.1.fact 33 (f := .glo "_law_rest") rfl),
    f_law_bits := _, fd_law_bits := p34.choose, F_law_bits := p34.choose_spec, b_law_bits := p34.choose_spec.bindsN fun _ _ _ _ _ _ us hl => match us, hl with | [_, _], _ => rfl, g_law_bits := He.glo_ok X G (c.1.fact 34 (f := .glo "_law_bits") rfl),
    f_law_drawn := _, fd_law_drawn := p35.choose, F_law_drawn := p35.choose_spec, b_law_drawn := p35.choose_spec.bindsN fun _ _ _ _ _ _ us hl => match us, hl with | [_, _], _ => rfl, g_law_drawn := He.glo_ok X G (c.1.fact 35 (f := .glo "_law_drawn") rfl),
    f_law_places := _, fd_law_places := p36.choose, F_law_places := p36.choose_spec, b_law_places := p36.choose_spec.bindsN fun _ _ _ _ _ _ us hl => match us, hl with | [_], _ => rfl, g_law_places := He.glo_ok X G (c.1.fact 36 (f := .glo "_law_places") rfl),
    f_law_sets_right := _, fd_law_sets_right := p37.choose, F_law_sets_right := p37.choose_spec, b_law_sets_right := p37.choose_spec.bindsN fun _ _ _ _ _ _ us hl => match us, hl with | [_, _, _, _], _ => rfl, g_law_sets_right := He.glo_ok X G (c.1.fact 37 (f := .glo "_law_sets_right") rfl),
    f_law_rows_right := _, fd_law_rows_right := p38.choose, F_law_rows_right := p38.choose_spec, b_law_rows_right := p38.choose_spec.bindsN fun _ _ _ _ _ _ us hl => match us, hl with | [_, _, _], _ => rfl, g_law_rows_right := He.glo_ok X G (c.1.fact 38 (f := .glo "_law_rows_right") rfl),
    f_law_longest := _, fd_law_longest := p39.choose, F_law_longest := p39.choose_spec, b_law_longest := p39.choose_spec.bindsN fun _ _ _ _ _ _ us hl => match us, hl with | [_, _], _ => rfl, g_law_longest := He.glo_ok X G (c.1.fact 39 (f := .glo "_law_longest") rfl),
    f_law := _, fd_law := p40.choose, F_law := p40.choose_spec, b_law := p40.choose_spec.bindsN fun _ _ _ _ _ _ us hl => match us, hl with | [_], _ => rfl, g_law := He.glo_ok X G (c.1.fact 40 (f := .glo "law") rfl),
    f_Check___init__ := _, fd_Check___init__ := p41.choose, F_Check___init__ := p41.choose_spec, b_Check___init__ := p41.choose_spec.bindsN fun _ _ _ _ _ _ us hl => match us, hl with | [_, _, _], _ => rfl, me_Check___init__ := He.meth_ok (c.1.fact 63 (f := .meth "Check" "__init__") rfl), mk_Check := He.mkr_ok (c.1.fact 62 (f := .mkr "Check") rfl),
    pp_Check_width := _, pg_Check_width := _, po_Check_width := prop_ok (c.2.2.1 ("Check", "width", "Check.width") (by decide +kernel)), fdp_Check_width := r0.choose, Fp_Check_width := r0.choose_spec, bp_Check_width := r0.choose_spec.bindsN fun _ _ _ _ _ _ us hl => match us, hl with | [_], _ => rfl,
    pp_Check_low := _, pg_Check_low := _, po_Check_low := prop_ok (c.2.2.1 ("Check", "low", "Check.low") (by decide +kernel)), fdp_Check_low := r1.choose, Fp_Check_low := r1.choose_spec, bp_Check_low := r1.choose_spec.bindsN fun _ _ _ _ _ _ us hl => match us, hl with | [_], _ => rfl,
    n_len := He.free_ok X G (c.1.fact 41 (f := .free "len") rfl),
    n_sum := He.free_ok X G (c.1.fact 42 (f := .free "sum") rfl),
    n_max := He.free_ok X G (c.1.fact 43 (f := .free "max") rfl),
    n_min := He.free_ok X G (c.1.fact 44 (f := .free "min") rfl),
    n_int := He.free_ok X G (c.1.fact 45 (f := .free "int") rfl),
    n_bool := He.free_ok X G (c.1.fact 46 (f := .free "bool") rfl),
    n_list := He.free_ok X G (c.1.fact 47 (f := .free "list") rfl),
    n_str := He.free_ok X G (c.1.fact 48 (f := .free "str") rfl),
    n_range := He.free_ok X G (c.1.fact 49 (f := .free "range") rfl),
    n_isinstance := He.free_ok X G (c.1.fact 50 (f := .free "isinstance") rfl),
    n_enumerate := He.free_ok X G (c.1.fact 51 (f := .free "enumerate") rfl),
    n_zip := He.free_ok X G (c.1.fact 52 (f := .free "zip") rfl),
    n_sorted := He.free_ok X G (c.1.fact 53 (f := .free "sorted") rfl),
    n_repr := He.free_ok X G (c.1.fact 54 (f := .free "repr") rfl),
    n_all := He.free_ok X G (c.1.fact 55 (f := .free "all") rfl),
    t_MOST_WIDTH := q0.choose, m_MOST_WIDTH := q0.choose_spec,
    t_MOST_PLACE := q1.choose, m_MOST_PLACE := q1.choose_spec }
theorem G_Check_width {P : Program} {w : World} {K : PySem.W.Frag} {mg : Str → Option Value} {base : Heap} (T : Top K mg) : FnOk P w K mg base CX0 1 T.pg_Check_width T.fdp_Check_width ["self"] (getSp T.C_Check "size") := by
  obtain ⟨oc, od, dV, kV, doc, pm, an, cdv, ct, osl, e, lk, hcd, _, _⟩ := T.Fp_Check_width.ex
  rw [e] at lk ⊢
  exact fn_getter lk hcd sc_Check_width rfl rfl T.cl_Check T.na_Check_size
theorem G_Check_low {P : Program} {w : World} {K : PySem.W.Frag} {mg : Str → Option Value} {base : Heap} (T : Top K mg) : FnOk P w K mg base CX0 1 T.pg_Check_low T.fdp_Check_low ["self"] (getSp T.C_Check "tail") := by
  obtain ⟨oc, od, dV, kV, doc, pm, an, cdv, ct, osl, e, lk, hcd, _, _⟩ := T.Fp_Check_low.ex
  rw [e] at lk ⊢
  exact fn_getter lk hcd sc_Check_low rfl rfl T.cl_Check T.na_Check_tail
end My

namespace My
open PySem PySem.Spec PyProof.Rows L2 Pre
section
variable {P : Program} {w : World} {K : PySem.W.Frag} {mg : Str → Option Value} {base : Heap}
/-! ### is_whole, is_between, of whole numbers -/
def sp_is_whole : Sp := fun vs H Q _ => ∃ i : Int, vs = [.int i] ∧ Q (.bl true) H
theorem G_is_whole (T : Top K mg) : FnOk P w K mg base CX0 1 T.f_is_whole T.fd_is_whole ["value"] sp_is_whole := by
  refine T.F_is_whole.ok sc_is_whole (fun vs H Q E h => by obtain ⟨i, rfl, _⟩ := h; rfl) (fun cdv A outer s H vs Q E hr h => ?_)
  obtain ⟨i, rfl, q⟩ := h
  refine ⟨_, PSs.nox (pss_one (ps_ret (pe_and (pe_callB (k_isi K rfl) (by rfl) T.n_isinstance (by decide +kernel) (pa_cons (pv 0) (pa_cons (pe_bltn (v := .ty "int") (by rfl) T.n_int (by decide +kernel) rfl) pa_nil))) (pe_one (pe_not (pe_callB (k_isi K rfl) (by rfl) T.n_isinstance (by decide +kernel) (pa_cons (pv 0) (pa_cons (pe_bltn (v := .ty "bool") (by rfl) T.n_bool (by decide +kernel) rfl) pa_nil)))))))), ?_⟩
  refine ⟨_, rfl, _, _, _, _, true, rfl, .ty _, .base (.int i), kit_ty (by decide +kernel), true, rfl, iteT ?_⟩
  exact ⟨_, rfl, _, _, _, _, false, rfl, .ty _, .base (.int i), kit_ty (by decide +kernel), false, rfl, q⟩
/-- value a whole number, low one, high None or one -/
def sp_is_between : Sp := fun vs H Q _ => ∃ (i lo : Int) (hi : Option Int), vs = [.int i, .int lo, (match hi with | some j => .int j | none => .non)] ∧ Q (.bl (decide (lo ≤ i ∧ ∀ j, hi = some j → i ≤ j))) H
theorem G_is_between (T : Top K mg) : FnOk P w K mg base CX0 2 T.f_is_between T.fd_is_between ["value", "low", "high"] sp_is_between := by
  refine T.F_is_between.ok sc_is_between (fun vs H Q E h => by obtain ⟨i, lo, hi, rfl, _⟩ := h; rfl) (fun cdv A outer s H vs Q E hr h => ?_)
  obtain ⟨i, lo, hi, rfl, q⟩ := h
  refine ⟨_, PSs.nox (pss_one (ps_ret (pe_and (pe_call (G_is_whole T) (hr.mono (by decide)) (by rfl) T.g_is_whole T.F_is_whole.kp T.b_is_whole .nil pass0 (pa_cons (pv 0) pa_nil)) (pe_and (pe_cmpR op_le (pv 1) (pv 0) (nomark _)) (pe_one (pe_or (pe_cmpR op_isN (pv 2) pe_non (nomark _)) (pe_one (pe_cmpR op_le (pv 0) (pv 2) (nomark _))))))))), ?_⟩
  refine ⟨_, rfl, i, rfl, true, rfl, iteT ?_⟩
  refine ⟨_, rfl, _, rfl, _, _, rfl, rfl, _, rfl, ite2 (fun e => ?_) (fun e => ?_)⟩
  · have e1 : lo ≤ i := of_decide_eq_true e
    cases hi with
    | none =>
      refine ⟨_, rfl, rfl, _, rfl, iteT ?_⟩
      rw [decide_eq_true ⟨e1, fun j h => nomatch h⟩] at q
      exact q
    | some j =>
      refine ⟨_, rfl, rfl, _, rfl, iteF ⟨_, rfl, _, rfl, _, _, rfl, rfl, ?_⟩⟩
      have e2 : decide (lo ≤ i ∧ ∀ j', some j = some j' → i ≤ j') = decide (i ≤ j) := by
        by_cases h : i ≤ j
        · rw [decide_eq_true h, decide_eq_true]
          exact ⟨e1, fun j' e => by cases e; exact h⟩
        · rw [decide_eq_false h, decide_eq_false]
          exact fun z => h (z.2 j rfl)
      rw [e2] at q
      exact q
  · have e1 : ¬ lo ≤ i := fun h => e (decide_eq_true h)
    rw [decide_eq_false fun z => e1 z.1] at q
    exact q
end
end My

set_option exponentiation.threshold 100000
namespace My
open PySem PySem.Spec PyProof.Rows L2 Pre
section
variable {P : Program} {w : World} {K : PySem.W.Frag} {mg : Str → Option Value} {base : Heap}
/-! ### the law's draws -/
/-- a generator: its count is at most n -/
def GenAt (H : Hp) (g : Addr) (n : Nat) : Prop := ∃ x y z : Int, H g = some (.lst [.int x, .int y, .int z]) ∧ 0 ≤ z ∧ z ≤ (n : Int)
/-- all but one thing stand as they stood -/
def But (g : Addr) (H H' : Hp) : Prop := ∀ b o, b ≠ g → H b = some o → H' b = some o
theorem But.refl {g : Addr} {H : Hp} : But g H H := fun _ _ _ h => h
theorem But.trans {g : Addr} {H H1 H2 : Hp} (a : But g H H1) (b : But g H1 H2) : But g H H2 := fun c o n h => b c o n (a c o n h)
theorem But.same {g : Addr} {H H1 H2 : Hp} (a : But g H H1) (b : Same H1 H2) : But g H H2 := fun c o n h => b c o (a c o n h)
theorem But.of {g : Addr} {H H1 : Hp} (b : Same H H1) : But g H H1 := fun c o _ h => b c o h
theorem But.upd {g : Addr} {H H1 : Hp} {o : HO} (a : But g H H1) : But g H (upd H1 g o) := fun c u n h => by
  rw [upd_ne n]
  exact a c u n h
theorem But.free {g : Addr} {H H1 : Hp} (a : But g H H1) {p : Addr} (n : p ≠ g) (h : H1 p = none) : H p = none := by
  cases e : H p with
  | none => rfl
  | some o => rw [a p o n e] at h; cases h
/-- what is changed was not there at first -/
theorem But.fresh {g : Addr} {H H1 H2 : Hp} (s : Same H H1) (n : H g = none) (b : But g H1 H2) : Same H H2 := fun c o h => b c o (ne_of_none h n) (s c o h)
theorem GenAt.mono {H : Hp} {g : Addr} {n m : Nat} (h : GenAt H g n) (l : n ≤ m) : GenAt H g m := by
  obtain ⟨x, y, z, a, b, c⟩ := h
  exact ⟨x, y, z, a, b, by omega⟩
theorem GenAt.same {H H' : Hp} {g : Addr} {n : Nat} (h : GenAt H g n) (s : Same H H') : GenAt H' g n := by
  obtain ⟨x, y, z, a, b⟩ := h
  exact ⟨x, y, z, s _ _ a, b⟩
theorem GenAt.ne {H : Hp} {g : Addr} {n : Nat} {p : Addr} (h : GenAt H g n) (np : H p = none) : p ≠ g := by
  obtain ⟨x, y, z, a, _⟩ := h
  exact (ne_of_none a np).symm
theorem small_2900 {b : Int} (h : b ≤ 2 ^ 60) : b < 2 ^ 2900 := by omega
theorem pow_pos' (w : Nat) : (0 : Int) < 2 ^ w := Int.pow_pos (by decide)
theorem pow2_le {k m : Nat} (h : k ≤ m) : (2 : Int) ^ k ≤ 2 ^ m := by
  have e := Nat.pow_le_pow_right (show 0 < 2 by decide) h
  have e2 : ((2 ^ k : Nat) : Int) ≤ ((2 ^ m : Nat) : Int) := Int.ofNat_le.mpr e
  rw [Int.natCast_pow, Int.natCast_pow] at e2
  exact e2
def sp_law_cell (K : PySem.W.Frag) : Sp := fun vs H Q _ => ∃ (a : Addr) (ns : List Int) (i : Nat), vs = [.ref a, .int i] ∧ SqL K H a (ns.map V.int) ∧ ∀ (n : Int) H', Same H H' → Q (.int n) H'
theorem G_law_cell (T : Top K mg) : FnOk P w K mg base CX0 1 T.f_law_cell T.fd_law_cell ["_law_script", "_law_index"] (sp_law_cell K) := by
  refine T.F_law_cell.ok sc_law_cell (fun vs H Q E h => by obtain ⟨a, ns, i, rfl, _⟩ := h; rfl) (fun cdv A outer s H vs Q E hr h => ?_)
  obtain ⟨a, ns, i, rfl, hS, q⟩ := h
  refine ⟨_, PSs.nox (pss_cons (ps_if (pt_cmpR op_lt (pv 1) (pe_callB (k_len K rfl) (by rfl) T.n_len (by decide +kernel) (pa_cons (pv 0) pa_nil)) (nomark _))
    (pss_one (ps_ret (pe_ix (k_ixL K rfl) (pv 0) (pv 1) (fun _ _ => rfl))))
    pss_nil)
  (pss_one (ps_ret (pe_op op_mod (pe_callB (k_sum K rfl rfl) (by rfl) T.n_sum (by decide +kernel) (pa_cons (pe_slice (k_slL K rfl) (pv 0) po_none (po_some pe_int)) pa_nil)) pe_int)))), ?_⟩
  refine ⟨_, rfl, _, rfl, a, _, rfl, .inl hS, _, _, rfl, rfl, _, rfl, ite2 (fun e => ?_) (fun e => ?_)⟩
  · have e1 : (i : Int) < (((ns.map V.int).length : Nat) : Int) := of_decide_eq_true e
    rw [List.length_map] at e1
    have hi : i < ns.length := by omega
    refine ⟨_, rfl, _, rfl, a, _, _, .int ns[i], rfl, rfl, hS, atI_nat (by rw [List.getElem?_map, List.getElem?_eq_getElem hi]; rfl), ?_⟩
    exact q _ _ (Same.refl _)
  · refine ⟨_, rfl, _, rfl, a, _, rfl, hS, fun p np => ?_⟩
    have ec : ∃ ms : List Int, cutV (ns.map V.int) none (some 1) = ms.map V.int := by
      unfold cutV
      exact ⟨(ns.drop (HT.sIx (ns.map V.int).length 0 none)).take (HT.sIx (ns.map V.int).length (ns.map V.int).length (some 1) - HT.sIx (ns.map V.int).length 0 none), by rw [List.map_take, List.map_drop]⟩
    obtain ⟨ms, em⟩ := ec
    refine ⟨p, ms, rfl, .inl (.inl (by rw [upd_same, em])), _, _, rfl, rfl, (by show (0 : Int) < 1000003; decide), ?_⟩
    exact q _ _ (same_upd np)
theorem cmul_mod (x m j : Int) (h0 : 0 < m) (h1 : m ≤ 2 ^ 60) : CMul (x % m) j := by
  have a := Int.emod_nonneg x (show m ≠ 0 by omega)
  have b := Int.emod_lt_of_pos x h0
  exact .inl ⟨by omega, by omega⟩
def sp_law_hash : Sp := fun vs H Q _ => ∃ i j : Int, vs = [.int i, .int j] ∧ 0 ≤ j ∧ j < 2 ^ 60 ∧ ∀ n : Int, Q (.int n) H
theorem G_law_hash (T : Top K mg) : FnOk P w K mg base CX0 1 T.f_law_hash T.fd_law_hash ["_law_seed", "_law_index"] sp_law_hash := by
  refine T.F_law_hash.ok sc_law_hash (fun vs H Q E h => by obtain ⟨i, j, rfl, _⟩ := h; rfl) (fun cdv A outer s H vs Q E hr h => ?_)
  obtain ⟨i, j, rfl, h0, h1, q⟩ := h
  refine ⟨_, PSs.nox (pss_cons (ps_set (i := 2) sc_law_hash.nd rfl (by first | exact Or.inl rfl | exact Or.inr rfl) (pe_op op_mod (pe_callTy call_int1 (by rfl) T.n_int (by decide +kernel) (pa_cons (pe_op op_add (pe_op op_add (pe_op op_add (pe_op op_mul (pv 0) pe_int) (pe_op op_mul (pe_op op_mul pe_int (pv 1)) (pv 1))) (pe_op op_mul pe_int (pv 1))) pe_int) pa_nil)) pe_int))
  (pss_cons (ps_set (i := 2) sc_law_hash.nd rfl (by first | exact Or.inl rfl | exact Or.inr rfl) (pe_op op_mod (pe_callTy call_int1 (by rfl) T.n_int (by decide +kernel) (pa_cons (pe_op op_add (pe_op op_add (pe_op op_mul (pv 2) (pv 2)) (pe_op op_mul pe_int (pv 1))) pe_int) pa_nil)) pe_int))
  (pss_one (ps_ret (pe_op op_mod (pe_callTy call_int1 (by rfl) T.n_int (by decide +kernel) (pa_cons (pe_op op_mul (pv 2) pe_int) pa_nil)) pe_int))))), ?_⟩
  refine ⟨_, rfl, _, _, rfl, rfl, .inr ⟨by decide, by decide⟩, _, rfl, _, _, rfl, rfl, .inl ⟨by decide, by decide⟩, _, rfl, _, _, rfl, rfl, .inr ⟨by omega, by omega⟩, _, _, rfl, rfl, _, rfl, _, _, rfl, rfl, .inl ⟨by decide, by decide⟩, _, _, rfl, rfl, _, _, rfl, rfl,
    .inl ⟨_, rfl, _, _, rfl, rfl, (by show (0 : Int) < _; decide), ?_⟩⟩
  refine ⟨_, rfl, _, rfl, _, _, rfl, rfl, cmul_mod _ _ _ (by decide) (by decide), _, rfl, _, _, rfl, rfl, .inl ⟨by decide, by decide⟩, _, _, rfl, rfl, _, _, rfl, rfl, .inl ⟨_, rfl, _, _, rfl, rfl, (by show (0 : Int) < _; decide), ?_⟩⟩
  refine ⟨_, rfl, _, _, rfl, rfl, .inr ⟨by decide, by decide⟩, .inl ⟨_, rfl, _, _, rfl, rfl, (by show (0 : Int) < _; decide), ?_⟩⟩
  exact q _

def sp_law_generator (K : PySem.W.Frag) : Sp := fun vs H Q _ => ∃ (a : Addr) (ns : List Int) (i : Nat), vs = [.ref a, .int i] ∧ SqL K H a (ns.map V.int) ∧ ∀ H' g, Same H H' → H g = none → GenAt H' g (1000 * i) → Q (.ref g) H'
theorem G_law_generator (T : Top K mg) : FnOk P w K mg base CX0 2 T.f_law_generator T.fd_law_generator ["_law_script", "_law_index"] (sp_law_generator K) := by
  refine T.F_law_generator.ok sc_law_generator (fun vs H Q E h => by obtain ⟨a, ns, i, rfl, _⟩ := h; rfl) (fun cdv A outer s H vs Q E hr h => ?_)
  obtain ⟨a, ns, i, rfl, hS, q⟩ := h
  refine ⟨_, PSs.nox (pss_cons (ps_set (i := 2) sc_law_generator.nd rfl (by first | exact Or.inl rfl | exact Or.inr rfl) (pe_call (G_law_cell T) (hr.mono (by decide)) (by rfl) T.g_law_cell T.F_law_cell.kp T.b_law_cell .nil pass0 (pa_cons (pv 0) (pa_cons (pv 1) pa_nil))))
  (pss_one (ps_ret (pe_lst (pa_cons (pe_op op_mod (pe_callTy call_int1 (by rfl) T.n_int (by decide +kernel) (pa_cons (pe_callB (call_max2 rfl) (by rfl) T.n_max (by decide +kernel) (pa_cons (pe_op op_sub (pv 2) (pe_op op_powW pe_int pe_int)) (pa_cons pe_int pa_nil))) pa_nil)) (pe_op op_powW (pe_op op_powW pe_int pe_int) pe_int)) (pa_cons (pe_op op_mod (pe_callTy call_int1 (by rfl) T.n_int (by decide +kernel) (pa_cons (pv 2) pa_nil)) pe_int) (pa_cons (pe_op op_mul pe_int (pv 1)) pa_nil))))))), ?_⟩
  refine ⟨_, rfl, _, rfl, a, ns, i, rfl, hS, fun n H1 s1 => ?_⟩
  refine ⟨_, rfl, _, _, rfl, rfl, ⟨by decide, by decide +kernel⟩, _, _, rfl, rfl, _, _, rfl, .inl ⟨_, rfl, _, _, rfl, rfl, ⟨by decide, by decide +kernel⟩, _, _, rfl, rfl, ⟨by decide, by decide +kernel⟩, _, _, rfl, rfl, (by show (0 : Int) < _; decide +kernel), ?_⟩⟩
  refine ⟨_, rfl, .inl ⟨_, rfl, _, _, rfl, rfl, (by show (0 : Int) < _; decide), ?_⟩⟩
  refine ⟨_, rfl, _, _, rfl, rfl, .inl ⟨by decide, by decide⟩, (show 3 ≤ sizeLine by decide), fun g ng => ?_⟩
  exact q _ g (s1.trans (same_upd ng)) (s1.free ng) ⟨_, _, _, upd_same, by omega, by omega⟩
def sp_law_random : Sp := fun vs H Q _ => ∃ (g : Addr) (b : Int) (n : Nat), vs = [.ref g, .int b] ∧ GenAt H g n ∧ n ≤ 10 ^ 12 ∧ 0 < b ∧ b < 2 ^ 2900 ∧ ∀ (d : Int) H', 0 ≤ d → d < b → GenAt H' g (n + 100) → But g H H' → Q (.int d) H'
theorem G_law_random (T : Top K mg) : FnOk P w K mg base CX0 2 T.f_law_random T.fd_law_random ["_law_generator_here", "_law_bound"] sp_law_random := by
  refine T.F_law_random.ok sc_law_random (fun vs H Q E h => by obtain ⟨g, b, n, rfl, _⟩ := h; rfl) (fun cdv A outer s H vs Q E hr h => ?_)
  obtain ⟨g, b, n, rfl, ⟨x, y, z, hg, z0, z1⟩, hn, b0, b1, q⟩ := h
  refine ⟨_, PSs.nox (pss_cons (ps_if (pt_cmpR op_gt (pe_ix (k_ixL K rfl) (pv 0) pe_int (fun _ _ => rfl)) pe_int (nomark _))
    (pss_cons (ps_set (i := 2) sc_law_random.nd rfl (by first | exact Or.inl rfl | exact Or.inr rfl) (pe_op op_mod (pe_callTy call_int1 (by rfl) T.n_int (by decide +kernel) (pa_cons (pe_ix (k_ixL K rfl) (pv 0) pe_int (fun _ _ => rfl)) pa_nil)) (pv 1)))
  (pss_cons (ps_asg (pe_op op_fdivW (pe_ix (k_ixL K rfl) (pv 0) pe_int (fun _ _ => rfl)) (pv 1)) (pg_sub (pv 0) pe_int set_list))
  (pss_one (ps_ret (pv 2)))))
    pss_nil)
  (pss_cons (ps_set (i := 2) sc_law_random.nd rfl (by first | exact Or.inl rfl | exact Or.inr rfl) pe_int)
  (pss_cons (ps_for PassesOwn.never rfl (pi_range1 (by rfl) T.n_range (pa_cons (pe_op op_add pe_int (pe_op op_fdivW (pe_bits (pv 1)) pe_int)) pa_nil)) (pg_name (i := 3) sc_law_random.nd rfl (by first | exact Or.inl rfl | exact Or.inr rfl))
    (pss_cons (ps_asg (pe_op op_add (pe_ix (k_ixL K rfl) (pv 0) pe_int (fun _ _ => rfl)) pe_int) (pg_sub (pv 0) pe_int set_list))
  (pss_one (ps_set (i := 2) sc_law_random.nd rfl (by first | exact Or.inl rfl | exact Or.inr rfl) (pe_op op_add (pe_op op_mul (pv 2) pe_int) (pe_call (G_law_hash T) (hr.mono (by decide)) (by rfl) T.g_law_hash T.F_law_hash.kp T.b_law_hash .nil pass0 (pa_cons (pe_ix (k_ixL K rfl) (pv 0) pe_int (fun _ _ => rfl)) (pa_cons (pe_ix (k_ixL K rfl) (pv 0) pe_int (fun _ _ => rfl)) pa_nil))))))))
  (pss_one (ps_ret (pe_op op_mod (pe_callTy call_int1 (by rfl) T.n_int (by decide +kernel) (pa_cons (pv 2) pa_nil)) (pv 1))))))), ?_⟩
  have a0 : ∀ x y z : Int, atI [V.int x, .int y, .int z] 0 = some (.int x) := fun _ _ _ => rfl
  have a1 : ∀ x y z : Int, atI [V.int x, .int y, .int z] 1 = some (.int y) := fun _ _ _ => rfl
  have a2 : ∀ x y z : Int, atI [V.int x, .int y, .int z] 2 = some (.int z) := fun _ _ _ => rfl
  have hS : SqL K H g [.int x, .int y, .int z] := .inl (.inl hg)
  have nb : b.natAbs < 2 ^ 2900 := by
    have e : ((b.natAbs : Nat) : Int) < ((2 ^ 2900 : Nat) : Int) := by
      rw [Int.natCast_pow]
      omega
    exact Int.ofNat_lt.mp e
  refine ⟨_, rfl, g, _, 0, _, rfl, rfl, hS, a0 x y z, _, _, rfl, rfl, _, rfl, ite2 (fun e => ?_) (fun e => ?_)⟩
  · refine ⟨_, rfl, g, _, 0, _, rfl, rfl, hS, a0 x y z, .inl ⟨_, rfl, _, rfl, _, _, rfl, rfl, b0, ?_⟩⟩
    refine ⟨_, rfl, g, _, 0, _, rfl, rfl, hS, a0 x y z, _, rfl, _, _, rfl, rfl, wide_div b0 nb (by decide) (by decide), _, rfl, g, _, 0, 0, rfl, rfl, hg, rfl, _, rfl, ?_⟩
    exact q _ _ (Int.emod_nonneg _ (by omega)) (Int.emod_lt_of_pos _ b0) ⟨_, _, _, upd_same, z0, by omega⟩ (But.upd But.refl)
  · have hb : Builtin.Int.intBits b ≤ 2900 := PyProof.Rows.intBits_le nb
    have hq0 : (0 : Int) ≤ ((Builtin.Int.intBits b : Nat) : Int) / 30 := Int.ediv_nonneg (Int.natCast_nonneg _) (by decide)
    have hq1 : ((Builtin.Int.intBits b : Nat) : Int) / 30 ≤ 97 := by omega
    refine ⟨_, rfl, _, rfl, _, _, rfl, rfl, ⟨by decide, by decide +kernel⟩, _, _, rfl, rfl, _, rfl, by omega, by omega, ?_⟩
    refine for_range (lo := 0) (n := (1 + ((Builtin.Int.intBits b : Nat) : Int) / 30).toNat) (fun i σ H1 => ∃ (d z' : Int) (v : Option V), σ = [some (.ref g), some (.int b), some (.int d), v] ∧ H1 g = some (.lst [.int x, .int y, .int z']) ∧ 0 ≤ z' ∧ z' ≤ (n : Int) + (i : Int) ∧ But g H H1)
      ⟨0, z, none, rfl, hg, z0, by omega, But.refl⟩ ?_ ?_
    · rintro i σ H1 hi ⟨d, z', v, rfl, hg1, y0, y1, b1⟩
      have hS1 : SqL K H1 g [.int x, .int y, .int z'] := .inl (.inl hg1)
      refine ⟨_, rfl, g, _, 2, _, rfl, rfl, hS1, a2 x y z', _, _, rfl, rfl, _, rfl, g, _, 2, 2, rfl, rfl, hg1, rfl, ?_⟩
      have hS2 : SqL K (upd H1 g (.lst [.int x, .int y, .int (z' + 1)])) g [.int x, .int y, .int (z' + 1)] := .inl (.inl upd_same)
      refine ⟨_, rfl, _, _, rfl, rfl, .inr ⟨by decide, by decide⟩, _, rfl, g, _, 1, _, rfl, rfl, hS2, a1 _ _ _, _, rfl, g, _, 2, _, rfl, rfl, hS2, a2 _ _ _, _, _, rfl, by omega, by omega, fun r => ?_⟩
      exact ⟨_, _, rfl, rfl, _, z' + 1, _, rfl, upd_same, by omega, by omega, But.upd b1⟩
    · rintro σ H1 ⟨d, z', v, rfl, hg1, y0, y1, b1⟩
      refine ⟨_, rfl, .inl ⟨_, rfl, _, rfl, _, _, rfl, rfl, b0, ?_⟩⟩
      exact q _ _ (Int.emod_nonneg _ (by omega)) (Int.emod_lt_of_pos _ b0) ⟨_, _, _, hg1, y0, by omega⟩ b1
/-- a comprehension over a range that draws whole numbers -/
theorem lc_drawR {lo : Int} {n : Nat} {j : Nat} {te : TE} {vs : List Nat} {σ : L2.St} {H1 : Hp} {D : Addr} {Qd : Hp → Prop} (g : Addr) (m step : Nat) (P : Int → Prop) (nD : H1 D = none) (hG : GenAt H1 g m) (hz : n < sizeLine)
    (hw : ∀ x, wipe ((wipe σ vs).set j (some x)) vs = wipe σ vs)
    (hs : ∀ (i : Nat) (H' : Hp), i < n → But g H1 H' → GenAt H' g (m + step * i) → ∀ Qt : V → Hp → Prop, (∀ (y : Int) H'', P y → But g H' H'' → GenAt H'' g (m + step * (i + 1)) → Qt (.int y) H'') → te ((wipe σ vs).set j (some (.int (lo + (i : Int))))) H' Qt)
    (hd : ∀ H' (ys : List Int), But g H1 H' → GenAt H' g (m + step * n) → H' D = some (.lst (ys.map V.int)) → ys.length = n → (∀ y ∈ ys, P y) → Qd H') :
    ∃ W : Nat → Nat → Hp → Prop, (∃ m, W 0 m (upd H1 D (.lst []))) ∧ ∀ i m H, W i m H →
      ((Itr lo n).stop i H ∧ Qd H) ∨ ((Itr lo n).go i H ∧ ∃ Nx : Hp → Prop, (∀ H', Nx H' → ∃ m', m' < m ∧ W (i + 1) m' H') ∧ ∀ x H', (Itr lo n).yld i H x H' → gName j x (wipe σ vs) H' fun σ2 H2 => wipe σ2 vs = wipe σ vs ∧ tYes σ2 H2 fun b H3 =>
        if b = true then te σ2 H3 fun y H4 => ∃ acc, H4 D = some (.lst acc) ∧ acc.length < sizeLine ∧ Nx (upd H4 D (.lst (acc ++ [y]))) else Nx H3) := by
  have nDg : D ≠ g := hG.ne nD
  refine lc_range (lo := lo) (n := n) (fun i H => ∃ ys : List Int, But g H1 H ∧ GenAt H g (m + step * i) ∧ H D = some (.lst (ys.map V.int)) ∧ ys.length = i ∧ ∀ y ∈ ys, P y)
    ⟨[], But.of (same_upd nD), hG.same (same_upd nD), upd_same, rfl, (fun _ h => nomatch h)⟩ ?_ ?_
  · rintro i H hi ⟨ys, b, hg, hD, hl, hP⟩
    refine ⟨hw _, ?_⟩
    unfold tYes
    dsimp only
    rw [if_pos (show true = true from rfl)]
    refine hs i H hi b hg _ fun y H2 py b2 hg2 => ?_
    refine ⟨_, b2 _ _ nDg hD, by rw [List.length_map]; omega, ys ++ [y], ?_, ?_, ?_, ?_, ?_⟩
    · intro c o nc hc
      rw [upd_ne (ne_of_none hc nD)]
      exact b2 _ _ nc (b _ _ nc hc)
    · obtain ⟨x1, x2, x3, e1, e2⟩ := hg2
      exact ⟨x1, x2, x3, by rw [upd_ne nDg.symm]; exact e1, e2⟩
    · rw [upd_same, List.map_append]
      rfl
    · rw [List.length_append, hl]
      rfl
    · intro z hz
      rcases List.mem_append.mp hz with hz | hz
      · exact hP z hz
      · rw [List.mem_singleton.mp hz]
        exact py
  · rintro H ⟨ys, b, hg, hD, hl, hP⟩
    exact hd H ys b hg hD hl hP
end
end My

namespace My
open PySem PySem.Spec PyProof.Rows L2 Pre
/-- a comprehension over a list that makes new things: R tells what is known of the i-th -/
theorem lc_relL {K : PySem.W.Frag} {a : Addr} {xs : List V} {j : Nat} {te : TE} {vs : List Nat} {σ : L2.St} {H1 : Hp} {D : Addr} {Qd : Hp → Prop} (R : Nat → V → Hp → Prop) (nD : H1 D = none) (hS : SqL K H1 a xs) (hz : xs.length < sizeLine)
    (mono : ∀ (i : Nat) (y : V) (H H' : Hp), Pre.Off D H H' → R i y H → R i y H') (hw : ∀ x, wipe ((wipe σ vs).set j (some x)) vs = wipe σ vs)
    (hs : ∀ (i : Nat) (x : V) (H' : Hp) (zs : List V), xs[i]? = some x → Same H1 H' → H' D = some (.lst zs) → ∀ Qt : V → Hp → Prop, (∀ y H'', Same H' H'' → R i y H'' → Qt y H'') → te ((wipe σ vs).set j (some x)) H' Qt)
    (hd : ∀ H' ys, Same H1 H' → H' D = some (.lst ys) → ys.length = xs.length → (∀ (i : Nat) (y : V), ys[i]? = some y → R i y H') → Qd H') :
    ∃ W : Nat → Nat → Hp → Prop, (∃ m, W 0 m (upd H1 D (.lst []))) ∧ ∀ i m H, W i m H →
      ((Itl K a).stop i H ∧ Qd H) ∨ ((Itl K a).go i H ∧ ∃ Nx : Hp → Prop, (∀ H', Nx H' → ∃ m', m' < m ∧ W (i + 1) m' H') ∧ ∀ x H', (Itl K a).yld i H x H' → gName j x (wipe σ vs) H' fun σ2 H2 => wipe σ2 vs = wipe σ vs ∧ tYes σ2 H2 fun b H3 =>
        if b = true then te σ2 H3 fun y H4 => ∃ acc, H4 D = some (.lst acc) ∧ acc.length < sizeLine ∧ Nx (upd H4 D (.lst (acc ++ [y]))) else Nx H3) := by
  refine lc_list (K := K) (a := a) (xs := xs) (RelPv R H1 D) ⟨[], same_upd nD, upd_same, rfl, fun k y h => by simp at h⟩ (fun i H _ ⟨_, s, _⟩ => s.seq hS) ?_ ?_
  · rintro i x H hx ⟨ys, s, hD, hl, hR⟩
    have hi : i < xs.length := (List.getElem?_eq_some_iff.mp hx).1
    refine ⟨hw _, ?_⟩
    unfold tYes
    dsimp only
    rw [if_pos (show true = true from rfl)]
    refine hs i x H ys hx s hD _ fun y H4 s4 r4 => ?_
    refine ⟨ys, s4 _ _ hD, by omega, ys ++ [y], same_over nD (s.trans s4), upd_same, by rw [List.length_append, hl]; rfl, fun k z hz => ?_⟩
    have off : Pre.Off D H4 (upd H4 D (.lst (ys ++ [y]))) := fun b o nb h => by rw [upd_ne nb]; exact h
    by_cases hk : k < ys.length
    · rw [List.getElem?_append_left hk] at hz
      exact mono k z H _ (fun b o nb h => off b o nb (s4 b o h)) (hR k z hz)
    · rw [List.getElem?_append_right (by omega)] at hz
      have hk2 : k - ys.length = 0 := by
        have h2 := (List.getElem?_eq_some_iff.mp hz).1
        rw [List.length_singleton] at h2
        omega
      rw [hk2] at hz
      cases hz
      have ek : k = i := by omega
      rw [ek]
      exact mono i y H4 _ off r4
  · rintro H ⟨ys, s, hD, hl, hR⟩
    exact hd H ys s hD hl hR
/-- a list of lists of whole numbers -/
def RowsIn (H : Hp) (p : Addr) (rows : List (List Int)) : Prop := ∃ as : List Addr, H p = some (.lst (as.map V.ref)) ∧ as.length = rows.length ∧ ∀ (i : Nat) (a : Addr) (r : List Int), as[i]? = some a → rows[i]? = some r → H a = some (.lst (r.map V.int))
theorem RowsIn.same {H H' : Hp} {p : Addr} {rows : List (List Int)} (h : RowsIn H p rows) (s : Same H H') : RowsIn H' p rows := by
  obtain ⟨as, h1, h2, h3⟩ := h
  exact ⟨as, s _ _ h1, h2, fun i a r ha hr => s _ _ (h3 i a r ha hr)⟩
section
variable {X : Cx}
theorem huD {k : Nat} {A : Around} (r : Room k A) : A.units + 65 < cLine := by have := r.un; omega
theorem k_inD (K : PySem.W.Frag) (h : X.K = K) (hu : X.A.units + 65 < cLine) : OpR X (compareOp .In) (rInD K) := by subst h; exact op_inD hu
theorem k_notInD (K : PySem.W.Frag) (h : X.K = K) (hu : X.A.units + 65 < cLine) : OpR X (compareOp .NotIn) (rNotInD K) := by subst h; exact op_notInD hu
theorem k_indexD (K : PySem.W.Frag) (h : X.K = K) (hu : X.A.units + 65 < cLine) : MtR X "list.index" (rIndexD K) := by subst h; exact mt_indexD hu
end
/-- rows as data -/
def rowD (r : List Int) : PyData := .list (r.map PyData.int)
theorem rows_dp {K : PySem.W.Frag} {H : Hp} : ∀ {as : List Addr} {rows : List (List Int)}, as.length = rows.length → (∀ (i : Nat) (a : Addr) (r : List Int), as[i]? = some a → rows[i]? = some r → H a = some (.lst (r.map V.int))) → DpAll K H (as.map V.ref) (rows.map rowD)
  | [], [], _, _ => .nil
  | [], _ :: _, h, _ => by simp at h
  | _ :: _, [], h, _ => by simp at h
  | a :: as, r :: rows, h, k => .cons (.lst (.inl (.inl (k 0 a r rfl rfl))) (Pre.dp_ints r)) (rows_dp (by simpa using h) fun i t q ht hq => k (i + 1) t q (by simpa using ht) (by simpa using hq))
theorem rowD_eqv (r q : List Int) : PyData.eqv (rowD r) (rowD q) = decide (r = q) := by
  unfold rowD
  rw [PyData.eqv, eqv_ints]
theorem rows_shaped (rows : List (List Int)) : SeqAt.shaped (.list (rows.map rowD)) = true := by
  have h1 : ∀ l : List (List Int), PyData.canLayAll0 (l.map rowD) = true := fun l => by
    induction l with
    | nil => rfl
    | cons r l ih =>
      show (PyData.canLay0 (rowD r) && PyData.canLayAll0 (l.map rowD)) = true
      rw [ih]
      unfold rowD
      rw [PyData.canLay0, lay_ints]
      rfl
  have h2 : ∀ l : List (List Int), PyData.depthAll (l.map rowD) ≤ 1 := fun l => by
    induction l with
    | nil => simp [PyData.depthAll]
    | cons r l ih =>
      show PyData.depthAll (rowD r :: l.map rowD) ≤ 1
      rw [PyData.depthAll]
      unfold rowD at *
      rw [PyData.depth, depth_ints]
      omega
  show (PyData.canLay0 (.list (rows.map rowD)) && decide (PyData.depth (.list (rows.map rowD)) ≤ 64)) = true
  rw [Bool.and_eq_true]
  have := h2 rows
  exact ⟨by rw [PyData.canLay0]; exact h1 rows, decide_eq_true (by rw [PyData.depth]; omega)⟩
end My

namespace My
open PySem PySem.Spec PyProof.Rows L2 Pre
/-! ### min and max of a list of pairs of whole numbers -/
def pairD (p : Int × Int) : PyData := .tuple [.int p.1, .int p.2]
def ltP2 (p q : Int × Int) : Prop := p.1 < q.1 ∨ (p.1 = q.1 ∧ p.2 < q.2)
instance (p q : Int × Int) : Decidable (ltP2 p q) := by unfold ltP2; infer_instance
theorem pair_lt (p q : Int × Int) : PySem.W.dataLt (pairD p) (pairD q) = decide (ltP2 p q) := PySem.W.dataLt_ii p.1 p.2 q.1 q.2
theorem ltP2_trans {p q r : Int × Int} (h : ¬ ltP2 q p) (k : ¬ ltP2 r q) : ¬ ltP2 r p := by
  unfold ltP2 at *
  omega
def minP (p : Int × Int) (ps : List (Int × Int)) : Int × Int := ps.foldl (fun a y => if ltP2 y a then y else a) p
def maxP (p : Int × Int) (ps : List (Int × Int)) : Int × Int := ps.foldl (fun a y => if ltP2 a y then y else a) p
theorem minP_data : ∀ (ps : List (Int × Int)) (p : Int × Int), PySem.W.minD (pairD p) (ps.map pairD) = pairD (minP p ps)
  | [], _ => rfl
  | q :: ps, p => by
    show PySem.W.minD (if PySem.W.dataLt (pairD q) (pairD p) = true then pairD q else pairD p) (ps.map pairD) = pairD (minP (if ltP2 q p then q else p) ps)
    rw [pair_lt]
    by_cases h : ltP2 q p
    · rw [decide_eq_true h, if_pos rfl, if_pos h, minP_data ps q]
    · rw [decide_eq_false h, if_neg (by decide), if_neg h, minP_data ps p]
theorem maxP_data : ∀ (ps : List (Int × Int)) (p : Int × Int), PySem.W.maxD (pairD p) (ps.map pairD) = pairD (maxP p ps)
  | [], _ => rfl
  | q :: ps, p => by
    show PySem.W.maxD (if PySem.W.dataLt (pairD p) (pairD q) = true then pairD q else pairD p) (ps.map pairD) = pairD (maxP (if ltP2 p q then q else p) ps)
    rw [pair_lt]
    by_cases h : ltP2 p q
    · rw [decide_eq_true h, if_pos rfl, if_pos h, maxP_data ps q]
    · rw [decide_eq_false h, if_neg (by decide), if_neg h, maxP_data ps p]
theorem minP_spec : ∀ (ps : List (Int × Int)) (p : Int × Int), minP p ps ∈ p :: ps ∧ ∀ q ∈ p :: ps, ¬ ltP2 q (minP p ps)
  | [], p => ⟨List.mem_cons_self, fun q hq => by
      rw [List.mem_singleton.mp hq]
      show ¬ ltP2 p p
      unfold ltP2
      omega⟩
  | r :: ps, p => by
    show minP (if ltP2 r p then r else p) ps ∈ _ ∧ ∀ q ∈ p :: r :: ps, ¬ ltP2 q (minP (if ltP2 r p then r else p) ps)
    by_cases h : ltP2 r p
    · rw [if_pos h]
      obtain ⟨h1, h2⟩ := minP_spec ps r
      refine ⟨List.mem_cons_of_mem _ h1, fun q hq => ?_⟩
      rcases List.mem_cons.mp hq with rfl | hq
      · have := h2 r List.mem_cons_self
        exact fun z => this (by unfold ltP2 at *; omega)
      · exact h2 q hq
    · rw [if_neg h]
      obtain ⟨h1, h2⟩ := minP_spec ps p
      refine ⟨?_, fun q hq => ?_⟩
      · rcases List.mem_cons.mp h1 with e | e
        · rw [e]; exact List.mem_cons_self
        · exact List.mem_cons_of_mem _ (List.mem_cons_of_mem _ e)
      · rcases List.mem_cons.mp hq with rfl | hq
        · exact h2 q List.mem_cons_self
        · rcases List.mem_cons.mp hq with rfl | hq
          · have := h2 p List.mem_cons_self
            exact fun z => this (by unfold ltP2 at *; omega)
          · exact h2 q (List.mem_cons_of_mem _ hq)
theorem maxP_spec : ∀ (ps : List (Int × Int)) (p : Int × Int), maxP p ps ∈ p :: ps ∧ ∀ q ∈ p :: ps, ¬ ltP2 (maxP p ps) q
  | [], p => ⟨List.mem_cons_self, fun q hq => by
      rw [List.mem_singleton.mp hq]
      show ¬ ltP2 p p
      unfold ltP2
      omega⟩
  | r :: ps, p => by
    show maxP (if ltP2 p r then r else p) ps ∈ _ ∧ ∀ q ∈ p :: r :: ps, ¬ ltP2 (maxP (if ltP2 p r then r else p) ps) q
    by_cases h : ltP2 p r
    · rw [if_pos h]
      obtain ⟨h1, h2⟩ := maxP_spec ps r
      refine ⟨List.mem_cons_of_mem _ h1, fun q hq => ?_⟩
      rcases List.mem_cons.mp hq with rfl | hq
      · have := h2 r List.mem_cons_self
        exact fun z => this (by unfold ltP2 at *; omega)
      · exact h2 q hq
    · rw [if_neg h]
      obtain ⟨h1, h2⟩ := maxP_spec ps p
      refine ⟨?_, fun q hq => ?_⟩
      · rcases List.mem_cons.mp h1 with e | e
        · rw [e]; exact List.mem_cons_self
        · exact List.mem_cons_of_mem _ (List.mem_cons_of_mem _ e)
      · rcases List.mem_cons.mp hq with rfl | hq
        · exact h2 q List.mem_cons_self
        · rcases List.mem_cons.mp hq with rfl | hq
          · have := h2 p List.mem_cons_self
            exact fun z => this (by unfold ltP2 at *; omega)
          · exact h2 q (List.mem_cons_of_mem _ hq)
theorem pairs_alike (ps : List (Int × Int)) : PySem.W.AlikeAll (ps.map pairD) := by
  refine ⟨fun x hx y hy => ?_, fun x hx => ?_⟩
  · obtain ⟨p, _, rfl⟩ := List.mem_map.mp hx
    obtain ⟨q, _, rfl⟩ := List.mem_map.mp hy
    rfl
  · obtain ⟨p, _, rfl⟩ := List.mem_map.mp hx
    exact fun z => nomatch z
theorem pairs_lay : ∀ ps : List (Int × Int), PyData.canLayAll0 (ps.map pairD) = true
  | [] => rfl
  | p :: ps => by simp [PyData.canLayAll0, PyData.canLay0, pairD, pairs_lay ps]
theorem pairs_depth : ∀ ps : List (Int × Int), PyData.depthAll (ps.map pairD) ≤ 2
  | [] => by simp [PyData.depthAll]
  | p :: ps => by
    have := pairs_depth ps
    simp only [List.map_cons, PyData.depthAll, pairD, PyData.depth]
    omega
/-- a list of pairs, at a -/
def PairsAt (K : PySem.W.Frag) (H : Hp) (a : Addr) (ps : List (Int × Int)) : Prop := ∃ as : List Addr, SqL K H a (as.map V.ref) ∧ as.length = ps.length ∧ ∀ (i : Nat) (t : Addr) (p : Int × Int), as[i]? = some t → ps[i]? = some p → SqT K H t [.int p.1, .int p.2]
theorem pairs_dp {K : PySem.W.Frag} {H : Hp} : ∀ {as : List Addr} {ps : List (Int × Int)}, as.length = ps.length → (∀ (i : Nat) (t : Addr) (p : Int × Int), as[i]? = some t → ps[i]? = some p → SqT K H t [.int p.1, .int p.2]) → DpAll K H (as.map V.ref) (ps.map pairD)
  | [], [], _, _ => .nil
  | [], _ :: _, h, _ => by simp at h
  | _ :: _, [], h, _ => by simp at h
  | a :: as, p :: ps, h, k => .cons (.tup (k 0 a p rfl rfl) (.cons (.int _) (.cons (.int _) .nil))) (pairs_dp (by simpa using h) fun i t q ht hq => k (i + 1) t q (by simpa using ht) (by simpa using hq))
def rMnP (K : PySem.W.Frag) (best : Int × Int → List (Int × Int) → Int × Int) : List V → Hp → VK → Prop := fun xs H Q => ∃ (a : Addr) (p : Int × Int) (ps : List (Int × Int)), xs = [.ref a] ∧ PairsAt K H a (p :: ps) ∧ ∀ t, SqT K H t [.int (best p ps).1, .int (best p ps).2] → Q (.ref t) H
section
variable {X : Cx} {K : PySem.W.Frag}
theorem pick {H : Hp} {s : Shared} {as : List Addr} {ps : List (Int × Int)} {its : List Value} {i : Nat} {v : Value} {h' : Heap} {bs cs : List Addr} {b : Int × Int} (hl : as.length = ps.length)
    (hT : ∀ (i : Nat) (t : Addr) (p : Int × Int), as[i]? = some t → ps[i]? = some p → SqT K H t [.int p.1, .int p.2]) (rv : Vals (as.map V.ref) its) (hr : ReadsAll s.heap its (ps.map pairD) cs) (hv : its.toArray[i]? = some v) (rd : Reads h' v (pairD b) bs)
    (hk : ∀ b o, s.heap.get? b = some o → h'.get? b = some o) : ∃ t, v = .ref t ∧ SqT K H t [.int b.1, .int b.2] := by
  have hv' : its[i]? = some v := by simpa using hv
  have hil : i < its.length := (List.getElem?_eq_some_iff.mp hv').1
  have hvl := rv.length
  rw [List.length_map] at hvl
  obtain ⟨u, hu, ru⟩ := rv.get (show (as.map V.ref)[i]? = some (.ref (as[i]'(by omega))) by rw [List.getElem?_map, List.getElem?_eq_getElem (by omega)]; rfl)
  rw [hv'] at hu
  cases hu
  have hp : ps[i]? = some (ps[i]'(by omega)) := List.getElem?_eq_getElem (by omega)
  obtain ⟨ds, r1, _, _, _⟩ := PySem.W.readsAll_at hr i v hv'
  have e1 : (ps.map pairD).getD i .none = pairD (ps[i]'(by omega)) := by
    rw [List.getD_eq_getElem?_getD, List.getElem?_map, hp]
    rfl
  rw [e1] at r1
  have e2 := PySem.SeqAt.Reads.unique (pairD b) _ v _ _ (by simp [pairD, PyData.canLay0, PyData.canLayAll0]) rd (Reads.keeps hk r1)
  have e3 : b = ps[i]'(by omega) := by
    unfold pairD at e2
    injection e2 with e2
    injection e2 with e4 e5
    injection e5 with e5 _
    injection e4 with e4
    injection e5 with e5
    exact Prod.ext e4 e5
  refine ⟨as[i]'(by omega), ru, ?_⟩
  rw [e3]
  exact hT i _ _ (List.getElem?_eq_getElem (by omega)) hp
theorem k_minP (K : PySem.W.Frag) (h : X.K = K) (hc : X.calm = true) (hu : X.A.units + 65 < cLine) : CallR X (.builtin "min") (rMnP K minP) := by
  subst h
  intro pins s σ H xs us Q I r h
  obtain ⟨a, p, ps, rfl, ⟨as, hS, hl, hT⟩, q⟩ := h
  obtain ⟨its, rv, hL, _⟩ := I.list hS
  rw [Vals.ref1 r]
  obtain ⟨cs, hr⟩ := Dp.readsAll I _ _ its (pairs_dp hl hT) rv
  have hd := pairs_depth (p :: ps)
  refine PySem.W.min_list_data (I.ok.hd hc) hL.isList (show ReadsAll s.heap its.toArray.toList (pairD p :: ps.map pairD) cs by simpa using hr) (pairs_alike (p :: ps)) (by rw [List.map_cons] at hd; omega) fun i v h' tk bs hv rd hk => ?_
  rw [minP_data] at rd
  obtain ⟨t, rfl, ht⟩ := pick hl hT rv hr hv rd hk
  exact ⟨.ref t, H, I.kept hk, rfl, q t ht⟩
theorem k_maxP (K : PySem.W.Frag) (h : X.K = K) (hc : X.calm = true) (hu : X.A.units + 65 < cLine) : CallR X (.builtin "max") (rMnP K maxP) := by
  subst h
  intro pins s σ H xs us Q I r h
  obtain ⟨a, p, ps, rfl, ⟨as, hS, hl, hT⟩, q⟩ := h
  obtain ⟨its, rv, hL, _⟩ := I.list hS
  rw [Vals.ref1 r]
  obtain ⟨cs, hr⟩ := Dp.readsAll I _ _ its (pairs_dp hl hT) rv
  have hd := pairs_depth (p :: ps)
  refine PySem.W.max_list_data (I.ok.hd hc) hL.isList (show ReadsAll s.heap its.toArray.toList (pairD p :: ps.map pairD) cs by simpa using hr) (pairs_alike (p :: ps)) (by rw [List.map_cons] at hd; omega) fun i v h' tk bs hv rd hk => ?_
  rw [maxP_data] at rd
  obtain ⟨t, rfl, ht⟩ := pick hl hT rv hr hv rd hk
  exact ⟨.ref t, H, I.kept hk, rfl, q t ht⟩
theorem huM {k : Nat} {A : Around} (r : Room k A) : A.units + 65 < cLine := by have := r.un; omega
end
end My

namespace My
open PySem PySem.Spec PyProof.Rows L2 Pre
/-! ### data in a heap: what is told of a value by lists and tuples that stand there (none of them frozen) -/
mutual
inductive Dt (H : Hp) : V → PyData → Prop
  | non : Dt H .non .none
  | bl (b : Bool) : Dt H (.bl b) (.bool b)
  | int (n : Int) : Dt H (.int n) (.int n)
  | str (x : Str) : Dt H (.str x) (.str x)
  | lst {a : Addr} {xs : List V} {ds : List PyData} : H a = some (.lst xs) → DtA H xs ds → Dt H (.ref a) (.list ds)
  | tup {a : Addr} {xs : List V} {ds : List PyData} : H a = some (.tup xs) → DtA H xs ds → Dt H (.ref a) (.tuple ds)
inductive DtA (H : Hp) : List V → List PyData → Prop
  | nil : DtA H [] []
  | cons {v : V} {vs : List V} {d : PyData} {ds : List PyData} : Dt H v d → DtA H vs ds → DtA H (v :: vs) (d :: ds)
end
mutual
theorem Dt.same {H H' : Hp} (s : Same H H') : ∀ {d : PyData} {v : V}, Dt H v d → Dt H' v d
  | .none, _, h => by cases h; exact .non
  | .bool _, _, h => by cases h; exact .bl _
  | .int _, _, h => by cases h; exact .int _
  | .str _, _, h => by cases h; exact .str _
  | .list _, _, h => by cases h with | lst a b => exact .lst (s _ _ a) (DtA.same s b)
  | .tuple _, _, h => by cases h with | tup a b => exact .tup (s _ _ a) (DtA.same s b)
  | .dict _, _, h => nomatch h
theorem DtA.same {H H' : Hp} (s : Same H H') : ∀ {ds : List PyData} {vs : List V}, DtA H vs ds → DtA H' vs ds
  | [], _, h => by cases h; exact .nil
  | _ :: _, _, h => by cases h with | cons a b => exact .cons (Dt.same s a) (DtA.same s b)
end
mutual
theorem Dt.dp {K : PySem.W.Frag} {H : Hp} : ∀ {d : PyData} {v : V}, Dt H v d → Dp K H v d
  | .none, _, h => by cases h; exact .non
  | .bool _, _, h => by cases h; exact .bl _
  | .int _, _, h => by cases h; exact .int _
  | .str _, _, h => by cases h; exact .str _
  | .list _, _, h => by cases h with | lst a b => exact .lst (.inl (.inl a)) (DtA.dp b)
  | .tuple _, _, h => by cases h with | tup a b => exact .tup (.inl (.inl a)) (DtA.dp b)
  | .dict _, _, h => nomatch h
theorem DtA.dp {K : PySem.W.Frag} {H : Hp} : ∀ {ds : List PyData} {vs : List V}, DtA H vs ds → DpAll K H vs ds
  | [], _, h => by cases h; exact .nil
  | _ :: _, _, h => by cases h with | cons a b => exact .cons (Dt.dp a) (DtA.dp b)
end
theorem DtA.len {H : Hp} : ∀ {ds : List PyData} {vs : List V}, DtA H vs ds → vs.length = ds.length
  | [], _, h => by cases h; rfl
  | _ :: _, _, h => by cases h with | cons a b => rw [List.length_cons, List.length_cons, DtA.len b]
theorem DtA.app {H : Hp} : ∀ {ds : List PyData} {vs : List V} {es : List PyData} {us : List V}, DtA H vs ds → DtA H us es → DtA H (vs ++ us) (ds ++ es)
  | [], _, _, _, h, k => by cases h; exact k
  | _ :: _, _, _, _, h, k => by cases h with | cons a b => exact .cons a (DtA.app b k)
theorem DtA.get {H : Hp} : ∀ {ds : List PyData} {vs : List V} {i : Nat} {d : PyData}, DtA H vs ds → ds[i]? = some d → ∃ v, vs[i]? = some v ∧ Dt H v d
  | [], _, _, _, _, k => by simp at k
  | _ :: _, _, 0, _, h, k => by
    cases h with
    | cons a b => rw [List.getElem?_cons_zero] at k; cases k; exact ⟨_, rfl, a⟩
  | _ :: _, _, i + 1, _, h, k => by
    cases h with
    | cons a b => rw [List.getElem?_cons_succ] at k; rw [List.getElem?_cons_succ]; exact DtA.get b k
theorem DtA.got {H : Hp} {ds : List PyData} {vs : List V} {i : Nat} {v : V} (h : DtA H vs ds) (k : vs[i]? = some v) : ∃ d, ds[i]? = some d ∧ Dt H v d := by
  have hi := (List.getElem?_eq_some_iff.mp k).1
  have hl := h.len
  obtain ⟨u, hu, d⟩ := h.get (List.getElem?_eq_getElem (show i < ds.length by omega))
  rw [k] at hu
  cases hu
  exact ⟨_, List.getElem?_eq_getElem (by omega), d⟩
theorem DtA.take {H : Hp} : ∀ {ds : List PyData} {vs : List V} (n : Nat), DtA H vs ds → DtA H (vs.take n) (ds.take n)
  | _, _, 0, _ => .nil
  | [], _, _ + 1, h => by cases h; exact .nil
  | _ :: _, _, n + 1, h => by cases h with | cons a b => exact .cons a (DtA.take n b)
theorem DtA.drop {H : Hp} : ∀ {ds : List PyData} {vs : List V} (n : Nat), DtA H vs ds → DtA H (vs.drop n) (ds.drop n)
  | _, _, 0, h => h
  | [], _, _ + 1, h => by cases h; exact .nil
  | _ :: _, _, n + 1, h => by cases h with | cons a b => exact DtA.drop n b
theorem DtA.rev {H : Hp} : ∀ {ds : List PyData} {vs : List V}, DtA H vs ds → DtA H vs.reverse ds.reverse
  | [], _, h => by cases h; exact .nil
  | _ :: _, _, h => by
    cases h with
    | cons a b => rw [List.reverse_cons, List.reverse_cons]; exact DtA.app (DtA.rev b) (.cons a .nil)
theorem DtA.ints {H : Hp} : ∀ ns : List Int, DtA H (ns.map V.int) (ns.map PyData.int)
  | [] => .nil
  | n :: r => .cons (.int n) (DtA.ints r)
theorem DtA.intsE {H : Hp} : ∀ {ns : List Int} {vs : List V}, DtA H vs (ns.map PyData.int) → vs = ns.map V.int
  | [], _, h => by cases h; rfl
  | n :: r, _, h => by
    cases h with
    | cons a b => cases a; rw [DtA.intsE b]; rfl
/-- a list of whole numbers -/
theorem Dt.ints {H : Hp} {a : Addr} {ns : List Int} (h : H a = some (.lst (ns.map V.int))) : Dt H (.ref a) (rowD ns) := .lst h (DtA.ints ns)
theorem Dt.intsE {H : Hp} {v : V} {ns : List Int} (h : Dt H v (rowD ns)) : ∃ a, v = .ref a ∧ H a = some (.lst (ns.map V.int)) := by
  unfold rowD at h
  cases h with
  | lst a b => rw [DtA.intsE b] at a; exact ⟨_, rfl, a⟩
theorem Dt.listE {H : Hp} {v : V} {ds : List PyData} (h : Dt H v (.list ds)) : ∃ a xs, v = .ref a ∧ H a = some (.lst xs) ∧ DtA H xs ds := by
  cases h with
  | lst a b => exact ⟨_, _, rfl, a, b⟩
theorem Dt.tupE {H : Hp} {v : V} {ds : List PyData} (h : Dt H v (.tuple ds)) : ∃ a xs, v = .ref a ∧ H a = some (.tup xs) ∧ DtA H xs ds := by
  cases h with
  | tup a b => exact ⟨_, _, rfl, a, b⟩
/-! ### what is owned (and changes) is left out -/
def rs (S : List Addr) (H : Hp) : Hp := fun a => if a ∈ S then none else H a
theorem rs_nil (H : Hp) : rs [] H = H := by funext a; simp [rs]
theorem rs_in {S : List Addr} {H : Hp} {a : Addr} (h : a ∈ S) : rs S H a = none := if_pos h
theorem rs_out {S : List Addr} {H : Hp} {a : Addr} (h : a ∉ S) : rs S H a = H a := if_neg h
theorem rs_some {S : List Addr} {H : Hp} {a : Addr} {o : HO} (h : rs S H a = some o) : a ∉ S ∧ H a = some o := by
  by_cases m : a ∈ S
  · rw [rs_in m] at h; cases h
  · rw [rs_out m] at h; exact ⟨m, h⟩
theorem rs_le {S : List Addr} {H : Hp} : Same (rs S H) H := fun _ _ h => (rs_some h).2
theorem rs_same {S : List Addr} {H H' : Hp} (s : Same H H') : Same (rs S H) (rs S H') := fun b o h => by
  obtain ⟨m, e⟩ := rs_some h
  rw [rs_out m]
  exact s b o e
theorem rs_upd {S : List Addr} {H : Hp} {p : Addr} {o : HO} (h : p ∈ S) : rs S (L2.upd H p o) = rs S H := by
  funext a
  by_cases m : a ∈ S
  · rw [rs_in m, rs_in m]
  · rw [rs_out m, rs_out m, upd_ne (fun e => m (by rw [e]; exact h))]
/-- all of them stand -/
def Has (S : List Addr) (H : Hp) : Prop := ∀ a ∈ S, ∃ o, H a = some o
theorem Has.nil {H : Hp} : Has [] H := fun _ h => nomatch h
theorem Has.same {S : List Addr} {H H' : Hp} (h : Has S H) (s : Same H H') : Has S H' := fun a m => by
  obtain ⟨o, e⟩ := h a m
  exact ⟨o, s a o e⟩
theorem Has.cons {S : List Addr} {H : Hp} {p : Addr} {o : HO} (h : Has S H) (e : H p = some o) : Has (p :: S) H := fun a m => by
  rcases List.mem_cons.mp m with rfl | m
  · exact ⟨o, e⟩
  · exact h a m
theorem Has.upd {S : List Addr} {H : Hp} {p : Addr} {o : HO} (h : Has S H) : Has S (L2.upd H p o) := fun a m => by
  by_cases e : a = p
  · subst e; exact ⟨o, upd_same⟩
  · rw [upd_ne e]; exact h a m
theorem Has.out {S : List Addr} {H : Hp} {p : Addr} (h : Has S H) (n : H p = none) : p ∉ S := fun m => by
  obtain ⟨o, e⟩ := h p m
  rw [n] at e
  cases e
theorem GenAt.has {H : Hp} {g : Addr} {n : Nat} (h : GenAt H g n) : Has [g] H := by
  obtain ⟨x, y, z, e, _⟩ := h
  exact Has.nil.cons e
/-- all but what is owned stays -/
def Sta (S : List Addr) (H H' : Hp) : Prop := Same (rs S H) (rs S H')
theorem Sta.of {S : List Addr} {H H' : Hp} (s : Same H H') : Sta S H H' := rs_same s
theorem Sta.trans {S : List Addr} {H H1 H2 : Hp} (a : Sta S H H1) (b : Sta S H1 H2) : Sta S H H2 := fun c o h => b c o (a c o h)
theorem Sta.at_ {S : List Addr} {H H' : Hp} (s : Sta S H H') {a : Addr} {o : HO} (m : a ∉ S) (h : H a = some o) : H' a = some o := (rs_some (s a o (by rw [rs_out m]; exact h))).2
theorem Sta.upd {S : List Addr} {H : Hp} {p : Addr} {o : HO} (h : p ∈ S) : Sta S H (L2.upd H p o) := fun c u e => by rw [rs_upd h]; exact e
theorem Sta.more {S : List Addr} {H H' : Hp} {p : Addr} (s : Sta S H H') : Sta (p :: S) H H' := fun c o h => by
  obtain ⟨m, e⟩ := rs_some h
  have m2 : c ∉ S := fun z => m (List.mem_cons_of_mem _ z)
  rw [rs_out m]
  exact s.at_ m2 e
theorem But.sta {g : Addr} {H H' : Hp} (b : But g H H') : Sta [g] H H' := fun c o h => by
  obtain ⟨m, e⟩ := rs_some h
  rw [rs_out m]
  exact b c o (fun z => m (by rw [z]; exact List.mem_cons_self)) e
/-- what was there ahead of a new thing does not speak of it -/
theorem under {S : List Addr} {H H' : Hp} {p : Addr} (n : H p = none) (s : Same H H') : Same (rs S H) (rs (p :: S) H') := fun c o h => by
  obtain ⟨m, e⟩ := rs_some h
  rw [rs_out (fun z => by
    rcases List.mem_cons.mp z with rfl | z
    · rw [n] at e; cases e
    · exact m z)]
  exact s c o e
theorem over {S : List Addr} {H : Hp} {p : Addr} : Same (rs (p :: S) H) (rs S H) := fun c o h => by
  obtain ⟨m, e⟩ := rs_some h
  rw [rs_out (fun z => m (List.mem_cons_of_mem _ z))]
  exact e
/-! ### a new list, a new tuple, a sum of lists -/
theorem dt_new {S : List Addr} {H : Hp} {p : Addr} {xs : List V} {ds : List PyData} (hS : Has S H) (n : H p = none) (h : DtA (rs S H) xs ds) : Dt (rs S (upd H p (.lst xs))) (.ref p) (.list ds) :=
  .lst (by rw [rs_out (hS.out n)]; exact upd_same) (h.same (rs_same (same_upd n)))
theorem dt_newT {S : List Addr} {H : Hp} {p : Addr} {xs : List V} {ds : List PyData} (hS : Has S H) (n : H p = none) (h : DtA (rs S H) xs ds) : Dt (rs S (upd H p (.tup xs))) (.ref p) (.tuple ds) :=
  .tup (by rw [rs_out (hS.out n)]; exact upd_same) (h.same (rs_same (same_upd n)))
theorem d_lst {S : List Addr} {H : Hp} {xs : List V} {ds : List PyData} {Q : VK} (hS : Has S H) (h : DtA (rs S H) xs ds) (hz : xs.length ≤ sizeLine) (k : ∀ p H', Same H H' → H p = none → H' p = some (.lst xs) → Dt (rs S H') (.ref p) (.list ds) → Q (.ref p) H') : xs.length ≤ sizeLine ∧ ∀ p, H p = none → Q (.ref p) (upd H p (.lst xs)) :=
  ⟨hz, fun p n => k p _ (same_upd n) n upd_same (dt_new hS n h)⟩
theorem d_tup {S : List Addr} {H : Hp} {xs : List V} {ds : List PyData} {Q : VK} (hS : Has S H) (h : DtA (rs S H) xs ds) (hz : xs.length ≤ sizeLine) (k : ∀ p H', Same H H' → H p = none → H' p = some (.tup xs) → Dt (rs S H') (.ref p) (.tuple ds) → Q (.ref p) H') : xs.length ≤ sizeLine ∧ ∀ p, H p = none → Q (.ref p) (upd H p (.tup xs)) :=
  ⟨hz, fun p n => k p _ (same_upd n) n upd_same (dt_newT hS n h)⟩
theorem d_cat {S : List Addr} {H : Hp} {v w : V} {ds es : List PyData} {Q : VK} (hS : Has S H) (hv : Dt (rs S H) v (.list ds)) (hw : Dt (rs S H) w (.list es)) (hz : ds.length + es.length ≤ sizeLine) (k : ∀ p H', Same H H' → H p = none → Dt (rs S H') (.ref p) (.list (ds ++ es)) → Q (.ref p) H') : rCat v w H Q := by
  obtain ⟨a, xs, rfl, ha, hx⟩ := hv.listE
  obtain ⟨b, ys, rfl, hb, hy⟩ := hw.listE
  exact ⟨a, b, xs, ys, rfl, rfl, (rs_some ha).2, (rs_some hb).2, by rw [hx.len, hy.len]; exact hz, fun p n => k p _ (same_upd n) n (dt_new hS n (hx.app hy))⟩
theorem d_eq {K : PySem.W.Frag} {H : Hp} {v w : V} {d e : PyData} {Q : VK} (hv : Dt H v d) (hw : Dt H w e) (sd : SeqAt.shaped d = true) (se : SeqAt.shaped e = true) (q : Q (.bl (PyData.eqv d e)) H) : rEqD K v w H Q := ⟨d, e, hv.dp, hw.dp, sd, se, q⟩
theorem d_ne {K : PySem.W.Frag} {H : Hp} {v w : V} {d e : PyData} {Q : VK} (hv : Dt H v d) (hw : Dt H w e) (sd : SeqAt.shaped d = true) (se : SeqAt.shaped e = true) (q : Q (.bl (!PyData.eqv d e)) H) : rNeD K v w H Q := ⟨d, e, hv.dp, hw.dp, sd, se, q⟩
/-! ### comprehensions -/
/-- what comes of an item: nothing, or data -/
def Out (S : List Addr) (H : Hp) : Option PyData → Option V → Prop
  | some d, some v => Dt (rs S H) v d
  | none, none => True
  | _, _ => False
def accP (S : List Addr) (H1 : Hp) (D : Addr) (ds : List PyData) (H : Hp) : Prop := Same H1 H ∧ ∃ ys, H D = some (.lst ys) ∧ DtA (rs (D :: S) H) ys ds
theorem acc_step {S : List Addr} {H1 : Hp} {D : Addr} {sel : List (Option PyData)} {i : Nat} {o : Option PyData} {H H4 : Hp} (nD : H1 D = none) (ho : sel[i]? = some o) (hz : sel.length < sizeLine) (h : accP S H1 D ((sel.take i).filterMap id) H) (s4 : Same H H4) :
    ∀ y : Option V, Out (D :: S) H4 o y → match y with
      | some v => ∃ acc, H4 D = some (.lst acc) ∧ acc.length < sizeLine ∧ accP S H1 D ((sel.take (i + 1)).filterMap id) (upd H4 D (.lst (acc ++ [v])))
      | none => accP S H1 D ((sel.take (i + 1)).filterMap id) H4 := by
  obtain ⟨s, ys, hD, hy⟩ := h
  intro y hO
  rw [take_fm ho]
  cases o with
  | none =>
    cases y with
    | none => exact ⟨s.trans s4, ys, s4 _ _ hD, by simpa using hy.same (rs_same s4)⟩
    | some v => exact absurd hO (fun z => z)
  | some d =>
    cases y with
    | none => exact absurd hO (fun z => z)
    | some v =>
      refine ⟨ys, s4 _ _ hD, ?_, same_over nD (s.trans s4), ys ++ [v], upd_same, ?_⟩
      · rw [hy.len]
        exact Nat.lt_of_le_of_lt (fm_len sel i) hz
      · rw [rs_upd List.mem_cons_self]
        exact (hy.same (rs_same s4)).app (.cons hO .nil)
theorem acc_end {S : List Addr} {H1 : Hp} {D : Addr} {ds : List PyData} {H : Hp} (hS : Has S H1) (nD : H1 D = none) (h : accP S H1 D ds H) : Dt (rs S H) (.ref D) (.list ds) := by
  obtain ⟨s, ys, hD, hy⟩ := h
  exact .lst (by rw [rs_out (hS.out nD)]; exact hD) (hy.same over)
theorem lc_dR {lo : Int} {n : Nat} {j : Nat} {tt : TT} {te : TE} {vs : List Nat} {σ : L2.St} {H1 : Hp} {D : Addr} {Qd : Hp → Prop} {S : List Addr} (hS : Has S H1) (sel : List (Option PyData)) (nD : H1 D = none) (hlen : sel.length = n) (hz : n < sizeLine)
    (hw : ∀ x, wipe ((wipe σ vs).set j (some x)) vs = wipe σ vs)
    (hs : ∀ (i : Nat) (o : Option PyData) (H' : Hp), i < n → sel[i]? = some o → Same H1 H' → Has (D :: S) H' → ∀ Qt : Option V → Hp → Prop, (∀ y H'', Same H' H'' → Out (D :: S) H'' o y → Qt y H'') →
      tt ((wipe σ vs).set j (some (.int (lo + (i : Int))))) H' fun b H3 => if b = true then te ((wipe σ vs).set j (some (.int (lo + (i : Int))))) H3 fun y H4 => Qt (some y) H4 else Qt none H3)
    (hd : ∀ H', Same H1 H' → H' D ≠ none → Dt (rs S H') (.ref D) (.list (sel.filterMap id)) → Qd H') :
    ∃ W : Nat → Nat → Hp → Prop, (∃ m, W 0 m (upd H1 D (.lst []))) ∧ ∀ i m H, W i m H →
      ((Itr lo n).stop i H ∧ Qd H) ∨ ((Itr lo n).go i H ∧ ∃ Nx : Hp → Prop, (∀ H', Nx H' → ∃ m', m' < m ∧ W (i + 1) m' H') ∧ ∀ x H', (Itr lo n).yld i H x H' → gName j x (wipe σ vs) H' fun σ2 H2 => wipe σ2 vs = wipe σ vs ∧ tt σ2 H2 fun b H3 =>
        if b = true then te σ2 H3 fun y H4 => ∃ acc, H4 D = some (.lst acc) ∧ acc.length < sizeLine ∧ Nx (upd H4 D (.lst (acc ++ [y]))) else Nx H3) := by
  refine lc_range (lo := lo) (n := n) (fun i H => accP S H1 D ((sel.take i).filterMap id) H) ⟨same_upd nD, [], upd_same, .nil⟩ ?_ ?_
  · rintro i H hi h
    refine ⟨hw _, ?_⟩
    have ho : sel[i]? = some (sel[i]'(by omega)) := List.getElem?_eq_getElem (by omega)
    obtain ⟨s, ys, hD, hy⟩ := id h
    exact hs i _ H hi ho s ((hS.same s).cons hD) (fun o H4 => match o with
      | some y => ∃ acc, H4 D = some (.lst acc) ∧ acc.length < sizeLine ∧ accP S H1 D ((sel.take (i + 1)).filterMap id) (upd H4 D (.lst (acc ++ [y])))
      | none => accP S H1 D ((sel.take (i + 1)).filterMap id) H4) fun y H4 s4 hO => acc_step nD ho (by omega) h s4 y hO
  · rintro H h
    rw [← hlen, List.take_length] at h
    refine hd H h.1 ?_ (acc_end hS nD h)
    obtain ⟨_, ys, hD, _⟩ := h
    rw [hD]
    exact fun z => nomatch z
theorem lc_dL {K : PySem.W.Frag} {a : Addr} {xs : List V} {j : Nat} {tt : TT} {te : TE} {vs : List Nat} {σ : L2.St} {H1 : Hp} {D : Addr} {Qd : Hp → Prop} {S : List Addr} (hS : Has S H1) (sel : List (Option PyData)) (nD : H1 D = none) (hA : SqL K H1 a xs) (hlen : sel.length = xs.length) (hz : xs.length < sizeLine)
    (hw : ∀ x, wipe ((wipe σ vs).set j (some x)) vs = wipe σ vs)
    (hs : ∀ (i : Nat) (x : V) (o : Option PyData) (H' : Hp), xs[i]? = some x → sel[i]? = some o → Same H1 H' → Has (D :: S) H' → ∀ Qt : Option V → Hp → Prop, (∀ y H'', Same H' H'' → Out (D :: S) H'' o y → Qt y H'') →
      tt ((wipe σ vs).set j (some x)) H' fun b H3 => if b = true then te ((wipe σ vs).set j (some x)) H3 fun y H4 => Qt (some y) H4 else Qt none H3)
    (hd : ∀ H', Same H1 H' → H' D ≠ none → Dt (rs S H') (.ref D) (.list (sel.filterMap id)) → Qd H') :
    ∃ W : Nat → Nat → Hp → Prop, (∃ m, W 0 m (upd H1 D (.lst []))) ∧ ∀ i m H, W i m H →
      ((Itl K a).stop i H ∧ Qd H) ∨ ((Itl K a).go i H ∧ ∃ Nx : Hp → Prop, (∀ H', Nx H' → ∃ m', m' < m ∧ W (i + 1) m' H') ∧ ∀ x H', (Itl K a).yld i H x H' → gName j x (wipe σ vs) H' fun σ2 H2 => wipe σ2 vs = wipe σ vs ∧ tt σ2 H2 fun b H3 =>
        if b = true then te σ2 H3 fun y H4 => ∃ acc, H4 D = some (.lst acc) ∧ acc.length < sizeLine ∧ Nx (upd H4 D (.lst (acc ++ [y]))) else Nx H3) := by
  refine lc_list (K := K) (a := a) (xs := xs) (fun i H => accP S H1 D ((sel.take i).filterMap id) H) ⟨same_upd nD, [], upd_same, .nil⟩ (fun i H _ p => p.1.seq hA) ?_ ?_
  · rintro i x H hx h
    refine ⟨hw _, ?_⟩
    have hi := (List.getElem?_eq_some_iff.mp hx).1
    have ho : sel[i]? = some (sel[i]'(by omega)) := List.getElem?_eq_getElem (by omega)
    obtain ⟨s, ys, hD, hy⟩ := id h
    exact hs i x _ H hx ho s ((hS.same s).cons hD) (fun o H4 => match o with
      | some y => ∃ acc, H4 D = some (.lst acc) ∧ acc.length < sizeLine ∧ accP S H1 D ((sel.take (i + 1)).filterMap id) (upd H4 D (.lst (acc ++ [y])))
      | none => accP S H1 D ((sel.take (i + 1)).filterMap id) H4) fun y H4 s4 hO => acc_step nD ho (by omega) h s4 y hO
  · rintro H h
    rw [← hlen, List.take_length] at h
    refine hd H h.1 ?_ (acc_end hS nD h)
    obtain ⟨_, ys, hD, _⟩ := h
    rw [hD]
    exact fun z => nomatch z
/-- maps: each item's data -/
theorem sel_map {α : Type} (l : List α) (f : α → PyData) : (l.map fun x => some (f x)).filterMap id = l.map f := by
  induction l with
  | nil => rfl
  | cons x l ih =>
    show f x :: (l.map fun x => some (f x)).filterMap id = _
    rw [ih]
    rfl
/-- over any walk -/
theorem lc_dW {J : It} {n : Nat} {G : Hp → Prop} {Y : Nat → Hp → V → Hp → Prop} (w : Walk J n G Y) {g : TG} {tt : TT} {te : TE} {vs : List Nat} {σ : L2.St} {H1 : Hp} {D : Addr} {Qd : Hp → Prop} {S : List Addr} (hS : Has S H1) (sel : List (Option PyData)) (nD : H1 D = none) (hlen : sel.length = n) (hz : n < sizeLine)
    (hG : ∀ H', Same H1 H' → G H')
    (hs : ∀ (i : Nat) (o : Option PyData) (H0 : Hp) (x : V) (H' : Hp), i < n → sel[i]? = some o → Same H1 H0 → Has (D :: S) H0 → Y i H0 x H' → ∀ Qt : Option V → Hp → Prop, (∀ y H'', Same H0 H'' → Out (D :: S) H'' o y → Qt y H'') →
      g x (wipe σ vs) H' fun σ2 H2 => wipe σ2 vs = wipe σ vs ∧ tt σ2 H2 fun b H3 => if b = true then te σ2 H3 fun y H4 => Qt (some y) H4 else Qt none H3)
    (hd : ∀ H', Same H1 H' → H' D ≠ none → Dt (rs S H') (.ref D) (.list (sel.filterMap id)) → Qd H') :
    ∃ W : Nat → Nat → Hp → Prop, (∃ m, W 0 m (upd H1 D (.lst []))) ∧ ∀ i m H, W i m H →
      (J.stop i H ∧ Qd H) ∨ (J.go i H ∧ ∃ Nx : Hp → Prop, (∀ H', Nx H' → ∃ m', m' < m ∧ W (i + 1) m' H') ∧ ∀ x H', J.yld i H x H' → g x (wipe σ vs) H' fun σ2 H2 => wipe σ2 vs = wipe σ vs ∧ tt σ2 H2 fun b H3 =>
        if b = true then te σ2 H3 fun y H4 => ∃ acc, H4 D = some (.lst acc) ∧ acc.length < sizeLine ∧ Nx (upd H4 D (.lst (acc ++ [y]))) else Nx H3) := by
  refine lc_it w (fun i H => accP S H1 D ((sel.take i).filterMap id) H) ⟨same_upd nD, [], upd_same, .nil⟩ (fun i H _ p => hG H p.1) ?_ ?_
  · rintro i x H H' hi h y
    have ho : sel[i]? = some (sel[i]'(by omega)) := List.getElem?_eq_getElem (by omega)
    obtain ⟨s, ys, hD, hy⟩ := id h
    exact hs i _ H x H' hi ho s ((hS.same s).cons hD) y (fun o H4 => match o with
      | some y => ∃ acc, H4 D = some (.lst acc) ∧ acc.length < sizeLine ∧ accP S H1 D ((sel.take (i + 1)).filterMap id) (upd H4 D (.lst (acc ++ [y])))
      | none => accP S H1 D ((sel.take (i + 1)).filterMap id) H4) fun y H4 s4 hO => acc_step nD ho (by omega) h s4 y hO
  · rintro H h
    rw [← hlen, List.take_length] at h
    refine hd H h.1 ?_ (acc_end hS nD h)
    obtain ⟨_, ys, hD, _⟩ := h
    rw [hD]
    exact fun z => nomatch z
theorem dt_pairs {K : PySem.W.Frag} {H : Hp} {a : Addr} {ps : List (Int × Int)} (h : Dt H (.ref a) (.list (ps.map pairD))) : PairsAt K H a ps := by
  cases h with
  | lst ha hx =>
    rename_i xs
    have key : ∀ (ps : List (Int × Int)) (xs : List V), DtA H xs (ps.map pairD) → ∃ as : List Addr, xs = as.map V.ref ∧ as.length = ps.length ∧ ∀ (i : Nat) (t : Addr) (p : Int × Int), as[i]? = some t → ps[i]? = some p → SqT K H t [.int p.1, .int p.2] := fun ps => by
      induction ps with
      | nil => intro xs h; cases h; exact ⟨[], rfl, rfl, fun i t p ht => by simp at ht⟩
      | cons p ps ih =>
        intro xs h
        cases h with
        | cons b c =>
          obtain ⟨as, rfl, hl, k⟩ := ih _ c
          obtain ⟨t, ys, rfl, ht, hy⟩ := (show Dt H _ (.tuple [.int p.1, .int p.2]) from b).tupE
          rw [DtA.intsE (ns := [p.1, p.2]) hy] at ht
          refine ⟨t :: as, rfl, by rw [List.length_cons, List.length_cons, hl], fun i u q hu hq => ?_⟩
          cases i with
          | zero =>
            rw [List.getElem?_cons_zero] at hu hq
            cases hu
            cases hq
            exact .inl (.inl ht)
          | succ i =>
            rw [List.getElem?_cons_succ] at hu hq
            exact k i u q hu hq
    obtain ⟨as, rfl, hl, k⟩ := key ps xs hx
    exact ⟨as, .inl (.inl ha), hl, k⟩
end My

namespace My
open PySem PySem.Spec PyProof.Rows L2 Pre
/-! ### texts of bits -/
def sgn (b : Bool) : Nat := if b = true then 49 else 48
def bS (bs : List Bool) : Str := ⟨(bs.map sgn).toArray⟩
theorem bS_len (bs : List Bool) : (bS bs).length = bs.length := by simp [bS, Str.length]
theorem bS_size (bs : List Bool) : (bS bs).cps.size = bs.length := by simp [bS]
theorem bS_app (a b : List Bool) : bS a ++ bS b = bS (a ++ b) := by
  show (⟨(bS a).cps ++ (bS b).cps⟩ : Str) = _
  unfold bS
  rw [List.map_append, List.append_toArray]
theorem sgn_inj {a b : Bool} (h : sgn a = sgn b) : a = b := by cases a <;> cases b <;> first | rfl | (simp [sgn] at h)
theorem bS_inj {a b : List Bool} (h : bS a = bS b) : a = b := by
  have e : a.map sgn = b.map sgn := by
    have := congrArg (fun z : Str => z.cps.toList) h
    simpa [bS] using this
  induction a generalizing b with
  | nil => cases b with
    | nil => rfl
    | cons _ _ => simp at e
  | cons x r ih => cases b with
    | nil => simp at e
    | cons y q =>
      rw [List.map_cons, List.map_cons, List.cons.injEq] at e
      have hr : bS r = bS q := by
        have z : r.map sgn = q.map sgn := e.2
        unfold bS
        rw [z]
      rw [sgn_inj e.1, ih hr e.2]
theorem bS_at {bs : List Bool} {i c : Nat} (h : (bS bs).cps[i]? = some c) : ∃ b, bs[i]? = some b ∧ (⟨#[c]⟩ : Str) = bS [b] := by
  have e : (bs.map sgn)[i]? = some c := by
    unfold bS at h
    rw [← h]
    simp
  rw [List.getElem?_map] at e
  obtain ⟨b, hb, rfl⟩ := Option.map_eq_some_iff.mp e
  exact ⟨b, hb, rfl⟩
theorem bS_atI {bs : List Bool} {i : Nat} {b : Bool} (h : bs[i]? = some b) : atI (bS bs).cps.toList (i : Int) = some (sgn b) := by
  refine atI_nat ?_
  unfold bS
  simp [h]
theorem bS_one (b : Bool) : (⟨#[sgn b]⟩ : Str) = bS [b] := rfl
theorem str_one : (("1" : String) : Str) = bS [true] := by decide +kernel
theorem str_nil : (("" : String) : Str) = bS [] := by decide +kernel
theorem str_zero : (("0" : String) : Str) = bS [false] := by decide +kernel
theorem dec_bS (a b : List Bool) : decide (V.str (bS a) = V.str (bS b)) = decide (a = b) := by
  by_cases h : a = b
  · subst h; simp
  · rw [decide_eq_false h, decide_eq_false]
    exact fun z => h (bS_inj (V.str.inj z))
theorem one_sign (b : Bool) : decide (V.str (bS [b]) = V.str (("1" : String) : Str)) = b := by
  rw [str_one, dec_bS]
  cases b <;> rfl
theorem reps_list (c : List Nat) : ∀ (k : Nat) (acc : List Nat), (List.replicate k c.toArray).foldl (· ++ ·) acc.toArray = (acc ++ (List.replicate k c).flatten).toArray
  | 0, acc => by simp
  | k + 1, acc => by
    rw [List.replicate_succ, List.foldl_cons, List.append_toArray, reps_list c k, List.replicate_succ, List.flatten_cons, List.append_assoc]
theorem bS_mul (k : Nat) : Txt.mul (("0" : String) : Str) (k : Int) = bS (List.replicate k false) := by
  rw [str_zero]
  unfold Txt.mul
  by_cases h0 : (k : Int) < 1
  · rw [if_pos h0, show k = 0 by omega]
    rfl
  · rw [if_neg h0]
    by_cases h1 : k = 1
    · subst h1
      rfl
    · rw [if_neg (by
        rw [Bool.or_eq_true, beq_iff_eq, beq_iff_eq, bS_len]
        simp
        omega), Int.toNat_natCast]
      have := reps_list [48] k []
      unfold bS
      rw [List.map_replicate]
      show (⟨(List.replicate k ([48] : List Nat).toArray).foldl (· ++ ·) ([] : List Nat).toArray⟩ : Str) = _
      rw [this, List.nil_append]
      have e : (List.replicate k [48]).flatten = List.replicate k 48 := by
        clear this h0 h1
        induction k with
        | zero => rfl
        | succ k ih => rw [List.replicate_succ, List.flatten_cons, ih, List.replicate_succ]; rfl
      rw [e]
      rfl
theorem join_bits (bs : List Bool) : Txt.join (("" : String) : Str) (bs.map fun b => bS [b]) = bS bs := by
  rw [TL.join_eq]
  have e0 : TL.tl ((("" : String) : Str)) = [] := by rw [str_nil]; rfl
  have key : ∀ bs : List Bool, TL.joinL [] ((bs.map fun b => bS [b]).map TL.tl) = bs.map sgn := by
    intro bs
    induction bs with
    | nil => rfl
    | cons b r ih =>
      cases r with
      | nil => rfl
      | cons c q =>
        show TL.tl (bS [b]) ++ ([] ++ TL.joinL [] (((c :: q).map fun b => bS [b]).map TL.tl)) = _
        rw [ih]
        rfl
  have h := TL.tl_join (("" : String) : Str) (bs.map fun b => bS [b])
  rw [e0, key] at h
  unfold bS
  rw [← h]
  exact (TL.mk_tl _).symm
section
variable {X : Cx}
def rRepS : R2 := fun x y H Q => ∃ (z : Str) (n : Nat), x = .str z ∧ y = .int n ∧ z.length ≤ 100 ∧ n ≤ 10000 ∧ Q (.str (Txt.mul z n)) H
theorem op_rep_str : OpR X (binaryOp .Mult) rRepS := by
  intro pins s σ H x y v u Q I rx ry h
  obtain ⟨z, n, rfl, rfl, hz, hn, q⟩ := h
  obtain ⟨t, rfl⟩ := rx
  obtain ⟨t', rfl⟩ := ry
  exact PySem.SB.mul (mulOk_of 100 10000 hz (by omega) (by omega) (by decide) (by decide)) fun t' k => ⟨.str (Txt.mul z n), H, I.tok _, ⟨_, rfl⟩, q⟩
end
end My

set_option linter.all false
set_option linter.unusedSectionVars false
namespace My
/-! ### rests of rows by a check: numbers stand for sums of powers over two -/
def red (w W x : Nat) : Nat := if x >>> w = 1 then x ^^^ W else x
def remN (w W : Nat) : Nat → Nat → Nat
  | 0, _ => 0
  | k + 1, n => red w W (2 * remN w W k (n / 2) + n % 2)
def rem (w W n : Nat) : Nat := remN w W (n.log2 + 1) n
def sh (w W a : Nat) : Nat := red w W (2 * a)
structure Ck (w W : Nat) : Prop where
  pos : 1 ≤ w
  lo : 2 ^ w < W
  hi : W < 2 ^ (w + 1)
  odd : W % 2 = 1
theorem red_zero (w W : Nat) : red w W 0 = 0 := by simp [red]
theorem shr1 {w x : Nat} (h : x < 2 ^ (w + 1)) : x >>> w = 1 ↔ 2 ^ w ≤ x := by
  rw [Nat.shiftRight_eq_div_pow]
  have hp : 0 < 2 ^ w := Nat.pow_pos (by omega)
  rw [Nat.pow_succ] at h
  constructor
  · intro e
    by_cases c : x < 2 ^ w
    · rw [Nat.div_eq_of_lt c] at e
      omega
    · omega
  · intro c
    have h1 : 1 ≤ x / 2 ^ w := (Nat.le_div_iff_mul_le hp).mpr (by omega)
    have h2 : x / 2 ^ w < 2 := (Nat.div_lt_iff_lt_mul hp).mpr (by omega)
    omega
theorem bit_top {w x : Nat} (h : x < 2 ^ (w + 1)) : x.testBit w = decide (2 ^ w ≤ x) := by
  have e := Nat.testBit_eq_decide_div_mod_eq (x := x) (i := w)
  rw [e]
  have hp : 0 < 2 ^ w := Nat.pow_pos (by omega)
  rw [Nat.pow_succ] at h
  by_cases c : 2 ^ w ≤ x
  · have h1 : 1 ≤ x / 2 ^ w := (Nat.le_div_iff_mul_le hp).mpr (by omega)
    have h2 : x / 2 ^ w < 2 := (Nat.div_lt_iff_lt_mul hp).mpr (by omega)
    have h3 : x / 2 ^ w = 1 := by omega
    simp [h3, c]
  · have h3 : x / 2 ^ w = 0 := Nat.div_eq_of_lt (by omega)
    simp [h3, c]
theorem xor_low {w x W : Nat} (hx : x < 2 ^ (w + 1)) (hW : W < 2 ^ (w + 1)) (h1 : 2 ^ w ≤ x) (h2 : 2 ^ w ≤ W) : x ^^^ W < 2 ^ w := by
  refine Nat.lt_pow_two_of_testBit _ fun i hi => ?_
  rw [Nat.testBit_xor]
  rcases Nat.lt_or_ge w i with c | c
  · have e : (2 : Nat) ^ (w + 1) ≤ 2 ^ i := Nat.pow_le_pow_right (by omega) c
    rw [Nat.testBit_lt_two_pow (by omega), Nat.testBit_lt_two_pow (by omega)]
    rfl
  · have e : i = w := by omega
    subst e
    rw [bit_top hx, bit_top hW, decide_eq_true h1, decide_eq_true h2]
    rfl
theorem xor_high {w x y : Nat} (hx : x < 2 ^ w) (hy : y < 2 ^ (w + 1)) (h2 : 2 ^ w ≤ y) : 2 ^ w ≤ x ^^^ y ∧ x ^^^ y < 2 ^ (w + 1) := by
  have hp : 2 ^ (w + 1) = 2 ^ w * 2 := Nat.pow_succ ..
  have hl : x ^^^ y < 2 ^ (w + 1) := Nat.xor_lt_two_pow (by omega) hy
  refine ⟨?_, hl⟩
  have e := bit_top hl
  rw [Nat.testBit_xor, bit_top (show x < 2 ^ (w + 1) by omega), bit_top hy, decide_eq_true h2, decide_eq_false (show ¬ 2 ^ w ≤ x by omega)] at e
  exact of_decide_eq_true e.symm
section
variable {w W : Nat} (C : Ck w W)
include C
theorem red_lt {x : Nat} (h : x < 2 ^ (w + 1)) : red w W x < 2 ^ w := by
  unfold red
  have s := shr1 h
  by_cases c : 2 ^ w ≤ x
  · rw [if_pos (s.mpr c)]
    exact xor_low h C.hi c (Nat.le_of_lt C.lo)
  · rw [if_neg (fun z => c (s.mp z))]
    omega
theorem red_id {x : Nat} (h : x < 2 ^ w) : red w W x = x := by
  unfold red
  have hp : 2 ^ (w + 1) = 2 ^ w * 2 := Nat.pow_succ ..
  rw [if_neg fun z => by
    have := (shr1 (w := w) (x := x) (by omega)).mp z
    omega]
theorem red_hi {x : Nat} (h : x < 2 ^ (w + 1)) (c : 2 ^ w ≤ x) : red w W x = x ^^^ W := by
  unfold red
  rw [if_pos ((shr1 h).mpr c)]
theorem red_xor {x y : Nat} (hx : x < 2 ^ (w + 1)) (hy : y < 2 ^ (w + 1)) : red w W (x ^^^ y) = red w W x ^^^ red w W y := by
  have hp : 2 ^ (w + 1) = 2 ^ w * 2 := Nat.pow_succ ..
  by_cases c : 2 ^ w ≤ x <;> by_cases d : 2 ^ w ≤ y
  · rw [red_hi C hx c, red_hi C hy d, red_id C (xor_low hx hy c d)]
    rw [Nat.xor_assoc, Nat.xor_comm y W, ← Nat.xor_assoc W W y, Nat.xor_self, Nat.zero_xor]
  · have hh := xor_high (show y < 2 ^ w by omega) hx c
    rw [red_hi C hx c, red_id C (show y < 2 ^ w by omega), Nat.xor_comm x y, red_hi C hh.2 hh.1]
    rw [Nat.xor_comm y x, Nat.xor_assoc, Nat.xor_assoc, Nat.xor_comm y W]
  · have hh := xor_high (show x < 2 ^ w by omega) hy d
    rw [red_hi C hy d, red_id C (show x < 2 ^ w by omega), red_hi C hh.2 hh.1, Nat.xor_assoc]
  · rw [red_id C (show x < 2 ^ w by omega), red_id C (show y < 2 ^ w by omega), red_id C (Nat.xor_lt_two_pow (show x < 2 ^ w by omega) (show y < 2 ^ w by omega))]
omit C in
theorem remN_stab : ∀ (k j n : Nat), n < 2 ^ k → n < 2 ^ j → remN w W k n = remN w W j n
  | 0, 0, _, _, _ => rfl
  | 0, j + 1, n, h, _ => by
    have e : n = 0 := by omega
    subst e
    have : ∀ j, remN w W j 0 = 0 := fun j => by
      induction j with
      | zero => rfl
      | succ j ih => rw [remN, Nat.zero_div, ih]; exact red_zero ..
    rw [this, this]
  | k + 1, 0, n, _, h => by
    have e : n = 0 := by omega
    subst e
    have : ∀ j, remN w W j 0 = 0 := fun j => by
      induction j with
      | zero => rfl
      | succ j ih => rw [remN, Nat.zero_div, ih]; exact red_zero ..
    rw [this, this]
  | k + 1, j + 1, n, h1, h2 => by
    rw [Nat.pow_succ] at h1 h2
    rw [remN, remN, remN_stab k j (n / 2) (by omega) (by omega)]
omit C in
theorem rem_fuel {k n : Nat} (h : n < 2 ^ k) : rem w W n = remN w W k n := remN_stab _ _ _ Nat.lt_log2_self h
omit C in
theorem rem_zero : rem w W 0 = 0 := by rw [rem_fuel (k := 0) (by omega)]; rfl
omit C in
theorem rem_step (n : Nat) : rem w W n = red w W (2 * rem w W (n / 2) + n % 2) := by
  have h : n < 2 ^ (n.log2 + 1) := Nat.lt_log2_self
  rw [rem_fuel (k := n.log2) (n := n / 2) (by rw [Nat.pow_succ] at h; omega)]
  rfl
omit C in
theorem rem_bit (m b : Nat) (hb : b < 2) : rem w W (2 * m + b) = red w W (2 * rem w W m + b) := by
  rw [rem_step, show (2 * m + b) / 2 = m by omega, show (2 * m + b) % 2 = b by omega]
theorem rem_lt (n : Nat) : rem w W n < 2 ^ w := by
  induction n using Nat.strongRecOn with
  | _ n ih =>
    by_cases h : n = 0
    · subst h
      rw [rem_zero]
      exact Nat.pow_pos (by omega)
    · rw [rem_step]
      refine red_lt C ?_
      have := ih (n / 2) (by omega)
      rw [Nat.pow_succ]
      omega
omit C in
theorem xor_bit (a b p q : Nat) (hp : p < 2) (hq : q < 2) : (2 * a + p) ^^^ (2 * b + q) = 2 * (a ^^^ b) + (p ^^^ q) := by
  have hpq : p ^^^ q < 2 := Nat.xor_lt_two_pow (n := 1) hp hq
  have e1 : ((2 * a + p) ^^^ (2 * b + q)) / 2 = a ^^^ b := by rw [Nat.xor_div_two, show (2 * a + p) / 2 = a by omega, show (2 * b + q) / 2 = b by omega]
  have e2 : ((2 * a + p) ^^^ (2 * b + q)) % 2 = p ^^^ q := by
    have h := Nat.testBit_xor (2 * a + p) (2 * b + q) 0
    rw [Nat.testBit_zero, Nat.testBit_zero, Nat.testBit_zero] at h
    rw [show (2 * a + p) % 2 = p by omega, show (2 * b + q) % 2 = q by omega] at h
    have c1 : p = 0 ∨ p = 1 := by omega
    have c2 : q = 0 ∨ q = 1 := by omega
    generalize (2 * a + p) ^^^ (2 * b + q) = N at h ⊢
    have z : (0 : Nat) ^^^ 0 = 0 := rfl
    have o : (1 : Nat) ^^^ 1 = 0 := rfl
    have zo : (0 : Nat) ^^^ 1 = 1 := rfl
    have oz : (1 : Nat) ^^^ 0 = 1 := rfl
    rcases c1 with e3 | e3 <;> rcases c2 with e4 | e4 <;> rw [e3, e4] at h ⊢ <;> simp only [z, o, zo, oz] <;> simp at h <;> omega
  omega
theorem rem_xor : ∀ n m : Nat, rem w W (n ^^^ m) = rem w W n ^^^ rem w W m := by
  intro n
  induction n using Nat.strongRecOn with
  | _ n ih =>
    intro m
    by_cases h : n = 0
    · subst h
      rw [Nat.zero_xor, rem_zero, Nat.zero_xor]
    · have e := xor_bit (n / 2) (m / 2) (n % 2) (m % 2) (by omega) (by omega)
      rw [show 2 * (n / 2) + n % 2 = n by omega, show 2 * (m / 2) + m % 2 = m by omega] at e
      have hb : n % 2 ^^^ m % 2 < 2 := Nat.xor_lt_two_pow (n := 1) (by omega) (by omega)
      rw [e, rem_bit _ _ hb, ih _ (by omega), rem_step n, rem_step m]
      have l1 := rem_lt C (n / 2)
      have l2 := rem_lt C (m / 2)
      have hp : 2 ^ (w + 1) = 2 ^ w * 2 := Nat.pow_succ ..
      rw [← red_xor C (by omega) (by omega), xor_bit _ _ _ _ (by omega) (by omega)]
theorem rem_small : ∀ n : Nat, n < 2 ^ w → rem w W n = n := by
  intro n
  induction n using Nat.strongRecOn with
  | _ n ih =>
    intro hn
    by_cases h : n = 0
    · subst h
      exact rem_zero
    · rw [rem_step, ih _ (by omega) (by omega), show 2 * (n / 2) + n % 2 = n by omega]
      exact red_id C hn
theorem rem_self : rem w W W = 0 := by
  have h := C.hi
  have hl := C.lo
  have hp : 2 ^ (w + 1) = 2 ^ w * 2 := Nat.pow_succ ..
  rw [rem_step, rem_small C _ (by omega), show 2 * (W / 2) + W % 2 = W by omega, red_hi C h (by omega), Nat.xor_self]
omit C in
theorem rem_dbl (n : Nat) : rem w W (2 * n) = sh w W (rem w W n) := rem_bit n 0 (by omega)
theorem rem_shl (n k : Nat) (h : rem w W n = 0) : rem w W (n <<< k) = 0 := by
  induction k with
  | zero => exact h
  | succ k ih =>
    rw [Nat.shiftLeft_eq, Nat.pow_succ, ← Nat.mul_assoc, Nat.mul_comm, ← Nat.shiftLeft_eq, rem_dbl, ih]
    exact red_zero ..
theorem sh_lt {a : Nat} (h : a < 2 ^ w) : sh w W a < 2 ^ w := red_lt C (by rw [Nat.pow_succ]; omega)
theorem sh_xor {a b : Nat} (ha : a < 2 ^ w) (hb : b < 2 ^ w) : sh w W (a ^^^ b) = sh w W a ^^^ sh w W b := by
  have hp : 2 ^ (w + 1) = 2 ^ w * 2 := Nat.pow_succ ..
  unfold sh
  rw [← red_xor C (by omega) (by omega)]
  have e := xor_bit a b 0 0 (by omega) (by omega)
  simp only [Nat.add_zero, Nat.xor_self] at e
  rw [e]
theorem sh_zero {a : Nat} (ha : a < 2 ^ w) (h : sh w W a = 0) : a = 0 := by
  have hp : 2 ^ (w + 1) = 2 ^ w * 2 := Nat.pow_succ ..
  unfold sh at h
  by_cases c : 2 ^ w ≤ 2 * a
  · rw [red_hi C (by omega) c] at h
    have e : 2 * a = W := by
      have : (2 * a ^^^ W) ^^^ W = 0 ^^^ W := by rw [h]
      rw [Nat.xor_assoc, Nat.xor_self, Nat.xor_zero, Nat.zero_xor] at this
      exact this
    have := C.odd
    omega
  · rw [red_id C (by omega)] at h
    omega
omit C in
theorem xor_eq0 {a b : Nat} : a ^^^ b = 0 ↔ a = b := by
  constructor
  · intro h
    have : (a ^^^ b) ^^^ b = 0 ^^^ b := by rw [h]
    rw [Nat.xor_assoc, Nat.xor_self, Nat.xor_zero, Nat.zero_xor] at this
    exact this
  · rintro rfl
    exact Nat.xor_self _
theorem sh_inj {a b : Nat} (ha : a < 2 ^ w) (hb : b < 2 ^ w) (h : sh w W a = sh w W b) : a = b := by
  have e := sh_xor C ha hb
  rw [h, Nat.xor_self] at e
  exact xor_eq0.mp (sh_zero C (Nat.xor_lt_two_pow ha hb) e)
/-- what is moved by places alone -/
theorem rem_moved (n k : Nat) (h : rem w W (n <<< k) = 0) : rem w W n = 0 := by
  induction k with
  | zero => exact h
  | succ k ih =>
    refine ih ?_
    rw [Nat.shiftLeft_eq, Nat.pow_succ, ← Nat.mul_assoc, Nat.mul_comm, ← Nat.shiftLeft_eq, rem_dbl] at h
    exact sh_zero C (rem_lt C _) h
/-! ### powers -/
omit C in
/-- the rest of a power of x -/
def pw (w W i : Nat) : Nat := rem w W (2 ^ i)
theorem pw_zero : pw w W 0 = 1 := rem_small C 1 (by
  have := C.pos
  have : 2 ^ 1 ≤ 2 ^ w := Nat.pow_le_pow_right (by omega) this
  omega)
omit C in
theorem pw_succ (i : Nat) : pw w W (i + 1) = sh w W (pw w W i) := by
  unfold pw
  rw [Nat.pow_succ, Nat.mul_comm, rem_dbl]
theorem pw_lt (i : Nat) : pw w W i < 2 ^ w := rem_lt C _
theorem pw_ne (i : Nat) : pw w W i ≠ 0 := by
  induction i with
  | zero => rw [pw_zero C]; omega
  | succ i ih => exact fun h => ih (sh_zero C (pw_lt C i) (by rw [← pw_succ]; exact h))
theorem pw_back {a b k : Nat} (h : pw w W (a + k) = pw w W (b + k)) : pw w W a = pw w W b := by
  induction k with
  | zero => exact h
  | succ k ih => exact ih (sh_inj C (pw_lt C _) (pw_lt C _) (by rw [← pw_succ, ← pw_succ]; exact h))
theorem pw_again : ∃ d, 1 ≤ d ∧ d < 2 ^ w ∧ pw w W d = 1 := by
  have hp : 0 < 2 ^ w := Nat.pow_pos (by omega)
  apply Classical.byContradiction
  intro no
  have inj : ∀ i j, i < j → j < 2 ^ w → pw w W i ≠ pw w W j := fun i j hij hj e => by
    refine no ⟨j - i, by omega, by omega, ?_⟩
    have := pw_back C (a := 0) (b := j - i) (k := i) (by rw [Nat.zero_add, show j - i + i = j by omega]; exact e)
    rw [← this, pw_zero C]
  have nd : ((List.range (2 ^ w)).map (pw w W)).Nodup := by
    refine List.pairwise_map.mpr (List.pairwise_lt_range.imp_of_mem fun {a b} ha hb hab => ?_)
    exact inj a b hab (List.mem_range.mp hb)
  have sub : ((List.range (2 ^ w)).map (pw w W)) ⊆ (List.range (2 ^ w)).erase 0 := fun x hx => by
    obtain ⟨i, _, rfl⟩ := List.mem_map.mp hx
    exact (List.mem_erase_of_ne (pw_ne C i)).mpr (List.mem_range.mpr (pw_lt C i))
  have h := nd.length_le_of_subset sub
  rw [List.length_map, List.length_erase_of_mem (List.mem_range.mpr hp), List.length_range] at h
  omega
/-! ### rows of bits -/
omit C in
def numB (bs : List Bool) : Nat := bs.foldl (fun n b => 2 * n + b.toNat) 0
omit C in
theorem foldB (bs : List Bool) (n : Nat) : bs.foldl (fun n b => 2 * n + b.toNat) n = n * 2 ^ bs.length + numB bs := by
  unfold numB
  induction bs generalizing n with
  | nil => simp
  | cons b r ih =>
    rw [List.foldl_cons, List.foldl_cons, ih, ih (2 * 0 + b.toNat), List.length_cons, Nat.pow_succ, Nat.mul_zero, Nat.zero_add, Nat.add_mul, ← Nat.add_assoc]
    congr 1
    congr 1
    rw [Nat.mul_comm 2 n, Nat.mul_assoc, Nat.mul_comm 2]
omit C in
theorem numB_app (a b : List Bool) : numB (a ++ b) = numB a * 2 ^ b.length + numB b := by
  unfold numB
  rw [List.foldl_append, foldB]
  rfl

omit C in
theorem numB_snoc (a : List Bool) (b : Bool) : numB (a ++ [b]) = 2 * numB a + b.toNat := by
  rw [numB_app]
  show numB a * 2 ^ 1 + (2 * 0 + b.toNat) = _
  omega
omit C in
theorem foldB_lt (a : List Bool) : ∀ n : Nat, a.foldl (fun n b => 2 * n + b.toNat) n < (n + 1) * 2 ^ a.length := by
  induction a with
  | nil => intro n; simp
  | cons b r ih =>
    intro n
    rw [List.foldl_cons, List.length_cons, Nat.pow_succ]
    refine Nat.lt_of_lt_of_le (ih _) ?_
    have hb : b.toNat ≤ 1 := Bool.toNat_le b
    have : (2 * n + b.toNat + 1) * 2 ^ r.length ≤ (2 * (n + 1)) * 2 ^ r.length := Nat.mul_le_mul_right _ (by omega)
    refine Nat.le_trans this ?_
    rw [Nat.mul_comm 2 (n + 1), Nat.mul_assoc, Nat.mul_comm 2]
    exact Nat.le_refl _
omit C in
theorem numB_lt (a : List Bool) : numB a < 2 ^ a.length := by
  have := foldB_lt a 0
  rw [Nat.zero_add, Nat.one_mul] at this
  exact this
omit C in
/-- the rest of a row, sign by sign -/
def restB (w W : Nat) (bs : List Bool) : Nat := bs.foldl (fun f b => red w W (2 * f + b.toNat)) 0
omit C in
theorem restB_snoc (a : List Bool) (b : Bool) : restB w W (a ++ [b]) = red w W (2 * restB w W a + b.toNat) := by
  unfold restB
  rw [List.foldl_append]
  rfl
omit C in
theorem foldR (bs : List Bool) (n : Nat) : bs.foldl (fun f b => red w W (2 * f + b.toNat)) (rem w W n) = rem w W (bs.foldl (fun n b => 2 * n + b.toNat) n) := by
  induction bs generalizing n with
  | nil => rfl
  | cons b r ih =>
    rw [List.foldl_cons, List.foldl_cons, ← ih, rem_bit]
    cases b <;> decide
omit C in
theorem restB_eq (bs : List Bool) : restB w W bs = rem w W (numB bs) := by
  have := foldR (w := w) (W := W) bs 0
  rw [rem_zero] at this
  exact this
omit C in
/-- the bits of a number, so many, the greatest first -/
def bitsB (n : Nat) : Nat → List Bool
  | 0 => []
  | k + 1 => n.testBit k :: bitsB n k
omit C in
theorem bitsB_len (n : Nat) : ∀ k, (bitsB n k).length = k
  | 0 => rfl
  | k + 1 => by rw [bitsB, List.length_cons, bitsB_len n k]
omit C in
theorem numB_bits (n : Nat) : ∀ k, numB (bitsB n k) = n % 2 ^ k
  | 0 => by rw [Nat.pow_zero, Nat.mod_one]; rfl
  | k + 1 => by
    have e : numB (bitsB n (k + 1)) = (n.testBit k).toNat * 2 ^ (bitsB n k).length + numB (bitsB n k) := by
      show (bitsB n k).foldl _ (2 * 0 + (n.testBit k).toNat) = _
      rw [foldB, Nat.mul_zero, Nat.zero_add]
    rw [e, bitsB_len, numB_bits n k, Nat.toNat_testBit, Nat.pow_succ]
    have h := Nat.mod_mul (x := n) (a := 2 ^ k) (b := 2)
    rw [h, Nat.mul_comm]
    omega
omit C in
theorem bitsB_get (n : Nat) : ∀ (k i : Nat), i < k → (bitsB n k)[i]? = some (n.testBit (k - 1 - i))
  | 0, _, h => absurd h (by omega)
  | k + 1, 0, _ => rfl
  | k + 1, i + 1, h => by
    rw [bitsB, List.getElem?_cons_succ, bitsB_get n k i (by omega)]
    rw [show k + 1 - 1 - (i + 1) = k - 1 - i by omega]
omit C in
theorem bitsB_num : ∀ (bs : List Bool), bitsB (numB bs) bs.length = bs := by
  intro bs
  have hl := bitsB_len (numB bs) bs.length
  have hn := numB_bits (numB bs) bs.length
  rw [Nat.mod_eq_of_lt (numB_lt bs)] at hn
  generalize bitsB (numB bs) bs.length = cs at hl hn
  induction bs generalizing cs with
  | nil => exact List.length_eq_zero_iff.mp hl
  | cons b r ih =>
    cases cs with
    | nil => simp at hl
    | cons c q =>
      have e : ∀ (x : Bool) (l : List Bool), numB (x :: l) = x.toNat * 2 ^ l.length + numB l := fun x l => by
        show l.foldl _ (2 * 0 + x.toNat) = _
        rw [foldB, Nat.mul_zero, Nat.zero_add]
      have hl2 : q.length = r.length := by simpa using hl
      rw [e, e, hl2] at hn
      have h1 := numB_lt q
      have h2 := numB_lt r
      rw [hl2] at h1
      cases b <;> cases c <;> simp at hn
      · rw [ih _ hl2 hn]
      · omega
      · omega
      · rw [ih _ hl2 (by omega)]
end
end My

namespace My
section
variable {w W : Nat} (C : Ck w W)
/-! ### the order, threes, fours -/
structure IsOrder (w W d : Nat) : Prop where
  pos : 1 ≤ d
  at_ : pw w W d = 1
  ne : ∀ i, 0 < i → i < d → pw w W i ≠ 1
theorem order_uniq {d e : Nat} (a : IsOrder w W d) (b : IsOrder w W e) : d = e := by
  rcases Nat.lt_trichotomy d e with h | h | h
  · exact absurd a.at_ (b.ne d a.pos h)
  · exact h
  · exact absurd b.at_ (a.ne e b.pos h)
def Three (w W p : Nat) : Prop := ∃ q, 0 < q ∧ q < p ∧ pw w W q = pw w W p ^^^ 1
def Four (w W p : Nat) : Prop := ∃ o q, 0 < o ∧ o < q ∧ q < p ∧ pw w W o ^^^ pw w W q = pw w W p ^^^ 1
/-- the first place that has a property, the bound if there is none -/
structure IsFirst (P : Nat → Prop) (n t : Nat) : Prop where
  le : t ≤ n
  ne : ∀ p, p < t → ¬ P p
  at_ : t < n → P t
theorem first_uniq {P : Nat → Prop} {n s t : Nat} (a : IsFirst P n s) (b : IsFirst P n t) : s = t := by
  rcases Nat.lt_trichotomy s t with h | h | h
  · exact absurd (a.at_ (by have := b.le; omega)) (b.ne s h)
  · exact h
  · exact absurd (b.at_ (by have := a.le; omega)) (a.ne t h)
def IsLongest (w W few L : Nat) : Prop := (few = 3 ∧ IsOrder w W L) ∨ (few = 4 ∧ ∃ d, IsOrder w W d ∧ IsFirst (Three w W) d L) ∨ (few = 5 ∧ ∃ d t, IsOrder w W d ∧ IsFirst (Three w W) d t ∧ IsFirst (Four w W) t L)
theorem longest_uniq {few s t : Nat} (a : IsLongest w W few s) (b : IsLongest w W few t) : s = t := by
  rcases a with ⟨e, a⟩ | ⟨e, d, a, a1⟩ | ⟨e, d, u, a, a1, a2⟩ <;> rcases b with ⟨f, b⟩ | ⟨f, d', b, b1⟩ | ⟨f, d', u', b, b1, b2⟩ <;> first | omega | skip
  · exact order_uniq a b
  · cases order_uniq a b; exact first_uniq a1 b1
  · cases order_uniq a b
    cases first_uniq a1 b1
    exact first_uniq a2 b2
include C
theorem back2 {a b k : Nat} (h : pw w W (a + k) ^^^ pw w W (b + k) = 0) : pw w W a ^^^ pw w W b = 0 := xor_eq0.mpr (pw_back C (xor_eq0.mp h))
theorem back3 {a b c k : Nat} (h : pw w W (a + k) ^^^ pw w W (b + k) ^^^ pw w W (c + k) = 0) : pw w W a ^^^ pw w W b ^^^ pw w W c = 0 := by
  induction k with
  | zero => exact h
  | succ k ih =>
    refine ih (sh_zero C (Nat.xor_lt_two_pow (Nat.xor_lt_two_pow (pw_lt C _) (pw_lt C _)) (pw_lt C _)) ?_)
    rw [sh_xor C (Nat.xor_lt_two_pow (pw_lt C _) (pw_lt C _)) (pw_lt C _), sh_xor C (pw_lt C _) (pw_lt C _), ← pw_succ, ← pw_succ, ← pw_succ]
    exact h
theorem back4 {a b c e k : Nat} (h : pw w W (a + k) ^^^ pw w W (b + k) ^^^ pw w W (c + k) ^^^ pw w W (e + k) = 0) : pw w W a ^^^ pw w W b ^^^ pw w W c ^^^ pw w W e = 0 := by
  induction k with
  | zero => exact h
  | succ k ih =>
    have x2 := fun i j => Nat.xor_lt_two_pow (pw_lt C i) (pw_lt C j)
    have x3 := fun i j l => Nat.xor_lt_two_pow (x2 i j) (pw_lt C l)
    refine ih (sh_zero C (Nat.xor_lt_two_pow (x3 _ _ _) (pw_lt C _)) ?_)
    rw [sh_xor C (x3 _ _ _) (pw_lt C _), sh_xor C (x2 _ _) (pw_lt C _), sh_xor C (pw_lt C _) (pw_lt C _), ← pw_succ, ← pw_succ, ← pw_succ, ← pw_succ]
    exact h
theorem order_ex : ∃ d, IsOrder w W d ∧ d < 2 ^ w := by
  obtain ⟨d, h1, h2, h3⟩ := pw_again C
  have key : ∀ n, 1 ≤ n → n ≤ d → pw w W n = 1 → ∃ e, IsOrder w W e ∧ e ≤ n := by
    intro n
    induction n using Nat.strongRecOn with
    | _ n ih =>
      intro a1 a2 a3
      by_cases c : ∃ i, 0 < i ∧ i < n ∧ pw w W i = 1
      · obtain ⟨i, c1, c2, c3⟩ := c
        obtain ⟨e, he, hl⟩ := ih i c2 c1 (by omega) c3
        exact ⟨e, he, by omega⟩
      · exact ⟨n, ⟨a1, a3, fun i c1 c2 c3 => c ⟨i, c1, c2, c3⟩⟩, Nat.le_refl _⟩
  obtain ⟨e, he, hl⟩ := key d h1 (Nat.le_refl _) h3
  exact ⟨e, he, by omega⟩
theorem no2 {d a b : Nat} (O : IsOrder w W d) (hab : a < b) (hb : b < d) : pw w W a ≠ pw w W b := fun h => by
  have := pw_back C (a := 0) (b := b - a) (k := a) (by rw [Nat.zero_add, show b - a + a = b by omega]; exact h)
  rw [pw_zero C] at this
  exact O.ne (b - a) (by omega) (by omega) this.symm
theorem pw_inj {d a b : Nat} (O : IsOrder w W d) (ha : a < d) (hb : b < d) (h : pw w W a = pw w W b) : a = b := by
  rcases Nat.lt_trichotomy a b with c | c | c
  · exact absurd h (no2 C O c hb)
  · exact c
  · exact absurd h.symm (no2 C O c ha)
theorem no3 {t a b c : Nat} (T : ∀ p, p < t → ¬ Three w W p) (hab : a < b) (hbc : b < c) (hc : c < t) : pw w W a ^^^ pw w W b ^^^ pw w W c ≠ 0 := fun h => by
  have := back3 C (a := 0) (b := b - a) (c := c - a) (k := a) (by rw [Nat.zero_add, show b - a + a = b by omega, show c - a + a = c by omega]; exact h)
  rw [pw_zero C] at this
  refine T (c - a) (by omega) ⟨b - a, by omega, by omega, ?_⟩
  refine xor_eq0.mp ?_
  rw [← this]
  ac_rfl
theorem no4 {t a b c e : Nat} (T : ∀ p, p < t → ¬ Four w W p) (hab : a < b) (hbc : b < c) (hce : c < e) (he : e < t) : pw w W a ^^^ pw w W b ^^^ pw w W c ^^^ pw w W e ≠ 0 := fun h => by
  have := back4 C (a := 0) (b := b - a) (c := c - a) (e := e - a) (k := a) (by rw [Nat.zero_add, show b - a + a = b by omega, show c - a + a = c by omega, show e - a + a = e by omega]; exact h)
  rw [pw_zero C] at this
  refine T (e - a) (by omega) ⟨b - a, c - a, by omega, by omega, by omega, ?_⟩
  refine xor_eq0.mp ?_
  rw [← this]
  ac_rfl
theorem no3' {t a b c : Nat} (T : ∀ p, p < t → ¬ Three w W p) (ha : a < t) (hbc : b < c) (hc : c < t) (h1 : a ≠ b) (h2 : a ≠ c) : pw w W a ≠ pw w W b ^^^ pw w W c := fun h => by
  have z := xor_eq0.mpr h
  rcases Nat.lt_or_ge a b with d | d
  · exact no3 C T d hbc hc (by rw [← z]; ac_rfl)
  · rcases Nat.lt_or_ge a c with e | e
    · exact no3 C T (a := b) (b := a) (c := c) (by omega) e hc (by rw [← z]; ac_rfl)
    · exact no3 C T (a := b) (b := c) (c := a) hbc (by omega) ha (by rw [← z]; ac_rfl)
theorem no4' {t a b c e : Nat} (T : ∀ p, p < t → ¬ Four w W p) (hab : a < b) (hb : b < t) (hce : c < e) (he : e < t) (h1 : a < c) (h2 : a ≠ e) (h3 : b ≠ c) (h4 : b ≠ e) : pw w W a ^^^ pw w W b ≠ pw w W c ^^^ pw w W e := fun h => by
  have z := xor_eq0.mpr h
  rcases Nat.lt_or_ge b c with d | d
  · exact no4 C T hab d hce he (by rw [← z]; ac_rfl)
  · rcases Nat.lt_or_ge b e with f | f
    · exact no4 C T (a := a) (b := c) (c := b) (e := e) h1 (by omega) f he (by rw [← z]; ac_rfl)
    · exact no4 C T (a := a) (b := c) (c := e) (e := b) h1 hce (by omega) hb (by rw [← z]; ac_rfl)
/-! ### what mends -/
omit C in
def valP (w W : Nat) (xs : List Nat) : Nat := xs.foldl (fun v x => v ^^^ pw w W x) 0
omit C in
/-- lists of at most two places, rising -/
def Small2 (N : Nat) (xs : List Nat) : Prop := xs = [] ∨ (∃ a, a < N ∧ xs = [a]) ∨ ∃ a b, a < b ∧ b < N ∧ xs = [a, b]
omit C in
def Small1 (N : Nat) (xs : List Nat) : Prop := xs = [] ∨ ∃ a, a < N ∧ xs = [a]
theorem one_uniq {L N : Nat} (O : IsLongest w W 3 L) (hN : N ≤ L) {xs ys : List Nat} (hx : Small1 N xs) (hy : Small1 N ys) (h : valP w W xs = valP w W ys) : xs = ys := by
  have O' : IsOrder w W L := by
    rcases O with ⟨_, h⟩ | ⟨e, _⟩ | ⟨e, _⟩
    · exact h
    · omega
    · omega
  rcases hx with rfl | ⟨a, ha, rfl⟩ <;> rcases hy with rfl | ⟨b, hb, rfl⟩
  · rfl
  · exact absurd (by simpa [valP] using h.symm) (pw_ne C b)
  · exact absurd (by simpa [valP] using h) (pw_ne C a)
  · rw [pw_inj C O' (a := a) (b := b) (by omega) (by omega) (by simpa [valP] using h)]
theorem two_uniq {L N : Nat} (O : IsLongest w W 5 L) (hN : N ≤ L) {xs ys : List Nat} (hx : Small2 N xs) (hy : Small2 N ys) (h : valP w W xs = valP w W ys) : xs = ys := by
  obtain ⟨d, t, hO, h3, h4⟩ : ∃ d t, IsOrder w W d ∧ IsFirst (Three w W) d t ∧ IsFirst (Four w W) t L := by
    rcases O with ⟨e, _⟩ | ⟨e, _⟩ | ⟨_, h⟩
    · omega
    · omega
    · exact h
  have l1 := h3.le
  have l2 := h4.le
  have T3 := h3.ne
  have T4 := h4.ne
  have inj := fun {a b : Nat} (ha : a < N) (hb : b < N) (h : pw w W a = pw w W b) => pw_inj C hO (a := a) (b := b) (by omega) (by omega) h
  have v0 : valP w W [] = 0 := rfl
  have v1 : ∀ a, valP w W [a] = pw w W a := fun a => by simp [valP]
  have v2 : ∀ a b, valP w W [a, b] = pw w W a ^^^ pw w W b := fun a b => by simp [valP]
  have m3 : ∀ {a b c : Nat}, a < N → b < c → c < N → pw w W a = pw w W b ^^^ pw w W c → False := fun {a b c} ha hbc hc e => by
    by_cases e1 : a = b
    · subst e1
      refine pw_ne C c ?_
      have : pw w W a ^^^ pw w W a = pw w W a ^^^ (pw w W a ^^^ pw w W c) := by rw [← e]
      rw [Nat.xor_self, ← Nat.xor_assoc, Nat.xor_self, Nat.zero_xor] at this
      exact this.symm
    · by_cases e2 : a = c
      · subst e2
        refine pw_ne C b ?_
        have : pw w W a ^^^ pw w W a = (pw w W b ^^^ pw w W a) ^^^ pw w W a := by rw [← e]
        rw [Nat.xor_self, Nat.xor_assoc, Nat.xor_self, Nat.xor_zero] at this
        exact this.symm
      · exact no3' C (t := t) T3 (by omega) hbc (by omega) e1 e2 e
  have m4 : ∀ {a b c e : Nat}, a < b → b < N → c < e → e < N → pw w W a ^^^ pw w W b = pw w W c ^^^ pw w W e → a < c → False := fun {a b c e} hab hb hce he z hac => by
    by_cases e2 : a = e
    · omega
    by_cases e3 : b = c
    · subst e3
      rw [Nat.xor_comm] at z
      have : pw w W a = pw w W e := by
        have : pw w W b ^^^ (pw w W b ^^^ pw w W a) = pw w W b ^^^ (pw w W b ^^^ pw w W e) := by rw [z]
        rw [← Nat.xor_assoc, ← Nat.xor_assoc, Nat.xor_self, Nat.zero_xor, Nat.zero_xor] at this
        exact this
      have := inj (by omega) he this
      omega
    by_cases e4 : b = e
    · subst e4
      have : pw w W a = pw w W c := by
        have : (pw w W a ^^^ pw w W b) ^^^ pw w W b = (pw w W c ^^^ pw w W b) ^^^ pw w W b := by rw [z]
        rw [Nat.xor_assoc, Nat.xor_assoc, Nat.xor_self, Nat.xor_zero, Nat.xor_zero] at this
        exact this
      have := inj (by omega) (by omega) this
      omega
    · exact no4' C (t := L) T4 hab (by omega) hce (by omega) hac e2 e3 e4 z
  rcases hx with rfl | ⟨a, ha, rfl⟩ | ⟨a, b, hab, hb, rfl⟩ <;> rcases hy with rfl | ⟨c, hc, rfl⟩ | ⟨c, e, hce, he, rfl⟩ <;> simp only [v0, v1, v2] at h
  · rfl
  · exact absurd h.symm (pw_ne C c)
  · have := inj (a := c) (b := e) (by omega) he (xor_eq0.mp h.symm)
    omega
  · exact absurd h (pw_ne C a)
  · rw [inj ha hc h]
  · exact (m3 ha hce he h).elim
  · have := inj (a := a) (b := b) (by omega) hb (xor_eq0.mp h)
    omega
  · exact (m3 hc hab hb h.symm).elim
  · rcases Nat.lt_trichotomy a c with q | q | q
    · exact (m4 hab hb hce he h q).elim
    · subst q
      have : pw w W b = pw w W e := by
        have : pw w W a ^^^ (pw w W a ^^^ pw w W b) = pw w W a ^^^ (pw w W a ^^^ pw w W e) := by rw [h]
        rw [← Nat.xor_assoc, ← Nat.xor_assoc, Nat.xor_self, Nat.zero_xor, Nat.zero_xor] at this
        exact this
      rw [inj hb he this]
    · exact (m4 hce he hab hb h.symm q).elim
end
end My

namespace My
/-! ### products -/
def prodN : Nat → Nat → Nat → Nat
  | 0, _, _ => 0
  | k + 1, a, b => 2 * prodN k a (b / 2) ^^^ (if b % 2 = 1 then a else 0)
/-- the product of two sums of powers -/
def prod (a b : Nat) : Nat := prodN (b.log2 + 1) a b
theorem prodN_zero (a : Nat) : ∀ k, prodN k a 0 = 0
  | 0 => rfl
  | k + 1 => by
    rw [prodN, Nat.zero_div, prodN_zero a k, if_neg (by decide)]
    rfl
theorem prodN_stab (a : Nat) : ∀ (k j b : Nat), b < 2 ^ k → b < 2 ^ j → prodN k a b = prodN j a b
  | 0, j, b, h, _ => by
    have e : b = 0 := by omega
    subst e
    rw [prodN_zero, prodN_zero]
  | k + 1, 0, b, _, h => by
    have e : b = 0 := by omega
    subst e
    rw [prodN_zero, prodN_zero]
  | k + 1, j + 1, b, h1, h2 => by
    rw [Nat.pow_succ] at h1 h2
    rw [prodN, prodN, prodN_stab a k j (b / 2) (by omega) (by omega)]
theorem prod_fuel {a k b : Nat} (h : b < 2 ^ k) : prod a b = prodN k a b := prodN_stab a _ _ _ Nat.lt_log2_self h
theorem prod_step (a b : Nat) : prod a b = 2 * prod a (b / 2) ^^^ (if b % 2 = 1 then a else 0) := by
  have h : b < 2 ^ (b.log2 + 1) := Nat.lt_log2_self
  rw [prod_fuel (k := b.log2) (b := b / 2) (by rw [Nat.pow_succ] at h; omega)]
  rfl
theorem prod_zero (a : Nat) : prod a 0 = 0 := prodN_zero a _
theorem prod_bit (a m c : Nat) (h : c < 2) : prod a (2 * m + c) = 2 * prod a m ^^^ (if c = 1 then a else 0) := by
  rw [prod_step, show (2 * m + c) / 2 = m by omega, show (2 * m + c) % 2 = c by omega]
theorem two_xor (x y : Nat) : 2 * (x ^^^ y) = 2 * x ^^^ 2 * y := by
  have := xor_bit x y 0 0 (by omega) (by omega)
  simp only [Nat.add_zero, Nat.xor_self] at this
  exact this.symm
theorem prod_xorl (a c : Nat) : ∀ b, prod (a ^^^ c) b = prod a b ^^^ prod c b := by
  intro b
  induction b using Nat.strongRecOn with
  | _ b ih =>
    by_cases h : b = 0
    · subst h
      rw [prod_zero, prod_zero, prod_zero]
      rfl
    · rw [prod_step, ih (b / 2) (by omega), prod_step a b, prod_step c b, two_xor]
      split <;> (try simp only [Nat.xor_zero]) <;> ac_rfl
theorem prod_dbl (a : Nat) : ∀ b, prod (2 * a) b = 2 * prod a b := by
  intro b
  induction b using Nat.strongRecOn with
  | _ b ih =>
    by_cases h : b = 0
    · subst h
      rw [prod_zero, prod_zero]
    · rw [prod_step, ih (b / 2) (by omega), prod_step a b, two_xor]
      split <;> simp
theorem prod_one : ∀ b, prod 1 b = b := by
  intro b
  induction b using Nat.strongRecOn with
  | _ b ih =>
    by_cases h : b = 0
    · subst h
      exact prod_zero 1
    · rw [prod_step, ih (b / 2) (by omega)]
      have e := xor_bit (b / 2) 0 0 (b % 2) (by omega) (by omega)
      rw [Nat.add_zero, Nat.mul_zero, Nat.zero_add, Nat.xor_zero, Nat.zero_xor] at e
      have c : b % 2 = 0 ∨ b % 2 = 1 := by omega
      rcases c with c | c
      · rw [c] at e ⊢
        rw [if_neg (by decide), Nat.xor_zero]
        omega
      · rw [c] at e ⊢
        rw [if_pos rfl, e]
        omega
theorem prod_zerol : ∀ b, prod 0 b = 0 := by
  intro b
  induction b using Nat.strongRecOn with
  | _ b ih =>
    by_cases h : b = 0
    · subst h
      exact prod_zero 0
    · rw [prod_step, ih (b / 2) (by omega)]
      split <;> rfl
theorem prod_comm : ∀ a b, prod a b = prod b a := by
  intro a
  induction a using Nat.strongRecOn with
  | _ a ih =>
    intro b
    by_cases h : a = 0
    · subst h
      rw [prod_zero, prod_zerol]
    · have e := xor_bit (a / 2) 0 0 (a % 2) (by omega) (by omega)
      rw [Nat.add_zero, Nat.mul_zero, Nat.zero_add, Nat.xor_zero, Nat.zero_xor] at e
      have ea : a = 2 * (a / 2) ^^^ a % 2 := by rw [e]; omega
      rw [prod_step b a]
      conv => lhs; rw [ea]
      rw [prod_xorl, prod_dbl, ih (a / 2) (by omega)]
      congr 1
      have c : a % 2 = 0 ∨ a % 2 = 1 := by omega
      rcases c with c | c
      · rw [c, if_neg (by decide), prod_zerol]
      · rw [c, if_pos rfl, prod_one]
theorem prod_lt {a b k j : Nat} (ha : a < 2 ^ k) (hb : b < 2 ^ j) : prod a b < 2 ^ (k + j) := by
  induction j generalizing b with
  | zero =>
    have : b = 0 := by omega
    subst this
    rw [prod_zero]
    exact Nat.pow_pos (by omega)
  | succ j ih =>
    rw [Nat.pow_succ] at hb
    rw [prod_step]
    have h1 := ih (b := b / 2) (by omega)
    have e : k + (j + 1) = (k + j) + 1 := by omega
    have h2 : 2 * prod a (b / 2) < 2 ^ (k + (j + 1)) := by rw [e, Nat.pow_succ]; omega
    have h3 : a < 2 ^ (k + (j + 1)) := Nat.lt_of_lt_of_le ha (Nat.pow_le_pow_right (by decide) (by omega))
    refine Nat.xor_lt_two_pow h2 ?_
    split
    · exact h3
    · exact Nat.pow_pos (by omega)
section
variable {w W : Nat}
/-- the rest of a product, by the first one's rest -/
def mulN (w W : Nat) : Nat → Nat → Nat → Nat
  | 0, _, _ => 0
  | k + 1, a, b => sh w W (mulN w W k a (b / 2)) ^^^ (if b % 2 = 1 then a else 0)
def mulR (w W a b : Nat) : Nat := rem w W (prod a b)
def shn (w W : Nat) : Nat → Nat → Nat
  | 0, a => a
  | k + 1, a => sh w W (shn w W k a)
variable (C : Ck w W)
include C
theorem mulR_step (a b : Nat) (ha : a < 2 ^ w) : mulR w W a b = sh w W (mulR w W a (b / 2)) ^^^ (if b % 2 = 1 then a else 0) := by
  unfold mulR
  rw [prod_step, rem_xor C, rem_dbl]
  congr 1
  split
  · exact rem_small C a ha
  · exact rem_zero
theorem rem_shlN (n k : Nat) : rem w W (n * 2 ^ k) = shn w W k (rem w W n) := by
  induction k with
  | zero => rw [Nat.pow_zero, Nat.mul_one]; rfl
  | succ k ih =>
    rw [Nat.pow_succ, ← Nat.mul_assoc, Nat.mul_comm, rem_dbl, ih]
    rfl
theorem mulR_xor (a b c : Nat) : mulR w W a (b ^^^ c) = mulR w W a b ^^^ mulR w W a c := by
  unfold mulR
  rw [prod_comm a, prod_xorl, rem_xor C, prod_comm b, prod_comm c]
theorem mulR_lt (a b : Nat) : mulR w W a b < 2 ^ w := rem_lt C _
/-- a product's rest by the rest of the one -/
theorem mulR_rem (a b : Nat) : rem w W (prod (rem w W a) b) = rem w W (prod a b) := by
  induction b using Nat.strongRecOn with
  | _ b ih =>
    by_cases h : b = 0
    · subst h
      rw [prod_zero, prod_zero]
    · rw [prod_step, prod_step a b, rem_xor C, rem_xor C, rem_dbl, rem_dbl, ih (b / 2) (by omega)]
      congr 1
      split
      · exact rem_small C _ (rem_lt C _)
      · rfl
theorem mulR_W (a : Nat) : mulR w W a W = 0 := by
  unfold mulR
  rw [prod_comm, ← mulR_rem C, rem_self C, prod_zerol]
  exact rem_zero
theorem mulR_remr (a b : Nat) : mulR w W a (rem w W b) = mulR w W a b := by
  unfold mulR
  rw [prod_comm, mulR_rem C, prod_comm]
theorem mulR_pow (a m : Nat) (ha : a < 2 ^ w) : mulR w W a (2 ^ m) = shn w W m a := by
  unfold mulR
  have e : prod a (2 ^ m) = a * 2 ^ m := by
    clear ha
    induction m with
    | zero => rw [prod_comm, Nat.pow_zero, prod_one, Nat.mul_one]
    | succ m ih =>
      rw [prod_step, Nat.pow_succ, Nat.mul_div_cancel _ (by decide), Nat.mul_mod_left, if_neg (by decide), Nat.xor_zero, ih]
      rw [Nat.mul_comm 2, Nat.mul_assoc]
  rw [e, rem_shlN C, rem_small C a ha]
theorem mulR_pw (a m : Nat) (ha : a < 2 ^ w) : mulR w W a (pw w W m) = shn w W m a := by
  unfold pw
  rw [mulR_remr C, mulR_pow C a m ha]
omit C in
theorem shn_pw (k m : Nat) : shn w W k (pw w W m) = pw w W (m + k) := by
  induction k with
  | zero => rfl
  | succ k ih =>
    show sh w W (shn w W k (pw w W m)) = _
    rw [ih, ← pw_succ]
    rfl
theorem pw_mul (j k : Nat) : mulR w W (pw w W j) (pw w W k) = pw w W (j + k) := by
  rw [mulR_pw C _ _ (pw_lt C j), shn_pw]
end
end My

namespace My
open PySem PySem.Spec PyProof.Rows L2 Pre
theorem tyx_insC {K : PySem.W.Frag} {H : Hp} {a C dx : Addr} {fs : List (Str × V)} (c : C8.InsC K C) (h : H a = some (.ins C dx fs)) : TyX K H (.ref a) (.ref C) := .base (.ins h c.cl c.ha c.hn c.htk c.hm)
/-! ### numbers that are not negative -/
theorem bx (a b : Nat) : Builtin.bitXor (a : Int) (b : Int) = ((a ^^^ b : Nat) : Int) := by
  rw [Bits.bitXor_pp (by omega) (by omega)]
  rfl
theorem shrI (a k : Nat) : (a : Int) / 2 ^ ((k : Int)).toNat = ((a >>> k : Nat) : Int) := by
  rw [Int.toNat_natCast, Nat.shiftRight_eq_div_pow, Int.natCast_ediv, Int.natCast_pow]
  rfl
theorem shlI (a k : Nat) : (a : Int) * 2 ^ ((k : Int)).toNat = ((a <<< k : Nat) : Int) := by
  rw [Int.toNat_natCast, Nat.shiftLeft_eq, Int.natCast_mul, Int.natCast_pow]
  rfl
theorem and1 (n : Nat) : Builtin.bitAnd (n : Int) 1 = ((n % 2 : Nat) : Int) := by
  rw [bitAnd_m1]
  omega
theorem small1000' {n : Nat} (h : n ≤ 10000) : n < sizeLine := by rw [sizeLine_eq]; omega
theorem pow17 {w : Nat} (h : w ≤ 16) : 2 ^ w ≤ 65536 := Nat.le_trans (Nat.pow_le_pow_right (by decide) h) (by decide)
theorem seq_ne {H : Hp} {p : Addr} {o : HO} (h : H p = some o) : H p ≠ none := by rw [h]; exact fun z => nomatch z
local macro_rules | `(tactic| walk_at "go") => `(tactic| repeat (first | (with_reducible first | refine iteT ?_ | refine iteF ?_ | refine iteNtt ?_ | refine iteNff ?_ | refine iteET (by omega) ?_ | refine iteEF (by omega) ?_ | refine iteENT (by omega) ?_ | refine iteENF (by omega) ?_ | refine iteDT (by omega) ?_ | refine iteDF (by omega) ?_ | refine iteNT (by omega) ?_ | refine iteNF (by omega) ?_) | refine ⟨_, rfl, ?_⟩ | refine ⟨_, _, rfl, rfl, ?_⟩ | refine ⟨_, _, rfl, ?_⟩ | refine ⟨rfl, ?_⟩ | refine .inl ⟨_, rfl, ?_⟩ | refine .inr ⟨_, rfl, ?_⟩))
local macro_rules | `(tactic| walk_at "b") => `(tactic| try dsimp (config := { proj := false, iota := false, eta := false, zeta := false }) only)
section
variable {P : Program} {w : World} {K : PySem.W.Frag} {mg : Str → Option Value} {base : Heap}
/-! ### texts of bits -/
theorem fm_noneB {α β : Type} (l : List α) : (l.map fun _ => (none : Option β)).filterMap id = [] := by
  induction l with
  | nil => rfl
  | cons n r ih => simp
def sp_is_bits : Sp := fun vs H Q _ => ∃ bs : List Bool, vs = [.str (bS bs)] ∧ bs.length ≤ 10000 ∧ ∀ H', Same H H' → Q (.bl true) H'
theorem sign_in (b : Bool) : decide (sgn b ∈ ((("01" : String) : Str)).cps.toList) = true := by
  have e : (("01" : String) : Str).cps.toList = [48, 49] := by decide +kernel
  rw [e]
  cases b <;> decide
theorem G_is_bits (T : Top K mg) : FnOk P w K mg base CX0 1 T.f_is_bits T.fd_is_bits ["value"] sp_is_bits := by
  refine T.F_is_bits.ok sc_is_bits (fun vs H Q E h => by obtain ⟨bs, rfl, _⟩ := h; rfl) (fun cdv A outer s H vs Q E hr h => ?_)
  obtain ⟨bs, rfl, hz, q⟩ := h
  refine ⟨_, PSs.nox (pss_one (ps_ret (pe_and (pe_callB (k_isi K rfl) (by rfl) T.n_isinstance (by decide +kernel) (pa_cons (pv 0) (pa_cons (pe_bltn (v := .ty "str") (by rfl) T.n_str (by decide +kernel) rfl) pa_nil))) (pe_one (pe_cmpR (k_eqD K rfl hr.units) (pe_lc (own := [("sign", 1)]) (g := gName 1) (by rfl) sc_is_bits.nd (pi_str (pv 0)) (blkOk_by (own := [("sign", 1)]) (N := N_is_bits) (sc := defScope s_is_bits) (by decide +kernel)) (fun _ _ _ _ _ => (pg_name (i := 1) sc_is_bits.nd rfl (by first | exact Or.inl rfl | exact Or.inr rfl))) (fun _ _ _ _ _ => (pts_one (pt_cmpR op_notIn_sign (pv 1) pe_str (by rfl)))) (fun _ _ _ _ _ => (pv 1))) (pe_lst pa_nil) (nomark _)))))), ?_⟩
  refine ⟨_, rfl, _, _, _, _, true, rfl, .ty _, .base (.str _), kit_ty (by decide +kernel), true, rfl, iteT ?_⟩
  refine ⟨_, rfl, _, rfl, fun D nD => ?_⟩
  refine lc_dW walk_str (Has.nil (H := H)) ((List.range bs.length).map fun _ => none) nD (by rw [List.length_map, List.length_range, bS_size]) (by rw [bS_size]; exact small1000' hz) (fun _ _ => trivial) ?_ ?_
  · rintro i o H0 x H' hi ho s0 hS ⟨rfl, c, hc, rfl⟩ Qt qt
    obtain ⟨b, hb, ec⟩ := bS_at hc
    rw [ec]
    refine ⟨rfl, ?_⟩
    rw [List.getElem?_map] at ho
    obtain ⟨_, _, rfl⟩ := Option.map_eq_some_iff.mp ho
    refine ⟨_, rfl, sgn b, _, rfl, rfl, _, rfl, ?_⟩
    rw [sign_in]
    exact iteF (qt none _ (Same.refl _) trivial)
  · intro H' s hD hd
    rw [fm_noneB] at hd
    rw [rs_nil] at hd
    obtain ⟨a, xs, e, ha, hx⟩ := hd.listE
    cases e
    cases hx
    refine ⟨Nat.zero_le _, fun p np => ?_⟩
    refine eq_lst (ns := []) (.inl (.inl (same_upd np _ _ ha))) (.inl (.inl upd_same)) ?_
    exact q _ (s.trans (same_upd np))
def sp_check_bits : Sp := fun vs H Q _ => ∃ bs : List Bool, vs = [.str (bS bs)] ∧ bs.length ≤ 10000 ∧ ∀ H', Same H H' → Q .non H'
theorem G_check_bits (T : Top K mg) : FnOk P w K mg base CX0 2 T.f_check_bits T.fd_check_bits ["bits"] sp_check_bits := by
  refine T.F_check_bits.ok sc_check_bits (fun vs H Q E h => by obtain ⟨bs, rfl, _⟩ := h; rfl) (fun cdv A outer s H vs Q E hr h => ?_)
  obtain ⟨bs, rfl, hz, q⟩ := h
  refine ⟨_, PSs.nox (pss_one (ps_if (pt_not (pt_val (pe_call (G_is_bits T) (hr.mono (by decide)) (by rfl) T.g_is_bits T.F_is_bits.kp T.b_is_bits .nil pass0 (pa_cons (pv 0) pa_nil))))
    (pss_one ps_never)
    pss_nil)), ?_⟩
  exact ⟨_, rfl, bs, rfl, hz, fun H' s => ⟨_, rfl, iteF (q _ s)⟩⟩
def sp_bits_of : Sp := fun vs H Q _ => ∃ (n k : Nat), vs = [.int n, .int k] ∧ k ≤ 1000 ∧ ∀ H', Same H H' → Q (.str (bS (bitsB n k))) H'
theorem G_bits_of (T : Top K mg) : FnOk P w K mg base CX0 1 T.f_bits_of T.fd_bits_of ["number", "many"] sp_bits_of := by
  refine T.F_bits_of.ok sc_bits_of (fun vs H Q E h => by obtain ⟨n, k, rfl, _⟩ := h; rfl) (fun cdv A outer s H vs Q E hr h => ?_)
  obtain ⟨n, k, rfl, hk, q⟩ := h
  refine ⟨_, PSs.nox (pss_one (ps_ret (pe_join pe_str (pe_lc (own := [("at", 2)]) (g := gName 2) (tt := tYes) (by rfl) sc_bits_of.nd (pi_range1 (by rfl) T.n_range (pa_cons (pv 1) pa_nil)) (blkOk_by (own := [("at", 2)]) (N := N_bits_of) (sc := defScope s_bits_of) (by decide +kernel)) (fun _ _ _ _ _ => (pg_name (i := 2) sc_bits_of.nd rfl (by first | exact Or.inl rfl | exact Or.inr rfl))) (fun _ _ _ _ _ => pts_nil) (fun _ _ _ _ _ => (pe_ix ix_str pe_str (pe_op op_and (pe_op op_shr (pv 0) (pe_op op_sub (pe_op op_sub (pv 1) pe_int) (pv 2))) pe_int) (fun _ _ => rfl))))))), ?_⟩
  refine ⟨⟨_, rfl⟩, _, rfl, _, rfl, by omega, by omega, fun D nD => ?_⟩
  refine lc_mapR (lo := 0) (n := ((k : Int)).toNat) ((bitsB n k).map fun b => V.str (bS [b])) nD (by rw [List.length_map, bitsB_len]; rfl) (small1000' (by omega)) (fun x => rfl) ?_ ?_
  · intro i y H' hi hy s Qt qt
    rw [Int.toNat_natCast] at hi
    rw [List.getElem?_map, bitsB_get n k i hi] at hy
    cases hy
    refine ⟨_, rfl, _, rfl, _, _, rfl, rfl, _, rfl, _, _, rfl, rfl, _, _, rfl, rfl, by omega, _, _, rfl, rfl, ?_⟩
    have e1 : ((k : Int) - 1 - (0 + (i : Int))) = ((k - 1 - i : Nat) : Int) := by omega
    dsimp only
    rw [e1, shrI, and1]
    have e2 : n >>> (k - 1 - i) % 2 = (n.testBit (k - 1 - i)).toNat := by rw [Nat.toNat_testBit, Nat.shiftRight_eq_div_pow]
    rw [e2]
    have e01 : (("01" : String) : Str) = bS [false, true] := by decide +kernel
    refine ⟨_, _, sgn (n.testBit (k - 1 - i)), rfl, rfl, by rw [e01, bS_len]; decide, ?_, qt _ (Same.refl _)⟩
    rw [e01]
    exact bS_atI (by cases n.testBit (k - 1 - i) <;> rfl)
  · intro H' s hD
    refine ⟨_, D, (bitsB n k).map fun b => bS [b], rfl, rfl, .inl (.inl (.inl ?_)), ?_, ?_⟩
    · rw [hD, List.map_map]
      rfl
    · have e0 : ((("" : String) : Str)).length = 0 := by rw [str_nil]; rfl
      rw [List.map_map, e0, Nat.mul_zero]
      have : ∀ l : List Bool, (l.map ((fun z : Str => z.length) ∘ fun b => bS [b])).sum = l.length := fun l => by
        induction l with
        | nil => rfl
        | cons b r ih => rw [List.map_cons, List.sum_cons, ih, List.length_cons]; show 1 + _ = _; omega
      have hz : ((bitsB n k).map ((fun x : Str => x.length) ∘ fun b => bS [b])).sum = k := by rw [this, bitsB_len]
      exact Nat.le_trans (Nat.le_of_eq hz) (by omega)
    · rw [join_bits]
      exact q _ s
/-! ### checks -/
def sp_check_number : Sp := fun vs H Q _ => ∃ (i lo : Int) (hi : Option Int), vs = [.int i, .int lo, (match hi with | some j => .int j | none => .non)] ∧ lo ≤ i ∧ (∀ j, hi = some j → i ≤ j) ∧ Q .non H
theorem G_check_number (T : Top K mg) : FnOk P w K mg base CX0 3 T.f_check_number T.fd_check_number ["number", "low", "high"] sp_check_number := by
  refine T.F_check_number.ok sc_check_number (fun vs H Q E h => by obtain ⟨i, lo, hi, rfl, _⟩ := h; rfl) (fun cdv A outer s H vs Q E hr h => ?_)
  obtain ⟨i, lo, hi, rfl, h0, h1, q⟩ := h
  refine ⟨_, PSs.nox (pss_one (ps_if (pt_not (pt_val (pe_call (G_is_between T) (hr.mono (by decide)) (by rfl) T.g_is_between T.F_is_between.kp T.b_is_between .nil pass0 (pa_cons (pv 0) (pa_cons (pv 1) (pa_cons (pv 2) pa_nil))))))
    (pss_one ps_never)
    pss_nil)), ?_⟩
  refine ⟨_, rfl, _, rfl, _, rfl, i, lo, hi, rfl, _, rfl, ?_⟩
  rw [decide_eq_true ⟨h0, h1⟩]
  exact iteF q
/-- a check of the width wd and the sum W -/
def CheckAt (C : Addr) (H : Hp) (a : Addr) (wd W : Nat) : Prop := Ck wd W ∧ wd ≤ 16 ∧ ∃ dx, H a = some (.ins C dx [("size", .int wd), ("tail", .int (W - 2 ^ wd : Nat))])
theorem CheckAt.same {C : Addr} {H H' : Hp} {a : Addr} {wd W : Nat} (h : CheckAt C H a wd W) (s : Same H H') : CheckAt C H' a wd W := by
  obtain ⟨h1, h2, dx, h3⟩ := h
  exact ⟨h1, h2, dx, s _ _ h3⟩
theorem CheckAt.but {C g : Addr} {H H' : Hp} {a : Addr} {wd W : Nat} (h : CheckAt C H a wd W) (n : a ≠ g) (s : But g H H') : CheckAt C H' a wd W := by
  obtain ⟨h1, h2, dx, h3⟩ := h
  exact ⟨h1, h2, dx, s _ _ n h3⟩
theorem CheckAt.ne {C g : Addr} {H : Hp} {a : Addr} {wd W : Nat} {xs : List V} (h : CheckAt C H a wd W) (hg : H g = some (.lst xs)) : a ≠ g := by
  obtain ⟨h1, h2, dx, h3⟩ := h
  exact ne_of h3 hg (by intro z; cases z)
def sp_Check___init__ (C : Addr) : Sp := fun vs H Q _ => ∃ (x dx : Addr) (wd l : Nat), vs = [.ref x, .int wd, .int l] ∧ H x = some (.ins C dx []) ∧ 1 ≤ wd ∧ wd ≤ 16 ∧ l < 2 ^ wd ∧ l % 2 = 1 ∧
  ∀ H', (∀ b o, b ≠ x → H b = some o → H' b = some o) → CheckAt C H' x wd (2 ^ wd + l) → Q .non H'
theorem ck_of {wd l : Nat} (h : 1 ≤ wd) (hl : l < 2 ^ wd) (ho : l % 2 = 1) : Ck wd (2 ^ wd + l) := by
  have e : 2 ^ (wd + 1) = 2 ^ wd * 2 := Nat.pow_succ ..
  have e2 : 2 ^ wd = 2 ^ (wd - 1) * 2 := by
    rw [← Nat.pow_succ, show (wd - 1).succ = wd by omega]
  exact ⟨h, by omega, by omega, by omega⟩
theorem G_Check___init__ (T : Top K mg) : FnOk P w K mg base CX0 4 T.f_Check___init__ T.fd_Check___init__ ["self", "width", "low"] (sp_Check___init__ T.C_Check) := by
  refine T.F_Check___init__.ok sc_Check___init__ (fun vs H Q E h => by obtain ⟨x, dx, wd, l, rfl, _⟩ := h; rfl) (fun cdv A outer s H vs Q E hr h => ?_)
  obtain ⟨x, dx, wd, l, rfl, hx, h1, h2, h3, h4, q⟩ := h
  refine ⟨_, PSs.nox (pss_cons (ps_expr (pe_call (G_check_number T) (hr.mono (by decide)) (by rfl) T.g_check_number T.F_check_number.kp T.b_check_number .nil pass0 (pa_cons (pv 1) (pa_cons pe_int (pa_cons (pe_glob (v := .int 16) rfl T.m_MOST_WIDTH ⟨_, rfl⟩) pa_nil)))))
  (pss_cons (ps_expr (pe_call (G_check_number T) (hr.mono (by decide)) (by rfl) T.g_check_number T.F_check_number.kp T.b_check_number .nil pass0 (pa_cons (pv 2) (pa_cons pe_int (pa_cons (pe_op op_sub (pe_op op_shl pe_int (pv 1)) pe_int) pa_nil)))))
  (pss_cons (ps_if (pt_cmpR op_eq (pe_op op_mod (pv 2) pe_int) pe_int (nomark _))
    (pss_one ps_never)
    pss_nil)
  (pss_cons (ps_fld (pv 0) (pv 1) rfl)
  (pss_one (ps_fld (pv 0) (pv 2) rfl)))))), ?_⟩
  refine ⟨_, rfl, wd, 1, some 16, rfl, by omega, (fun j h => by cases h; omega), ?_⟩
  refine ⟨_, rfl, _, rfl, _, _, rfl, rfl, ⟨by omega, by omega, by decide⟩, _, _, rfl, rfl, l, 1, some _, rfl, by omega, (fun j h => by
    cases h
    rw [Int.one_mul, Int.toNat_natCast]
    have : ((2 ^ wd : Nat) : Int) = 2 ^ wd := by rw [Int.natCast_pow]; rfl
    omega), ?_⟩
  refine ⟨_, rfl, _, _, rfl, rfl, (by show (0 : Int) < 2; decide), rfl, _, rfl, ?_⟩
  refine iteEF (by omega) ?_
  refine ⟨_, rfl, _, rfl, x, T.C_Check, dx, [], rfl, hx, T.cl_Check, T.na_Check_size, by decide, ?_⟩
  refine ⟨_, rfl, _, rfl, x, T.C_Check, dx, _, rfl, upd_same, T.cl_Check, T.na_Check_tail, (by show 1 < 1000; decide), ?_⟩
  refine q _ (fun b o nb hb => ?_) ⟨ck_of h1 h3 h4, h2, dx, ?_⟩
  · rw [upd_ne nb, upd_ne nb]
    exact hb
  · rw [upd_same, show 2 ^ wd + l - 2 ^ wd = l by omega]
    rfl
def sp_check_check (C : Addr) : Sp := fun vs H Q _ => ∃ (a : Addr) (wd W : Nat), vs = [.ref a] ∧ CheckAt C H a wd W ∧ Q .non H
theorem G_check_check (T : Top K mg) : FnOk P w K mg base CX0 1 T.f_check_check T.fd_check_check ["check"] (sp_check_check T.C_Check) := by
  refine T.F_check_check.ok sc_check_check (fun vs H Q E h => by obtain ⟨a, wd, W, rfl, _⟩ := h; rfl) (fun cdv A outer s H vs Q E hr h => ?_)
  obtain ⟨a, wd, W, rfl, hC, q⟩ := h
  refine ⟨_, PSs.nox (pss_one (ps_if (pt_not (pt_val (pe_callB (k_isi K rfl) (by rfl) T.n_isinstance (by decide +kernel) (pa_cons (pv 0) (pa_cons (pe_glob (v := .ref T.C_Check) rfl T.gc_Check rfl) pa_nil)))))
    (pss_one ps_never)
    pss_nil)), ?_⟩
  obtain ⟨_, _, dx, ha⟩ := hC
  refine ⟨_, rfl, _, _, _, _, true, rfl, .own _, tyx_insC T.ic_Check ha, T.ic_Check.me, true, rfl, iteF ?_⟩
  exact q
def sp_sum_of (C : Addr) : Sp := fun vs H Q _ => ∃ (a : Addr) (wd W : Nat), vs = [.ref a] ∧ CheckAt C H a wd W ∧ Q (.int W) H
theorem G_sum_of (T : Top K mg) : FnOk P w K mg base CX0 1 T.f_sum_of T.fd_sum_of ["check"] (sp_sum_of T.C_Check) := by
  refine T.F_sum_of.ok sc_sum_of (fun vs H Q E h => by obtain ⟨a, wd, W, rfl, _⟩ := h; rfl) (fun cdv A outer s H vs Q E hr h => ?_)
  obtain ⟨a, wd, W, rfl, hC, q⟩ := h
  refine ⟨_, PSs.nox (pss_one (ps_ret (pe_op op_add (pe_op op_shl pe_int (pe_fld (pv 0) rfl)) (pe_fld (pv 0) rfl)))), ?_⟩
  obtain ⟨hK, hw, dx, ha⟩ := hC
  refine ⟨_, rfl, a, T.C_Check, dx, _, _, rfl, ha, T.cl_Check, T.na_Check_size, rfl, _, _, rfl, rfl, ⟨by omega, by omega, by decide⟩, _, rfl, a, T.C_Check, dx, _, _, rfl, ha, T.cl_Check, T.na_Check_tail, rfl, _, _, rfl, rfl, ?_⟩
  have e : (1 : Int) * 2 ^ ((wd : Int)).toNat + ((W - 2 ^ wd : Nat) : Int) = (W : Int) := by
    have h := hK.lo
    rw [Int.one_mul, Int.toNat_natCast]
    have : ((2 ^ wd : Nat) : Int) = 2 ^ wd := by rw [Int.natCast_pow]; rfl
    omega
  dsimp only
  rw [e]
  exact q
def sp_shifted (C : Addr) : Sp := fun vs H Q _ => ∃ (a : Addr) (wd W n : Nat), vs = [.ref a, .int n] ∧ CheckAt C H a wd W ∧ n < 2 ^ wd ∧ Q (.int (sh wd W n)) H
theorem G_shifted (T : Top K mg) : FnOk P w K mg base CX0 2 T.f_shifted T.fd_shifted ["check", "one"] (sp_shifted T.C_Check) := by
  refine T.F_shifted.ok sc_shifted (fun vs H Q E h => by obtain ⟨a, wd, W, n, rfl, _⟩ := h; rfl) (fun cdv A outer s H vs Q E hr h => ?_)
  obtain ⟨a, wd, W, n, rfl, hC, hn, q⟩ := h
  refine ⟨_, PSs.nox (pss_one (ps_ret (pe_ifExp (pt_cmpR op_eq (pe_op op_shr (pe_op op_mul (pv 1) pe_int) (pe_fld (pv 0) rfl)) pe_int (nomark _)) (pe_op op_xor (pe_op op_mul (pv 1) pe_int) (pe_call (G_sum_of T) (hr.mono (by decide)) (by rfl) T.g_sum_of T.F_sum_of.kp T.b_sum_of .nil pass0 (pa_cons (pv 0) pa_nil))) (pe_op op_mul (pv 1) pe_int)))), ?_⟩
  obtain ⟨hK, hw, dx, ha⟩ := id hC
  have h17 := pow17 hw
  have e2 : (n : Int) * 2 = ((2 * n : Nat) : Int) := by omega
  refine ⟨_, rfl, _, _, rfl, rfl, .inl ⟨by omega, by omega⟩, _, rfl, a, T.C_Check, dx, _, _, rfl, ha, T.cl_Check, T.na_Check_size, rfl, _, _, rfl, rfl, by omega, rfl, _, rfl, ?_⟩
  unfold sh red at q
  have ed : (n : Int) * 2 / 2 ^ ((wd : Int)).toNat = (((2 * n) >>> wd : Nat) : Int) := by rw [e2, shrI]
  by_cases c1 : (2 * n) >>> wd = 1
  · refine iteET (ed.trans (by rw [c1]; rfl)) ?_
    rw [if_pos c1] at q
    refine ⟨_, rfl, _, _, rfl, rfl, .inl ⟨by omega, by omega⟩, _, rfl, a, wd, W, rfl, hC, _, _, rfl, rfl, ?_⟩
    dsimp only
    rw [e2, bx]
    exact q
  · refine iteEF (fun z => c1 (by have z2 := ed.symm.trans z; omega)) ?_
    rw [if_neg c1] at q
    refine ⟨_, rfl, _, _, rfl, rfl, .inl ⟨by omega, by omega⟩, ?_⟩
    dsimp only
    rw [e2]
    exact q
theorem restB_take {wd W : Nat} {bs : List Bool} {i : Nat} {b : Bool} (h : bs[i]? = some b) : restB wd W (bs.take (i + 1)) = red wd W (2 * restB wd W (bs.take i) + b.toNat) := by
  rw [List.take_add_one, h]
  exact restB_snoc _ _
theorem bool_int (b : Bool) : (if b = true then (1 : Int) else 0) = ((b.toNat : Nat) : Int) := by cases b <;> rfl
def sp_rest_of (C : Addr) : Sp := fun vs H Q _ => ∃ (a : Addr) (wd W : Nat) (bs : List Bool), vs = [.ref a, .str (bS bs)] ∧ CheckAt C H a wd W ∧ Q (.int (restB wd W bs)) H
theorem G_rest_of (T : Top K mg) : FnOk P w K mg base CX0 2 T.f_rest_of T.fd_rest_of ["check", "bits"] (sp_rest_of T.C_Check) := by
  refine T.F_rest_of.ok sc_rest_of (fun vs H Q E h => by obtain ⟨a, wd, W, bs, rfl, _⟩ := h; rfl) (fun cdv A outer s H vs Q E hr h => ?_)
  obtain ⟨a, wd, W, bs, rfl, hC, q⟩ := h
  refine ⟨_, PSs.nox (pss_cons (ps_set (i := 2) sc_rest_of.nd rfl (by first | exact Or.inl rfl | exact Or.inr rfl) pe_int)
  (pss_cons (ps_for PassesOwn.never rfl (pi_str (pv 1)) (pg_name (i := 3) sc_rest_of.nd rfl (by first | exact Or.inl rfl | exact Or.inr rfl))
    (pss_cons (ps_set (i := 2) sc_rest_of.nd rfl (by first | exact Or.inl rfl | exact Or.inr rfl) (pe_op op_add (pe_op op_mul (pv 2) pe_int) (pe_callTy call_int1 (by rfl) T.n_int (by decide +kernel) (pa_cons (pe_cmpR op_eq (pv 3) pe_str (nomark _)) pa_nil))))
  (pss_one (ps_if (pt_cmpR op_eq (pe_op op_shr (pv 2) (pe_fld (pv 0) rfl)) pe_int (nomark _))
    (pss_one (ps_set (i := 2) sc_rest_of.nd rfl (by first | exact Or.inl rfl | exact Or.inr rfl) (pe_op op_xor (pv 2) (pe_call (G_sum_of T) (hr.mono (by decide)) (by rfl) T.g_sum_of T.F_sum_of.kp T.b_sum_of .nil pass0 (pa_cons (pv 0) pa_nil)))))
    pss_nil))))
  (pss_one (ps_ret (pv 2))))), ?_⟩
  obtain ⟨hK, hw, dx, ha⟩ := id hC
  have h17 := pow17 hw
  refine ⟨_, rfl, _, rfl, ?_⟩
  refine for_it walk_str (fun i σ H1 => ∃ v, σ = [some (.ref a), some (.str (bS bs)), some (.int (restB wd W (bs.take i))), v] ∧ H1 = H) ⟨none, rfl, rfl⟩ (fun _ _ _ _ _ => trivial) ?_ ?_
  · rintro i x σ H1 H2 hi ⟨v, rfl, rfl⟩ ⟨rfl, c, hc, rfl⟩
    obtain ⟨b, hb, ec⟩ := bS_at hc
    rw [ec]
    have hlt := restB_eq (w := wd) (W := W) (bs.take i)
    have hl2 := rem_lt hK (numB (bs.take i))
    rw [← hlt] at hl2
    generalize er : restB wd W (bs.take i) = r at hl2
    refine ⟨_, rfl, _, _, rfl, rfl, .inl ⟨by omega, by omega⟩, _, rfl, rfl, .inr ⟨_, rfl, _, _, rfl, rfl, ?_⟩⟩
    dsimp only
    rw [one_sign, bool_int]
    have e2 : (r : Int) * 2 + ((b.toNat : Nat) : Int) = ((2 * r + b.toNat : Nat) : Int) := by omega
    rw [e2]
    have en := restB_take (wd := wd) (W := W) hb
    rw [er] at en
    unfold red at en
    refine ⟨_, rfl, _, rfl, a, T.C_Check, dx, _, _, rfl, ha, T.cl_Check, T.na_Check_size, rfl, _, _, rfl, rfl, by omega, rfl, _, rfl, ?_⟩
    have ed := shrI (2 * r + b.toNat) wd
    by_cases c1 : (2 * r + b.toNat) >>> wd = 1
    · refine iteET (ed.trans (by rw [c1]; rfl)) ?_
      rw [if_pos c1] at en
      refine ⟨_, rfl, _, rfl, a, wd, W, rfl, hC, _, _, rfl, rfl, ?_⟩
      dsimp only
      rw [bx, ← en]
      exact ⟨_, rfl, rfl⟩
    · refine iteEF (fun z => c1 (by have z2 := ed.symm.trans z; omega)) ?_
      rw [if_neg c1] at en
      rw [← en]
      exact ⟨_, rfl, rfl⟩
  · rintro σ H1 ⟨v, rfl, rfl⟩
    rw [bS_size, List.take_length]
    exact ⟨_, rfl, q⟩
/-- the word of a row -/
def wordB (wd W : Nat) (bs : List Bool) : Nat := restB wd W (bs ++ List.replicate wd false)
def sp_word (C : Addr) : Sp := fun vs H Q _ => ∃ (a : Addr) (wd W : Nat) (bs : List Bool), vs = [.ref a, .str (bS bs)] ∧ CheckAt C H a wd W ∧ bs.length ≤ 1000 ∧ ∀ H', Same H H' → Q (.int (wordB wd W bs)) H'
def sp_sealed (C : Addr) : Sp := fun vs H Q _ => ∃ (a : Addr) (wd W : Nat) (bs : List Bool), vs = [.ref a, .str (bS bs)] ∧ CheckAt C H a wd W ∧ bs.length ≤ 1000 ∧ ∀ H', Same H H' → Q (.str (bS (bs ++ bitsB (wordB wd W bs) wd))) H'
end
end My

namespace My
open PySem PySem.Spec PyProof.Rows L2 Pre
theorem bl_iff {n m : Nat} : Builtin.Int.intBits (n : Int) ≤ m ↔ n < 2 ^ m := by
  rw [intBits_le_iff]
  rfl
theorem bl_W {wd W : Nat} (h : Ck wd W) : Builtin.Int.intBits (W : Int) = wd + 1 := by
  have h1 := bl_iff.mpr h.hi
  have h2 : ¬ Builtin.Int.intBits (W : Int) ≤ wd := fun z => by
    have := bl_iff.mp z
    have := h.lo
    omega
  omega
theorem rest_turn {wd W l : Nat} (h : Ck wd W) (c : wd + 1 ≤ Builtin.Int.intBits (l : Int)) : l ^^^ (W <<< (Builtin.Int.intBits (l : Int) - (wd + 1))) < l ∧ rem wd W (l ^^^ (W <<< (Builtin.Int.intBits (l : Int) - (wd + 1)))) = rem wd W l := by
  refine ⟨?_, ?_⟩
  · generalize hk : Builtin.Int.intBits (l : Int) - (wd + 1) = k
    have e : Builtin.Int.intBits (l : Int) = wd + k + 1 := by omega
    have h1 : l < 2 ^ (wd + k + 1) := bl_iff.mp (by omega)
    have h2 : 2 ^ (wd + k) ≤ l := by
      have : ¬ l < 2 ^ (wd + k) := fun z => by
        have := bl_iff.mpr z
        omega
      omega
    have hl := h.lo
    have hh := h.hi
    have h3 : W <<< k < 2 ^ (wd + k + 1) := by
      rw [Nat.shiftLeft_eq, show wd + k + 1 = wd + 1 + k by omega, Nat.pow_add]
      exact Nat.mul_lt_mul_of_pos_right hh (Nat.pow_pos (by omega))
    have h4 : 2 ^ (wd + k) ≤ W <<< k := by
      rw [Nat.shiftLeft_eq, Nat.pow_add]
      exact Nat.mul_le_mul_right _ (by omega)
    exact Nat.lt_of_lt_of_le (xor_low h1 h3 h2 h4) h2
  · rw [rem_xor h, rem_shl h _ _ (rem_self h), Nat.xor_zero]
local macro_rules | `(tactic| walk_at "go") => `(tactic| repeat (first | (with_reducible first | refine iteT ?_ | refine iteF ?_ | refine iteNtt ?_ | refine iteNff ?_ | refine iteET (by omega) ?_ | refine iteEF (by omega) ?_ | refine iteENT (by omega) ?_ | refine iteENF (by omega) ?_ | refine iteDT (by omega) ?_ | refine iteDF (by omega) ?_ | refine iteNT (by omega) ?_ | refine iteNF (by omega) ?_) | refine ⟨_, rfl, ?_⟩ | refine ⟨_, _, rfl, rfl, ?_⟩ | refine ⟨_, _, rfl, ?_⟩ | refine ⟨rfl, ?_⟩ | refine .inl ⟨_, rfl, ?_⟩ | refine .inr ⟨_, rfl, ?_⟩))
local macro_rules | `(tactic| walk_at "b") => `(tactic| try dsimp (config := { proj := false, iota := false, eta := false, zeta := false }) only)
section
variable {P : Program} {w : World} {K : PySem.W.Frag} {mg : Str → Option Value} {base : Heap}
def sp_law_rest : Sp := fun vs H Q _ => ∃ (wd W n : Nat), vs = [.int W, .int n] ∧ Ck wd W ∧ wd ≤ 16 ∧ n < 2 ^ 1000 ∧ Q (.int (rem wd W n)) H
theorem G_law_rest (T : Top K mg) : FnOk P w K mg base CX0 1 T.f_law_rest T.fd_law_rest ["_law_whole", "_law_number"] sp_law_rest := by
  refine T.F_law_rest.ok sc_law_rest (fun vs H Q E h => by obtain ⟨wd, W, n, rfl, _⟩ := h; rfl) (fun cdv A outer s H vs Q E hr h => ?_)
  obtain ⟨wd, W, n, rfl, hK, hw, hn, q⟩ := h
  refine ⟨_, PSs.nox (pss_cons (ps_set (i := 2) sc_law_rest.nd rfl (by first | exact Or.inl rfl | exact Or.inr rfl) (pv 1))
  (pss_cons (ps_while PassesOwn.never (pt_cmpR op_ge (pe_bits (pv 2)) (pe_bits (pv 0)) (nomark _))
    (pss_one (ps_set (i := 2) sc_law_rest.nd rfl (by first | exact Or.inl rfl | exact Or.inr rfl) (pe_op op_xor (pv 2) (pe_op op_shl (pv 0) (pe_op op_sub (pe_bits (pv 2)) (pe_bits (pv 0))))))))
  (pss_one (ps_ret (pv 2))))), ?_⟩
  have h17 := pow17 (w := wd + 1 - 1) (by omega)
  have hW : W < 2 ^ 17 := by
    have := hK.hi
    have e : 2 ^ (wd + 1) = 2 ^ wd * 2 := Nat.pow_succ ..
    simp at h17
    omega
  refine ⟨_, rfl, ?_⟩
  refine ⟨fun m σ H1 => ∃ l : Nat, σ = [some (.int W), some (.int n), some (.int l)] ∧ H1 = H ∧ m = l ∧ l < 2 ^ 1000 ∧ rem wd W l = rem wd W n, ⟨n, n, rfl, rfl, rfl, hn, rfl⟩, ?_⟩
  rintro m σ H1 ⟨l, rfl, rfl, hm, hl, hr⟩
  refine ⟨_, rfl, _, rfl, _, rfl, _, rfl, _, _, rfl, rfl, _, rfl, ite2 (fun c => ?_) (fun c => ?_)⟩
  · have c1 : wd + 1 ≤ Builtin.Int.intBits (l : Int) := by
      have := of_decide_eq_true c
      rw [bl_W hK] at this
      omega
    obtain ⟨t1, t2⟩ := rest_turn hK c1
    have hb : Builtin.Int.intBits (l : Int) ≤ 1000 := bl_iff.mpr hl
    refine ⟨fun σ' H' => ∃ l' : Nat, σ' = [some (.int W), some (.int n), some (.int l')] ∧ H' = H1 ∧ l' < l ∧ l' < 2 ^ 1000 ∧ rem wd W l' = rem wd W n, fun σ' H' ⟨l', e1, e2, e3, e4, e5⟩ => ⟨l', by omega, l', e1, e2, rfl, e4, e5⟩, ?_⟩
    have ek : ((Builtin.Int.intBits (l : Int) : Nat) : Int) - ((Builtin.Int.intBits (W : Int) : Nat) : Int) = ((Builtin.Int.intBits (l : Int) - (wd + 1) : Nat) : Int) := by
      rw [bl_W hK]
      omega
    refine ⟨_, rfl, _, rfl, _, rfl, _, rfl, _, rfl, _, rfl, _, _, rfl, rfl, _, _, rfl, rfl, ⟨by omega, by omega, by omega⟩, _, _, rfl, rfl, ?_⟩
    dsimp only
    rw [ek, shlI, bx]
    exact ⟨_, rfl, rfl, t1, by omega, t2.trans hr⟩
  · have c1 : Builtin.Int.intBits (l : Int) ≤ wd := by
      have : ¬ ((Builtin.Int.intBits (l : Int) : Nat) : Int) ≥ ((Builtin.Int.intBits (W : Int) : Nat) : Int) := fun z => c (decide_eq_true z)
      rw [bl_W hK] at this
      omega
    rw [← hr, rem_small hK _ (bl_iff.mp c1)] at q
    exact ⟨_, rfl, q⟩
theorem numB_take {bs : List Bool} {i : Nat} {b : Bool} (h : bs[i]? = some b) : numB (bs.take (i + 1)) = 2 * numB (bs.take i) + b.toNat := by
  rw [List.take_add_one, h]
  exact numB_snoc _ _
def sp_law_number : Sp := fun vs H Q _ => ∃ (bs : List Bool), vs = [.str (bS bs)] ∧ Q (.int (numB bs)) H
def sp_law_bits : Sp := fun vs H Q _ => ∃ (n k : Nat), vs = [.int n, .int k] ∧ k ≤ 1000 ∧ ∀ H', Same H H' → Q (.str (bS (bitsB n k))) H'
theorem G_law_bits (T : Top K mg) : FnOk P w K mg base CX0 1 T.f_law_bits T.fd_law_bits ["_law_number", "_law_many"] sp_law_bits := by
  refine T.F_law_bits.ok sc_law_bits (fun vs H Q E h => by obtain ⟨n, k, rfl, _⟩ := h; rfl) (fun cdv A outer s H vs Q E hr h => ?_)
  obtain ⟨n, k, rfl, hk, q⟩ := h
  refine ⟨_, PSs.nox (pss_cons (ps_set (i := 2) sc_law_bits.nd rfl (by first | exact Or.inl rfl | exact Or.inr rfl) pe_str)
  (pss_cons (ps_for PassesOwn.never rfl (pi_range1 (by rfl) T.n_range (pa_cons (pv 1) pa_nil)) (pg_name (i := 3) sc_law_bits.nd rfl (by first | exact Or.inl rfl | exact Or.inr rfl))
    (pss_one (ps_set (i := 2) sc_law_bits.nd rfl (by first | exact Or.inl rfl | exact Or.inr rfl) (pe_op op_add_str (pe_ix (k_ixL K rfl) (pe_lst (pa_cons pe_str (pa_cons pe_str pa_nil))) (pe_op op_mod (pe_op op_shr (pv 0) (pv 3)) pe_int) (fun _ _ => rfl)) (pv 2)))))
  (pss_one (ps_ret (pv 2))))), ?_⟩
  refine ⟨_, rfl, _, rfl, by omega, by omega, ?_⟩
  refine for_range (lo := 0) (n := ((k : Int)).toNat) (fun i σ H1 => ∃ v, σ = [some (.int n), some (.int k), some (.str (bS (bitsB n i))), v] ∧ Same H H1) ⟨none, ?_, Same.refl _⟩ ?_ ?_
  · show _ = [some (V.int n), some (V.int k), some (V.str (bS [])), none]
    rw [← str_nil]
    rfl
  · rintro i σ H1 hi ⟨v, rfl, s1⟩
    rw [Int.toNat_natCast] at hi
    refine ⟨(show 2 ≤ sizeLine by decide), fun p np => ?_⟩
    obtain ⟨H2, e2, s2, h2⟩ := fresh (.lst [V.str (("0" : String) : Str), V.str (("1" : String) : Str)]) np
    rw [e2]
    refine ⟨_, rfl, _, rfl, _, _, rfl, rfl, by omega, _, _, rfl, rfl, (by show (0 : Int) < 2; decide), ?_⟩
    have e1 : (n : Int) / 2 ^ (0 + (i : Int)).toNat % 2 = (((n.testBit i).toNat : Nat) : Int) := by
      rw [show (0 + (i : Int)) = (i : Int) by omega, shrI, Nat.toNat_testBit, Nat.shiftRight_eq_div_pow]
      omega
    dsimp only
    rw [e1, str_zero, str_one] at *
    refine ⟨p, _, _, .str (bS [n.testBit i]), rfl, rfl, .inl (.inl h2), ?_, ?_⟩
    · cases n.testBit i <;> rfl
    · refine ⟨_, rfl, _, _, rfl, rfl, by rw [bS_len, bS_len, bitsB_len]; exact Nat.le_of_lt (small1000' (by simp; omega)), ?_⟩
      rw [bS_app]
      exact ⟨_, rfl, s1.trans s2⟩
  · rintro σ H1 ⟨v, rfl, s1⟩
    rw [Int.toNat_natCast]
    exact ⟨_, rfl, q _ s1⟩
def sp_law_drawn : Sp := fun vs H Q _ => ∃ (g : Addr) (n wd : Nat), vs = [.ref g, .int wd] ∧ GenAt H g n ∧ n ≤ 10 ^ 12 ∧ 1 ≤ wd ∧ wd ≤ 16 ∧ ∀ (l : Nat) H', l < 2 ^ wd → l % 2 = 1 → GenAt H' g (n + 100) → But g H H' → Q (.int l) H'
theorem G_law_drawn (T : Top K mg) : FnOk P w K mg base CX0 3 T.f_law_drawn T.fd_law_drawn ["_law_generator_here", "_law_width"] sp_law_drawn := by
  refine T.F_law_drawn.ok sc_law_drawn (fun vs H Q E h => by obtain ⟨g, n, wd, rfl, _⟩ := h; rfl) (fun cdv A outer s H vs Q E hr h => ?_)
  obtain ⟨g, n, wd, rfl, hg, hn, h1, h2, q⟩ := h
  refine ⟨_, PSs.nox (pss_one (ps_ret (pe_op op_add pe_int (pe_op op_mul pe_int (pe_call (G_law_random T) (hr.mono (by decide)) (by rfl) T.g_law_random T.F_law_random.kp T.b_law_random .nil pass0 (pa_cons (pv 0) (pa_cons (pe_op op_shl pe_int (pe_op op_sub (pv 1) pe_int)) pa_nil))))))), ?_⟩
  have e2 : 2 ^ wd = 2 ^ (wd - 1) * 2 := by
    rw [← Nat.pow_succ, show (wd - 1).succ = wd by omega]
  have h17 := pow17 (w := wd) h2
  have eb : (1 : Int) * 2 ^ ((wd : Int) - 1).toNat = ((2 ^ (wd - 1) : Nat) : Int) := by
    rw [Int.one_mul, show ((wd : Int) - 1).toNat = wd - 1 by omega, Int.natCast_pow]
    rfl
  have hp : 0 < 2 ^ (wd - 1) := Nat.pow_pos (by omega)
  refine ⟨_, rfl, _, rfl, _, _, rfl, rfl, _, _, rfl, rfl, ⟨by omega, by omega, by decide⟩, g, _, n, rfl, hg, hn, ?_, ?_, ?_⟩
  · omega
  · omega
  · intro d H1 d0 d1 hg1 b1
    refine ⟨_, _, rfl, rfl, .inl ⟨by decide, by decide⟩, _, _, rfl, rfl, ?_⟩
    have e3 : 1 + 2 * d = ((1 + 2 * d.toNat : Nat) : Int) := by omega
    dsimp only
    rw [e3]
    exact q _ _ (by omega) (by omega) hg1 b1
def sp_law_row : Sp := fun vs H Q _ => ∃ (g : Addr) (n k : Nat), vs = [.ref g, .int k] ∧ GenAt H g n ∧ n ≤ 10 ^ 12 ∧ k ≤ 1000 ∧ ∀ (bs : List Bool) H', bs.length = k → GenAt H' g (n + 100) → But g H H' → Q (.str (bS bs)) H'
end
end My

namespace My
open PySem PySem.Spec PyProof.Rows L2 Pre
theorem k_all {X : Cx} (K : PySem.W.Frag) (h : X.K = K) (hc : X.calm = true) : CallR X (.builtin "all") (rAll K) := by subst h; exact cr_all hc
theorem DtA.boolsE {H : Hp} : ∀ {bs : List Bool} {vs : List V}, DtA H vs (bs.map PyData.bool) → vs = bs.map V.bl
  | [], _, h => by cases h; rfl
  | b :: bs, _, h => by
    cases h with
    | cons a c =>
      cases a
      rw [DtA.boolsE c]
      rfl
theorem all_true (n : Nat) : (List.replicate n true).all id = true := by
  induction n with
  | zero => rfl
  | succ n ih => rw [List.replicate_succ, List.all_cons, ih]; rfl
theorem prod_mod (a b i : Nat) : prod a (b % 2 ^ (i + 1)) = prod a (b % 2 ^ i) ^^^ (if b >>> i % 2 = 1 then a <<< i else 0) := by
  have hi : b % 2 ^ i < 2 ^ i := Nat.mod_lt _ (Nat.pow_pos (by decide))
  have e : b % 2 ^ (i + 1) = b % 2 ^ i ^^^ ((b >>> i % 2) <<< i) := by
    refine Nat.eq_of_testBit_eq fun j => ?_
    rw [Nat.testBit_xor, Nat.testBit_mod_two_pow, Nat.testBit_mod_two_pow, Nat.testBit_shiftLeft]
    have hb : ∀ k, (b >>> i % 2).testBit k = (decide (k = 0) && b.testBit i) := fun k => by
      have : b >>> i % 2 = (b.testBit i).toNat := by rw [Nat.toNat_testBit, Nat.shiftRight_eq_div_pow]
      rw [this]
      cases b.testBit i <;> cases k <;> simp [Nat.testBit_succ]
    rw [hb]
    rcases Nat.lt_trichotomy j i with c | c | c
    · simp [show j < i + 1 by omega, c, show ¬ i ≤ j by omega]
    · subst c
      simp
    · simp [show ¬ j < i + 1 by omega, show ¬ j < i by omega, show ¬ j - i = 0 by omega]
  rw [e, prod_comm, prod_xorl, prod_comm _ a]
  congr 1
  have c : b >>> i % 2 = 0 ∨ b >>> i % 2 = 1 := by omega
  rcases c with c | c
  · rw [c, if_neg (by decide), Nat.zero_shiftLeft, prod_zerol]
  · rw [c, if_pos rfl, prod_comm]
    have : ∀ k, prod a (1 <<< k) = a <<< k := fun k => by
      induction k with
      | zero => rw [Nat.shiftLeft_zero, Nat.shiftLeft_zero, prod_comm, prod_one]
      | succ k ih =>
        rw [Nat.shiftLeft_succ, Nat.shiftLeft_succ, ← ih]
        have := prod_bit a (1 <<< k) 0 (by decide)
        simp only [Nat.add_zero] at this
        rw [this, if_neg (by decide), Nat.xor_zero]
    exact this i
/-- ways that meet again, whatever they stored -/
theorem joinS {b : Bool} {A : Prop} {R : L2.St → Hp → Prop} {σ : L2.St} {H : Hp} (Pv : L2.St → Hp → Prop) (cont : ∀ σ' H', Pv σ' H' → R σ' H') (h1 : b = true → (∀ σ' H', Pv σ' H' → R σ' H') → A) (h2 : b = false → Pv σ H) : if b = true then A else R σ H := by
  cases b with
  | true => rw [if_pos rfl]; exact h1 rfl cont
  | false => rw [if_neg (by decide)]; exact cont _ _ (h2 rfl)
local macro_rules | `(tactic| walk_at "go") => `(tactic| repeat (first | (with_reducible first | refine iteT ?_ | refine iteF ?_ | refine iteNtt ?_ | refine iteNff ?_ | refine iteET (by omega) ?_ | refine iteEF (by omega) ?_ | refine iteENT (by omega) ?_ | refine iteENF (by omega) ?_ | refine iteDT (by omega) ?_ | refine iteDF (by omega) ?_ | refine iteNT (by omega) ?_ | refine iteNF (by omega) ?_) | refine ⟨_, rfl, ?_⟩ | refine ⟨_, _, rfl, rfl, ?_⟩ | refine ⟨_, _, rfl, ?_⟩ | refine ⟨rfl, ?_⟩ | refine .inl ⟨_, rfl, ?_⟩ | refine .inr ⟨_, rfl, ?_⟩))
local macro_rules | `(tactic| walk_at "b") => `(tactic| try dsimp (config := { proj := false, iota := false, eta := false, zeta := false }) only)
section
variable {P : Program} {w : World} {K : PySem.W.Frag} {mg : Str → Option Value} {base : Heap}
/-- ascending places -/
def Rising (ts : List Nat) : Prop := ts.Pairwise (· < ·) ∧ (∀ t ∈ ts, t ≤ 10 ^ 18) ∧ ts.length ≤ 1000
def natI (ts : List Nat) : List Int := ts.map fun (t : Nat) => (t : Int)
theorem nat_at {ts : List Nat} {i : Nat} {x : V} (h : ((natI ts).map V.int)[i]? = some x) : ∃ t, ts[i]? = some t ∧ x = .int (t : Int) := by
  obtain ⟨n, hn, rfl⟩ := int_at h
  unfold natI at hn
  rw [List.getElem?_map] at hn
  obtain ⟨t, ht, rfl⟩ := Option.map_eq_some_iff.mp hn
  exact ⟨t, ht, rfl⟩
theorem nat_len (ts : List Nat) : ((natI ts).map V.int).length = ts.length := by unfold natI; rw [List.length_map, List.length_map]
theorem rd_listC {K : PySem.W.Frag} {H : Hp} {a : Addr} {xs : List V} (h : Rd H a (.lst xs)) : TyX K H (.ref a) (.type "list") := by
  rcases h with h | ⟨o, h⟩
  · exact .base (.lst h)
  · exact .base (.frz h)
def sp_are_places (K : PySem.W.Frag) : Sp := fun vs H Q _ => ∃ (a : Addr) (ts : List Nat), vs = [.ref a] ∧ H a = some (.lst ((natI ts).map V.int)) ∧ Rising ts ∧ ∀ H', Same H H' → Q (.bl true) H'
theorem G_are_places (T : Top K mg) : FnOk P w K mg base CX0 3 T.f_are_places T.fd_are_places ["value"] (sp_are_places K) := by
  refine T.F_are_places.ok sc_are_places (fun vs H Q E h => by obtain ⟨a, ts, rfl, _⟩ := h; rfl) (fun cdv A outer s H vs Q E hr h => ?_)
  obtain ⟨a, ts, rfl, hA, hR, q⟩ := h
  refine ⟨_, PSs.nox (pss_cons (ps_if (PW.pt (pw_or (pt_not (pt_val (pe_callB (k_isi K rfl) (by rfl) T.n_isinstance (by decide +kernel) (pa_cons (pv 0) (pa_cons (pe_bltn (v := .ty "list") (by rfl) T.n_list (by decide +kernel) rfl) pa_nil))))) (pw_or1 (pt_not (pt_val (pe_callB (k_all K rfl rfl) (by rfl) T.n_all (by decide +kernel) (pa_cons (pe_lc (own := [("place", 3)]) (g := gName 3) (tt := tYes) (by rfl) sc_are_places.nd (k_piL K rfl (pv 0)) (blkOk_by (own := [("place", 3)]) (N := N_are_places) (sc := defScope s_are_places) (by decide +kernel)) (fun _ _ _ _ _ => (pg_name (i := 3) sc_are_places.nd rfl (by first | exact Or.inl rfl | exact Or.inr rfl))) (fun _ _ _ _ _ => pts_nil) (fun _ _ _ _ _ => (pe_call (G_is_between T) (hr.mono (by decide)) (by rfl) T.g_is_between T.F_is_between.kp T.b_is_between .nil pass0 (pa_cons (pv 3) (pa_cons pe_int (pa_cons (pe_glob (v := .int 1000000000000000000) rfl T.m_MOST_PLACE ⟨_, rfl⟩) pa_nil)))))) pa_nil)))))))
    (pss_one (ps_ret pe_bl))
    pss_nil)
  (pss_one (ps_ret (pe_callB (k_all K rfl rfl) (by rfl) T.n_all (by decide +kernel) (pa_cons (pe_lc (own := [("one", 1), ("other", 2)]) (g := gTup K 2 (gCons (gName 1) (gCons (gName 2) (gNil)))) (tt := tYes) (by rfl) sc_are_places.nd (pi_zip (by rfl) T.n_zip (pa_cons (pv 0) (pa_cons (pe_slice (k_slL K rfl) (pv 0) (po_some pe_int) po_none) pa_nil))) (blkOk_by (own := [("one", 1), ("other", 2)]) (N := N_are_places) (sc := defScope s_are_places) (by decide +kernel)) (fun _ _ _ _ _ => (k_pgT K rfl (by rfl) (pgs_cons (pg_name (i := 1) sc_are_places.nd rfl (by first | exact Or.inl rfl | exact Or.inr rfl)) (pgs_cons (pg_name (i := 2) sc_are_places.nd rfl (by first | exact Or.inl rfl | exact Or.inr rfl)) pgs_nil)))) (fun _ _ _ _ _ => pts_nil) (fun _ _ _ _ _ => (pe_cmpR op_lt (pv 1) (pv 2) (nomark _)))) pa_nil))))), ?_⟩
  have hS : SqL K H a ((natI ts).map V.int) := .inl (.inl hA)
  have hl := nat_len ts
  refine ⟨_, rfl, _, _, _, _, true, rfl, .ty _, rd_listC (.inl hA), kit_ty (by decide +kernel), true, rfl, iteF ?_⟩
  refine ⟨_, rfl, a, rfl, ⟨_, hS⟩, fun D nD => ?_⟩
  refine lc_mapL (K := K) (xs := (natI ts).map V.int) ((List.replicate ts.length true).map V.bl) nD hS (by rw [hl, List.length_map, List.length_replicate]) (by rw [hl]; exact small1000' (by have := hR.2.2; omega)) (fun x => rfl) ?_ ?_
  · intro i x y H' hx hy s Qt qt
    obtain ⟨t, ht, rfl⟩ := nat_at hx
    rw [List.getElem?_map, List.getElem?_replicate] at hy
    split at hy
    · cases hy
      have := hR.2.1 t (List.mem_of_getElem? ht)
      refine ⟨_, rfl, t, 0, some 1000000000000000000, rfl, ?_⟩
      rw [decide_eq_true ⟨by omega, fun j h => by cases h; omega⟩]
      exact qt _ (Same.refl _)
    · cases hy
  · intro H1 s1 hD
    refine ⟨D, _, rfl, .inl (.inl hD), ?_⟩
    rw [all_true]
    refine ⟨_, rfl, iteF ?_⟩
    have hA1 := s1 _ _ hA
    refine ⟨_, rfl, _, rfl, _, rfl, a, _, rfl, .inl (.inl hA1), fun b nb => ?_⟩
    rw [show (1 : Int) = ((1 : Nat) : Int) from rfl, cut_drop, ← List.map_drop]
    obtain ⟨H2, e2, s2, h2⟩ := fresh (.lst (((natI ts).drop 1).map V.int)) nb
    rw [e2]
    have hA2 := s2 _ _ hA1
    refine ⟨a, b, _, _, rfl, .inl (.inl hA2), .inl (.inl h2), fun D2 nD2 => ?_⟩
    have hl2 : (((natI ts).drop 1).map V.int).length = ts.length - 1 := by unfold natI; rw [List.length_map, List.length_drop, List.length_map]
    refine lc_dW (walk_zip (K := K) (a := a) (b := b) (xs := (natI ts).map V.int) (ys := ((natI ts).drop 1).map V.int) (n := ts.length - 1) (by rw [hl, hl2]; omega)) (Has.nil (H := H2)) ((List.range (ts.length - 1)).map fun _ => some (PyData.bool true)) nD2 (by rw [List.length_map, List.length_range]) (small1000' (by have := hR.2.2; omega)) (fun H' s' => ⟨.inl (.inl (s' _ _ hA2)), .inl (.inl (s' _ _ h2))⟩) ?_ ?_
    · rintro i o H0 x H' hi ho s0 hS0 ⟨T1, x1, y1, rfl, nT, rfl, ex, ey⟩ Qt qt
      rw [List.getElem?_map] at ho
      obtain ⟨_, _, rfl⟩ := Option.map_eq_some_iff.mp ho
      dsimp only at ex ey
      obtain ⟨t, ht, rfl⟩ := nat_at ex
      rw [List.map_drop, List.getElem?_drop] at ey
      obtain ⟨u, hu, rfl⟩ := nat_at ey
      have htu : t < u := by
        obtain ⟨h1, e1⟩ := List.getElem?_eq_some_iff.mp ht
        obtain ⟨h2, e2⟩ := List.getElem?_eq_some_iff.mp hu
        have := List.pairwise_iff_getElem.mp hR.1 i (1 + i) h1 h2 (by omega)
        rw [e1, e2] at this
        exact this
      refine ⟨T1, _, rfl, .inl (.inl upd_same), rfl, _, _, rfl, _, _, rfl, rfl, rfl, ?_⟩
      unfold tYes
      dsimp only
      rw [if_pos (show true = true from rfl)]
      refine ⟨_, rfl, _, rfl, _, _, rfl, rfl, ?_⟩
      dsimp only
      rw [decide_eq_true (show (t : Int) < (u : Int) by omega)]
      exact qt (some (.bl true)) _ (same_upd nT) (.bl true)
    · intro H3 s3 hD3 hd
      rw [sel_map (List.range (ts.length - 1)) (fun _ => PyData.bool true), rs_nil] at hd
      obtain ⟨D', xs, e, hD', hx⟩ := hd.listE
      cases e
      have e2 : (List.range (ts.length - 1)).map (fun _ => PyData.bool true) = (List.replicate (ts.length - 1) true).map PyData.bool := by
        rw [List.map_replicate]
        refine List.ext_getElem? fun i => ?_
        rw [List.getElem?_map, List.getElem?_replicate]
        by_cases c : i < ts.length - 1 <;> simp [c]
      rw [e2] at hx
      rw [DtA.boolsE hx] at hD'
      refine ⟨D2, _, rfl, .inl (.inl hD'), ?_⟩
      rw [all_true]
      exact q _ (s1.trans (s2.trans s3))
def sp_check_places : Sp := fun vs H Q _ => ∃ (a : Addr) (ts : List Nat), vs = [.ref a] ∧ H a = some (.lst ((natI ts).map V.int)) ∧ Rising ts ∧ ∀ H', Same H H' → Q .non H'
theorem G_check_places (T : Top K mg) : FnOk P w K mg base CX0 4 T.f_check_places T.fd_check_places ["places"] sp_check_places := by
  refine T.F_check_places.ok sc_check_places (fun vs H Q E h => by obtain ⟨a, ts, rfl, _⟩ := h; rfl) (fun cdv A outer s H vs Q E hr h => ?_)
  obtain ⟨a, ts, rfl, hA, hR, q⟩ := h
  refine ⟨_, PSs.nox (pss_one (ps_if (pt_not (pt_val (pe_call (G_are_places T) (hr.mono (by decide)) (by rfl) T.g_are_places T.F_are_places.kp T.b_are_places .nil pass0 (pa_cons (pv 0) pa_nil))))
    (pss_one ps_never)
    pss_nil)), ?_⟩
  exact ⟨_, rfl, a, ts, rfl, hA, hR, fun H1 s1 => ⟨_, rfl, iteF (q _ s1)⟩⟩
def sp_check_rest (C : Addr) : Sp := fun vs H Q _ => ∃ (a : Addr) (wd W n : Nat), vs = [.ref a, .int n] ∧ CheckAt C H a wd W ∧ n < 2 ^ wd ∧ Q .non H
theorem shr_half (b k : Nat) : b >>> (k + 1) = b >>> k / 2 := Nat.shiftRight_succ b k
def sp_rest_times (C : Addr) : Sp := fun vs H Q _ => ∃ (a : Addr) (wd W m n : Nat), vs = [.ref a, .int m, .int n] ∧ CheckAt C H a wd W ∧ m < 2 ^ wd ∧ n < 2 ^ wd ∧ Q (.int (mulR wd W m n)) H
theorem G_rest_times (T : Top K mg) : FnOk P w K mg base CX0 3 T.f_rest_times T.fd_rest_times ["check", "one", "other"] (sp_rest_times T.C_Check) := by
  refine T.F_rest_times.ok sc_rest_times (fun vs H Q E h => by obtain ⟨a, wd, W, m, n, rfl, _⟩ := h; rfl) (fun cdv A outer s H vs Q E hr h => ?_)
  obtain ⟨a, wd, W, m, n, rfl, hC, hm, hn, q⟩ := h
  refine ⟨_, PSs.nox (pss_cons (ps_set (i := 3) sc_rest_times.nd rfl (by first | exact Or.inl rfl | exact Or.inr rfl) pe_int)
  (pss_cons (ps_for PassesOwn.never rfl (pi_range3 (by rfl) T.n_range (pa_cons (pe_op op_sub (pe_fld (pv 0) rfl) pe_int) (pa_cons (pe_un un_neg pe_int) (pa_cons (pe_un un_neg pe_int) pa_nil)))) (pg_name (i := 4) sc_rest_times.nd rfl (by first | exact Or.inl rfl | exact Or.inr rfl))
    (pss_cons (ps_set (i := 3) sc_rest_times.nd rfl (by first | exact Or.inl rfl | exact Or.inr rfl) (pe_call (G_shifted T) (hr.mono (by decide)) (by rfl) T.g_shifted T.F_shifted.kp T.b_shifted .nil pass0 (pa_cons (pv 0) (pa_cons (pv 3) pa_nil))))
  (pss_one (ps_if (pt_cmpR op_eq (pe_op op_and (pe_op op_shr (pv 2) (pv 4)) pe_int) pe_int (nomark _))
    (pss_one (ps_set (i := 3) sc_rest_times.nd rfl (by first | exact Or.inl rfl | exact Or.inr rfl) (pe_op op_xor (pv 3) (pv 1))))
    pss_nil))))
  (pss_one (ps_ret (pv 3))))), ?_⟩
  obtain ⟨hK, hw, dx, ha⟩ := id hC
  refine ⟨_, rfl, a, T.C_Check, dx, _, _, rfl, ha, T.cl_Check, T.na_Check_size, rfl, _, _, rfl, rfl, _, rfl, _, rfl, _, _, _, _, rfl, RgC.neg (by omega) (by omega) (by omega) (by omega), ?_⟩
  have en : ((wd : Int) - 1 - -1).toNat = wd := by omega
  refine for_it (n := wd) (Walk.mono (walk_rangeC (lo := (wd : Int) - 1) (c := -1) (n := ((wd : Int) - 1 - -1).toNat)) (fun _ _ => trivial) (fun _ _ _ _ _ _ y => y) |> fun h => by rw [en] at h; rw [en]; exact h) (fun i σ H1 => ∃ v4, σ = [some (.ref a), some (.int m), some (.int n), some (.int (mulR wd W m (n >>> (wd - i)))), v4] ∧ H1 = H) ⟨none, ?_, rfl⟩ (fun _ _ _ _ _ => trivial) ?_ ?_
  · have : n >>> wd = 0 := by rw [Nat.shiftRight_eq_div_pow]; exact Nat.div_eq_of_lt hn
    rw [Nat.sub_zero, this]
    unfold mulR
    rw [prod_zero, rem_zero]
    rfl
  · rintro i x σ H1 H2 hi ⟨v4, rfl, rfl⟩ ⟨rfl, rfl⟩
    walk_at "b"
    have ep : (wd : Int) - 1 + (i : Int) * -1 = ((wd - 1 - i : Nat) : Int) := by omega
    rw [ep]
    have hlt := mulR_lt hK m (n >>> (wd - i))
    refine ⟨_, rfl, _, rfl, a, wd, W, _, rfl, hC, hlt, ?_⟩
    have es : n >>> (wd - i) = n >>> (wd - 1 - i) / 2 := by rw [← shr_half, show wd - 1 - i + 1 = wd - i by omega]
    have st := mulR_step hK m (n >>> (wd - 1 - i)) hm
    rw [← es] at st
    have eb : Builtin.bitAnd ((n : Int) / 2 ^ (((wd - 1 - i : Nat) : Int)).toNat) 1 = (((n >>> (wd - 1 - i)) % 2 : Nat) : Int) := by rw [shrI, and1]
    refine ⟨_, rfl, _, rfl, _, _, rfl, rfl, by omega, _, _, rfl, rfl, rfl, _, rfl, ?_⟩
    by_cases c : n >>> (wd - 1 - i) % 2 = 1
    · refine iteET (eb.trans (by rw [c]; rfl)) ?_
      rw [if_pos c] at st
      refine ⟨_, rfl, _, rfl, _, _, rfl, rfl, ?_⟩
      dsimp only
      rw [bx, ← st, show wd - 1 - i = wd - (i + 1) by omega]
      exact ⟨_, rfl, rfl⟩
    · refine iteEF (fun z => c (by have z2 := eb.symm.trans z; omega)) ?_
      rw [if_neg c, Nat.xor_zero] at st
      rw [← st, show wd - 1 - i = wd - (i + 1) by omega]
      exact ⟨_, rfl, rfl⟩
  · rintro σ H1 ⟨v4, rfl, rfl⟩
    rw [Nat.sub_self, Nat.shiftRight_zero]
    exact ⟨_, rfl, q⟩
def sp_power_of (C : Addr) : Sp := fun vs H Q _ => ∃ (a : Addr) (wd W n : Nat), vs = [.ref a, .int n] ∧ CheckAt C H a wd W ∧ Q (.int (pw wd W n)) H
theorem G_power_of (T : Top K mg) : FnOk P w K mg base CX0 4 T.f_power_of T.fd_power_of ["check", "many"] (sp_power_of T.C_Check) := by
  refine T.F_power_of.ok sc_power_of (fun vs H Q E h => by obtain ⟨a, wd, W, n, rfl, _⟩ := h; rfl) (fun cdv A outer s H vs Q E hr h => ?_)
  obtain ⟨a, wd, W, n, rfl, hC, q⟩ := h
  refine ⟨_, PSs.nox (pss_cons (ps_par3 (by rfl) sc_power_of.nd (i := 2) (j := 3) (l := 4) rfl rfl rfl (by decide) (by decide) (by decide) rfl rfl rfl (pa_cons pe_int (pa_cons (pe_call (G_rest_of T) (hr.mono (by decide)) (by rfl) T.g_rest_of T.F_rest_of.kp T.b_rest_of .nil pass0 (pa_cons (pv 0) (pa_cons pe_str pa_nil))) (pa_cons (pv 1) pa_nil))) (by rfl))
  (pss_cons (ps_while PassesOwn.never (pt_cmpR op_gt (pv 4) pe_int (nomark _))
    (pss_cons (ps_if (pt_cmpR op_eq (pe_op op_mod (pv 4) pe_int) pe_int (nomark _))
    (pss_one (ps_set (i := 2) sc_power_of.nd rfl (by first | exact Or.inl rfl | exact Or.inr rfl) (pe_call (G_rest_times T) (hr.mono (by decide)) (by rfl) T.g_rest_times T.F_rest_times.kp T.b_rest_times .nil pass0 (pa_cons (pv 0) (pa_cons (pv 2) (pa_cons (pv 3) pa_nil))))))
    pss_nil)
  (pss_cons (ps_set (i := 3) sc_power_of.nd rfl (by first | exact Or.inl rfl | exact Or.inr rfl) (pe_call (G_rest_times T) (hr.mono (by decide)) (by rfl) T.g_rest_times T.F_rest_times.kp T.b_rest_times .nil pass0 (pa_cons (pv 0) (pa_cons (pv 3) (pa_cons (pv 3) pa_nil)))))
  (pss_one (ps_set (i := 4) sc_power_of.nd rfl (by first | exact Or.inl rfl | exact Or.inr rfl) (pe_op op_fdivW (pv 4) pe_int))))))
  (pss_one (ps_ret (pv 2))))), ?_⟩
  obtain ⟨hK, hw, dx, ha⟩ := id hC
  have e10 : (("10" : String) : Str) = bS [true, false] := by decide +kernel
  refine ⟨_, rfl, a, wd, W, [true, false], by rw [← e10]; rfl, hC, _, rfl, _, _, _, rfl, ?_⟩
  have e1 : restB wd W [true, false] = pw wd W 1 := by rw [restB_eq]; rfl
  rw [e1]
  refine ⟨fun m σ H1 => ∃ (f k l : Nat), σ = [some (.ref a), some (.int n), some (.int (pw wd W f)), some (.int (pw wd W k)), some (.int l)] ∧ H1 = H ∧ m = l ∧ f + k * l = n, ⟨n, 0, 1, n, by rw [pw_zero hK]; rfl, rfl, rfl, by omega⟩, ?_⟩
  rintro m σ H1 ⟨f, k, l, rfl, rfl, hml, hn⟩
  refine ⟨_, rfl, _, _, rfl, rfl, _, rfl, ?_⟩
  by_cases c : 0 < l
  · refine iteDT (by omega) ?_
    refine ⟨fun σ' H' => ∃ (f' k' l' : Nat), σ' = [some (.ref a), some (.int n), some (.int (pw wd W f')), some (.int (pw wd W k')), some (.int l')] ∧ H' = H1 ∧ l' < l ∧ f' + k' * l' = n, fun σ' H' ⟨f', k', l', e1, e2, e3, e4⟩ => ⟨l', by omega, f', k', l', e1, e2, rfl, e4⟩, ?_⟩
    refine ⟨_, rfl, _, _, rfl, rfl, (by show (0 : Int) < 2; decide), rfl, _, rfl, ?_⟩
    have hk := pw_lt hK k
    have hf := pw_lt hK f
    have hd := Nat.div_add_mod l 2
    refine joinS (fun σ' H' => ∃ f' : Nat, σ' = [some (.ref a), some (.int n), some (.int (pw wd W f')), some (.int (pw wd W k)), some (.int l)] ∧ H' = H1 ∧ f' + 2 * k * (l / 2) = n) (fun σ' H' h => ?_) (fun cc cont => ?_) (fun cc => ?_)
    · obtain ⟨f', rfl, rfl, hf'⟩ := h
      refine ⟨_, rfl, _, rfl, _, rfl, a, wd, W, _, _, rfl, hC, hk, hk, ?_⟩
      rw [pw_mul hK]
      refine ⟨_, rfl, _, _, rfl, rfl, wide_div (b := 60) (by decide) (by decide) (by decide) (by decide), ?_⟩
      have e2 : (l : Int) / 2 = ((l / 2 : Nat) : Int) := by omega
      dsimp only
      rw [e2]
      exact ⟨f', k + k, l / 2, rfl, rfl, by omega, by rw [← hf', show 2 * k = k + k by omega]⟩
    · have c1 : l % 2 = 1 := by
        have := V.int.inj (of_decide_eq_true cc)
        omega
      refine ⟨_, rfl, _, rfl, _, rfl, a, wd, W, _, _, rfl, hC, hf, hk, ?_⟩
      rw [pw_mul hK]
      refine cont _ _ ⟨f + k, rfl, rfl, ?_⟩
      have : k * l = k * (2 * (l / 2)) + k * 1 := by rw [← Nat.mul_add]; congr 1; omega
      rw [← hn, this, Nat.mul_one, show 2 * k * (l / 2) = k * (2 * (l / 2)) by rw [Nat.mul_comm 2 k, Nat.mul_assoc]]
      omega
    · have c1 : l % 2 = 0 := by
        have := of_decide_eq_false cc
        have h3 : ¬ ((l : Int) % 2 = 1) := fun z => this (by show V.int ((l : Int) % 2) = V.int 1; rw [z])
        omega
      refine ⟨f, rfl, rfl, ?_⟩
      have : k * l = k * (2 * (l / 2)) := by congr 1; omega
      rw [← hn, this, show 2 * k * (l / 2) = k * (2 * (l / 2)) by rw [Nat.mul_comm 2 k, Nat.mul_assoc]]
  · refine iteDF (by omega) ?_
    have : l = 0 := by omega
    subst this
    rw [← hn, Nat.mul_zero, Nat.add_zero] at q
    exact ⟨_, rfl, q⟩
def sp_sum_at (C : Addr) (K : PySem.W.Frag) : Sp := fun vs H Q _ => ∃ (a b : Addr) (wd W : Nat) (ts : List Nat), vs = [.ref a, .ref b] ∧ CheckAt C H a wd W ∧ SqL K H b ((natI ts).map V.int) ∧ Q (.int (valP wd W ts)) H
theorem valP_take {wd W : Nat} {ts : List Nat} {i t : Nat} (h : ts[i]? = some t) : valP wd W (ts.take (i + 1)) = valP wd W (ts.take i) ^^^ pw wd W t := by
  rw [List.take_add_one, h]
  unfold valP
  rw [List.foldl_append]
  rfl
theorem G_sum_at (T : Top K mg) : FnOk P w K mg base CX0 5 T.f_sum_at T.fd_sum_at ["check", "places"] (sp_sum_at T.C_Check K) := by
  refine T.F_sum_at.ok sc_sum_at (fun vs H Q E h => by obtain ⟨a, b, wd, W, ts, rfl, _⟩ := h; rfl) (fun cdv A outer s H vs Q E hr h => ?_)
  obtain ⟨a, b, wd, W, ts, rfl, hC, hB, q⟩ := h
  refine ⟨_, PSs.nox (pss_cons (ps_set (i := 2) sc_sum_at.nd rfl (by first | exact Or.inl rfl | exact Or.inr rfl) pe_int)
  (pss_cons (ps_for PassesOwn.never rfl (k_piL K rfl (pv 1)) (pg_name (i := 3) sc_sum_at.nd rfl (by first | exact Or.inl rfl | exact Or.inr rfl))
    (pss_one (ps_set (i := 2) sc_sum_at.nd rfl (by first | exact Or.inl rfl | exact Or.inr rfl) (pe_op op_xor (pv 2) (pe_call (G_power_of T) (hr.mono (by decide)) (by rfl) T.g_power_of T.F_power_of.kp T.b_power_of .nil pass0 (pa_cons (pv 0) (pa_cons (pv 3) pa_nil)))))))
  (pss_one (ps_ret (pv 2))))), ?_⟩
  refine ⟨_, rfl, b, rfl, ⟨_, hB⟩, for_list (K := K) (a := b) (xs := (natI ts).map V.int) (fun i σ H1 => ∃ v, σ = [some (.ref a), some (.ref b), some (.int (valP wd W (ts.take i))), v] ∧ H1 = H) ⟨none, rfl, rfl⟩ (fun i σ H1 _ ⟨_, _, e⟩ => by rw [e]; exact hB) ?_ ?_⟩
  · rintro i x σ H1 hx ⟨v, rfl, rfl⟩
    obtain ⟨t, ht, rfl⟩ := nat_at hx
    refine ⟨_, rfl, _, rfl, _, rfl, a, wd, W, t, rfl, hC, _, _, rfl, rfl, ?_⟩
    dsimp only
    rw [bx, ← valP_take ht]
    exact ⟨_, rfl, rfl⟩
  · rintro σ H1 ⟨v, rfl, rfl⟩
    rw [nat_len, List.take_length]
    exact ⟨_, rfl, q⟩
def sp_rest (C : Addr) : Sp := fun vs H Q _ => ∃ (a : Addr) (wd W : Nat) (bs : List Bool), vs = [.ref a, .str (bS bs)] ∧ CheckAt C H a wd W ∧ bs.length ≤ 1000 ∧ ∀ H', Same H H' → Q (.int (restB wd W bs)) H'
theorem G_rest (T : Top K mg) : FnOk P w K mg base CX0 3 T.f_rest T.fd_rest ["check", "bits"] (sp_rest T.C_Check) := by
  refine T.F_rest.ok sc_rest (fun vs H Q E h => by obtain ⟨a, wd, W, bs, rfl, _⟩ := h; rfl) (fun cdv A outer s H vs Q E hr h => ?_)
  obtain ⟨a, wd, W, bs, rfl, hC, hl, q⟩ := h
  refine ⟨_, PSs.nox (pss_cons (ps_expr (pe_call (G_check_check T) (hr.mono (by decide)) (by rfl) T.g_check_check T.F_check_check.kp T.b_check_check .nil pass0 (pa_cons (pv 0) pa_nil)))
  (pss_cons (ps_expr (pe_call (G_check_bits T) (hr.mono (by decide)) (by rfl) T.g_check_bits T.F_check_bits.kp T.b_check_bits .nil pass0 (pa_cons (pv 1) pa_nil)))
  (pss_one (ps_ret (pe_call (G_rest_of T) (hr.mono (by decide)) (by rfl) T.g_rest_of T.F_rest_of.kp T.b_rest_of .nil pass0 (pa_cons (pv 0) (pa_cons (pv 1) pa_nil))))))), ?_⟩
  refine ⟨_, rfl, a, wd, W, rfl, hC, _, rfl, bs, rfl, by omega, fun H1 s1 => ?_⟩
  exact ⟨_, rfl, _, rfl, a, wd, W, bs, rfl, hC.same s1, q _ s1⟩
def sp_is_right (C : Addr) : Sp := fun vs H Q _ => ∃ (a : Addr) (wd W : Nat) (bs : List Bool), vs = [.ref a, .str (bS bs)] ∧ CheckAt C H a wd W ∧ bs.length ≤ 1000 ∧ ∀ H', Same H H' → Q (.bl (decide (restB wd W bs = 0))) H'
theorem dec_nat (n m : Nat) : decide (V.int ((n : Nat) : Int) = V.int ((m : Nat) : Int)) = decide (n = m) := by
  by_cases h : n = m
  · rw [decide_eq_true h, decide_eq_true (by rw [h])]
  · rw [decide_eq_false h, decide_eq_false (fun z => h (by have := V.int.inj z; omega))]
theorem G_is_right (T : Top K mg) : FnOk P w K mg base CX0 4 T.f_is_right T.fd_is_right ["check", "bits"] (sp_is_right T.C_Check) := by
  refine T.F_is_right.ok sc_is_right (fun vs H Q E h => by obtain ⟨a, wd, W, bs, rfl, _⟩ := h; rfl) (fun cdv A outer s H vs Q E hr h => ?_)
  obtain ⟨a, wd, W, bs, rfl, hC, hl, q⟩ := h
  refine ⟨_, PSs.nox (pss_one (ps_ret (pe_cmpR op_eq (pe_call (G_rest T) (hr.mono (by decide)) (by rfl) T.g_rest T.F_rest.kp T.b_rest .nil pass0 (pa_cons (pv 0) (pa_cons (pv 1) pa_nil))) pe_int (nomark _)))), ?_⟩
  refine ⟨_, rfl, _, rfl, a, wd, W, bs, rfl, hC, hl, fun H1 s1 => ⟨rfl, ?_⟩⟩
  have e := dec_nat (restB wd W bs) 0
  have z := q _ s1
  rw [← e] at z
  exact z
def sp_power (C : Addr) : Sp := fun vs H Q _ => ∃ (a : Addr) (wd W n : Nat), vs = [.ref a, .int n] ∧ CheckAt C H a wd W ∧ n ≤ 10 ^ 18 ∧ Q (.int (pw wd W n)) H
def sp_joined_word (C : Addr) : Sp := fun vs H Q _ => ∃ (a : Addr) (wd W m n k : Nat), vs = [.ref a, .int m, .int n, .int k] ∧ CheckAt C H a wd W ∧ m < 2 ^ wd ∧ n < 2 ^ wd ∧ k ≤ 10 ^ 18 ∧ Q (.int (shn wd W k m ^^^ n : Nat)) H
def sp_turned_word (C : Addr) : Sp := fun vs H Q _ => ∃ (a b : Addr) (wd W m : Nat) (ts : List Nat), vs = [.ref a, .int m, .ref b] ∧ CheckAt C H a wd W ∧ m < 2 ^ wd ∧ H b = some (.lst ((natI ts).map V.int)) ∧ Rising ts ∧ ∀ H', Same H H' → Q (.int (m ^^^ valP wd W (ts.map fun t => t + wd) : Nat)) H'
def sp_law_product : Sp := fun vs H Q _ => ∃ (m n : Nat), vs = [.int m, .int n] ∧ m < 2 ^ 20 ∧ n < 2 ^ 1000 ∧ Q (.int (prod m n)) H
def sp_law_power : Sp := fun vs H Q _ => ∃ (wd W n : Nat), vs = [.int W, .int n] ∧ Ck wd W ∧ wd ≤ 16 ∧ Q (.int (pw wd W n)) H
end
end My

namespace My
open PySem PySem.Spec PyProof.Rows L2 Pre
/-- a dict comprehension over a walk -/
theorem dc_it {J : It} {n : Nat} {G : Hp → Prop} {Y : Nat → Hp → V → Hp → Prop} (w : Walk J n G Y) {g : TG} {tt : TT} {tk tv : TE} {vs : List Nat} {σ : L2.St} {H1 : Hp} {D : Addr} {Qd : Hp → Prop} (Pv : Nat → Hp → Prop) (h0 : Pv 0 (upd H1 D (.dK []))) (hG : ∀ i H, i ≤ n → Pv i H → G H)
    (hs : ∀ i x H H', i < n → Pv i H → Y i H x H' → g x (wipe σ vs) H' fun σ2 H2 => wipe σ2 vs = wipe σ vs ∧ tt σ2 H2 fun b H3 =>
      if b = true then tk σ2 H3 fun y H4 => tv σ2 H4 fun z H5 => ∃ kvs k, y = kV k ∧ H5 D = some (.dK kvs) ∧ kvs.length < sizeLine ∧ Pv (i + 1) (upd H5 D (.dK (putK kvs k z))) else Pv (i + 1) H3) (hd : ∀ H, Pv n H → Qd H) :
    ∃ W : Nat → Nat → Hp → Prop, (∃ m, W 0 m (upd H1 D (.dK []))) ∧ ∀ i m H, W i m H →
      (J.stop i H ∧ Qd H) ∨ (J.go i H ∧ ∃ Nx : Hp → Prop, (∀ H', Nx H' → ∃ m', m' < m ∧ W (i + 1) m' H') ∧ ∀ x H', J.yld i H x H' → g x (wipe σ vs) H' fun σ2 H2 => wipe σ2 vs = wipe σ vs ∧ tt σ2 H2 fun b H3 =>
        if b = true then tk σ2 H3 fun y H4 => tv σ2 H4 fun z H5 => ∃ kvs k, y = kV k ∧ H5 D = some (.dK kvs) ∧ kvs.length < sizeLine ∧ Nx (upd H5 D (.dK (putK kvs k z))) else Nx H3) := by
  refine ⟨fun i m H => m + i = n ∧ Pv i H, ⟨n, by omega, h0⟩, ?_⟩
  rintro i m H ⟨hm, p⟩
  have q := hG i H (by omega) p
  rcases Nat.lt_or_ge i n with c | c
  · exact .inr ⟨w.goes i H c q, Pv (i + 1), fun H' p' => ⟨m - 1, by omega, by omega, p'⟩, fun x H' y => hs i x H H' c p (w.yields i H x H' c q y)⟩
  · have e : i = n := by omega
    subst e
    exact .inl ⟨w.stops H q, hd H p⟩
/-! ### powers in a list -/
def powsL (wd W d : Nat) : List Int := (List.range d).map fun i => ((pw wd W i : Nat) : Int)
theorem powsL_len (wd W d : Nat) : (powsL wd W d).length = d := by simp [powsL]
theorem powsL_at {wd W d i : Nat} (h : i < d) : (powsL wd W d)[i]? = some ((pw wd W i : Nat) : Int) := by simp [powsL, h]
theorem powsL_next (wd W d : Nat) : powsL wd W (d + 1) = powsL wd W d ++ [((pw wd W d : Nat) : Int)] := by simp [powsL, List.range_succ]
theorem powsL_atI {wd W d i : Nat} (h : i < d) : atI ((powsL wd W d).map V.int) (i : Int) = some (.int ((pw wd W i : Nat) : Int)) := atI_nat (by rw [List.getElem?_map, powsL_at h]; rfl)
/-- a dict of the first d powers' places -/
def SpotsD (wd W d : Nat) (kvs : List (Key × V)) : Prop := kvs.length ≤ d ∧ (∀ i, i < d → valV kvs (.inl ((pw wd W i : Nat) : Int)) = some (.int i)) ∧ ∀ x : Int, (∀ i, i < d → ((pw wd W i : Nat) : Int) ≠ x) → valV kvs (.inl x) = none
theorem inl_ne {a b : Int} (h : a ≠ b) : (Sum.inl a : Key) ≠ Sum.inl b := fun z => h (Sum.inl.inj z)
theorem SpotsD.next {wd W d e : Nat} {kvs : List (Key × V)} (C : Ck wd W) (O : IsOrder wd W e) (hd : d < e) (h : SpotsD wd W d kvs) : SpotsD wd W (d + 1) (putK kvs (.inl ((pw wd W d : Nat) : Int)) (.int d)) := by
  obtain ⟨h1, h2, h3⟩ := h
  refine ⟨?_, fun i hi => ?_, fun x hx => ?_⟩
  · have := length_putK kvs (.inl ((pw wd W d : Nat) : Int)) (.int d)
    omega
  · rw [valV_put]
    by_cases c : i = d
    · subst c
      rw [if_pos rfl]
    · rw [if_neg (inl_ne fun z => no2 C O (a := i) (b := d) (by omega) hd (by omega))]
      exact h2 i (by omega)
  · rw [valV_put, if_neg (inl_ne fun z => hx d (by omega) z.symm)]
    exact h3 x fun i hi => hx i (by omega)
/-- spots.get(x, 0) of it -/
theorem SpotsD.get {wd W d : Nat} {kvs : List (Key × V)} (h : SpotsD wd W d kvs) (x : Nat) : ∃ i : Nat, (valV kvs (.inl (x : Int))).getD (.int 0) = .int i ∧ ((i < d ∧ pw wd W i = x) ∨ (i = 0 ∧ ∀ j, j < d → pw wd W j ≠ x)) := by
  by_cases c : ∃ i, i < d ∧ pw wd W i = x
  · obtain ⟨i, hi, rfl⟩ := c
    exact ⟨i, by rw [h.2.1 i hi]; rfl, .inl ⟨hi, rfl⟩⟩
  · refine ⟨0, ?_, .inr ⟨rfl, fun j hj z => c ⟨j, hj, z⟩⟩⟩
    rw [h.2.2 x fun i hi z => c ⟨i, hi, by omega⟩]
    rfl
local macro_rules | `(tactic| walk_at "go") => `(tactic| repeat (first | (with_reducible first | refine iteT ?_ | refine iteF ?_ | refine iteNtt ?_ | refine iteNff ?_ | refine iteET (by omega) ?_ | refine iteEF (by omega) ?_ | refine iteENT (by omega) ?_ | refine iteENF (by omega) ?_ | refine iteDT (by omega) ?_ | refine iteDF (by omega) ?_ | refine iteNT (by omega) ?_ | refine iteNF (by omega) ?_) | refine ⟨_, rfl, ?_⟩ | refine ⟨_, _, rfl, rfl, ?_⟩ | refine ⟨_, _, rfl, ?_⟩ | refine ⟨rfl, ?_⟩ | refine .inl ⟨_, rfl, ?_⟩ | refine .inr ⟨_, rfl, ?_⟩))
local macro_rules | `(tactic| walk_at "b") => `(tactic| try dsimp (config := { proj := false, iota := false, eta := false, zeta := false }) only)
section
variable {P : Program} {w : World} {K : PySem.W.Frag} {mg : Str → Option Value} {base : Heap}
def sp_powers_of (C : Addr) : Sp := fun vs H Q _ => ∃ (a : Addr) (wd W : Nat), vs = [.ref a] ∧ CheckAt C H a wd W ∧ ∀ (d : Nat) H' p, IsOrder wd W d → d < 2 ^ wd → Same H H' → H p = none → H' p = some (.lst ((powsL wd W d).map V.int)) → Q (.ref p) H'
theorem G_powers_of (T : Top K mg) : FnOk P w K mg base CX0 3 T.f_powers_of T.fd_powers_of ["check"] (sp_powers_of T.C_Check) := by
  refine T.F_powers_of.ok sc_powers_of (fun vs H Q E h => by obtain ⟨a, wd, W, rfl, _⟩ := h; rfl) (fun cdv A outer s H vs Q E hr h => ?_)
  obtain ⟨a, wd, W, rfl, hC, q⟩ := h
  refine ⟨_, PSs.nox (pss_cons (ps_par (by rfl) sc_powers_of.nd (i := 1) (j := 2) rfl rfl (by decide) rfl rfl (pa_cons (pe_lst (pa_cons pe_int pa_nil)) (pa_cons (pe_call (G_shifted T) (hr.mono (by decide)) (by rfl) T.g_shifted T.F_shifted.kp T.b_shifted .nil pass0 (pa_cons (pv 0) (pa_cons pe_int pa_nil))) pa_nil)) (by rfl))
  (pss_cons (ps_while PassesOwn.never (pt_cmpR op_ne (pv 2) pe_int (nomark _))
    (pss_cons (ps_expr (pe_bm PySem.F.plainAttrs_list PySem.F.slot_list_append PySem.F.type_list_append mt_append (pv 1) (pa_cons (pv 2) pa_nil)))
  (pss_one (ps_set (i := 2) sc_powers_of.nd rfl (by first | exact Or.inl rfl | exact Or.inr rfl) (pe_call (G_shifted T) (hr.mono (by decide)) (by rfl) T.g_shifted T.F_shifted.kp T.b_shifted .nil pass0 (pa_cons (pv 0) (pa_cons (pv 2) pa_nil)))))))
  (pss_one (ps_ret (pv 1))))), ?_⟩
  obtain ⟨hK, hw, dx, ha⟩ := id hC
  have h17 := pow17 hw
  obtain ⟨d, hO, hd⟩ := order_ex hK
  refine ⟨(show 1 ≤ sizeLine by decide), fun p np => ?_⟩
  obtain ⟨H1, e1, s1, h1⟩ := fresh (.lst [V.int 1]) np
  rw [e1]
  have p1 : pw wd W 1 = sh wd W 1 := by rw [pw_succ, pw_zero hK]
  have one_lt : 1 < 2 ^ wd := by
    have := pw_lt hK 0
    rwa [pw_zero hK] at this
  refine ⟨_, rfl, a, wd, W, 1, rfl, hC.same s1, one_lt, ?_⟩
  rw [← p1]
  refine ⟨_, _, rfl, ?_⟩
  refine ⟨fun m σ H2 => ∃ i : Nat, σ = [some (.ref a), some (.ref p), some (.int (pw wd W i))] ∧ m + i = d ∧ 1 ≤ i ∧ Same H H2 ∧ H2 p = some (.lst ((powsL wd W i).map V.int)), ⟨d - 1, 1, rfl, by have := hO.pos; omega, Nat.le_refl _, s1, ?_⟩, ?_⟩
  · rw [h1]
    show _ = some (HO.lst [V.int ((pw wd W 0 : Nat) : Int)])
    rw [pw_zero hK]
    rfl
  rintro m σ H2 ⟨i, rfl, hm, hi, s2, h2⟩
  by_cases c : pw wd W i = 1
  · refine ⟨_, rfl, rfl, _, rfl, iteENF (by rw [c]; rfl) ?_⟩
    have ei : i = d := by
      by_cases z : i < d
      · exact absurd c (hO.ne i (by omega) z)
      · omega
    subst ei
    exact ⟨_, rfl, q i _ p hO hd s2 np h2⟩
  · refine ⟨_, rfl, rfl, _, rfl, iteENT (fun z => c (by omega)) ?_⟩
    have li : i < d := by
      by_cases z : i < d
      · exact z
      · have : i = d := by omega
        subst this
        exact absurd hO.at_ c
    refine ⟨fun σ' H' => ∃ i' : Nat, σ' = [some (.ref a), some (.ref p), some (.int (pw wd W i'))] ∧ i' = i + 1 ∧ Same H H' ∧ H' p = some (.lst ((powsL wd W i').map V.int)), fun σ' H' ⟨i', e1, e2, e3, e4⟩ => ⟨m - 1, by omega, i', e1, by omega, by omega, e3, e4⟩, ?_⟩
    refine ⟨_, rfl, .inl ⟨rfl, _, .inl (.inl h2)⟩, _, rfl, p, _, _, rfl, rfl, h2, by rw [List.length_map, powsL_len]; exact Nat.lt_of_lt_of_le (show i < 65536 by omega) (by decide), ?_⟩
    have s3 : Same H (upd H2 p (.lst ((powsL wd W i).map V.int ++ [V.int (pw wd W i)]))) := same_over np s2
    refine ⟨_, rfl, _, rfl, a, wd, W, pw wd W i, rfl, hC.same s3, pw_lt hK i, ?_⟩
    rw [← pw_succ]
    refine ⟨i + 1, rfl, rfl, s3, ?_⟩
    rw [upd_same, powsL_next, List.map_append]
    rfl
def sp_spots_of (K : PySem.W.Frag) : Sp := fun vs H Q _ => ∃ (a : Addr) (wd W d : Nat), vs = [.ref a] ∧ SqL K H a ((powsL wd W d).map V.int) ∧ Ck wd W ∧ IsOrder wd W d ∧ d ≤ 2048 ∧ ∀ H' p kvs, Same H H' → H p = none → H' p = some (.dK kvs) → SpotsD wd W d kvs → Q (.ref p) H'
theorem G_spots_of (T : Top K mg) : FnOk P w K mg base CX0 1 T.f_spots_of T.fd_spots_of ["powers"] (sp_spots_of K) := by
  refine T.F_spots_of.ok sc_spots_of (fun vs H Q E h => by obtain ⟨a, wd, W, d, rfl, _⟩ := h; rfl) (fun cdv A outer s H vs Q E hr h => ?_)
  obtain ⟨a, wd, W, d, rfl, hA, hK, hO, hd, q⟩ := h
  refine ⟨_, PSs.nox (pss_one (ps_ret (pe_dc (own := [("place", 1), ("value", 2)]) (g := gTup K 2 (gCons (gName 1) (gCons (gName 2) (gNil)))) (tt := tYes) rfl sc_spots_of.nd (k_piE K rfl (by rfl) T.n_enumerate (pa_cons (pv 0) pa_nil)) (blkOk_by (own := [("place", 1), ("value", 2)]) (N := N_spots_of) (sc := defScope s_spots_of) (by decide +kernel)) (fun _ _ _ _ _ => (k_pgT K rfl (by rfl) (pgs_cons (pg_name (i := 1) sc_spots_of.nd rfl (by first | exact Or.inl rfl | exact Or.inr rfl)) (pgs_cons (pg_name (i := 2) sc_spots_of.nd rfl (by first | exact Or.inl rfl | exact Or.inr rfl)) pgs_nil)))) (fun _ _ _ _ _ => pts_nil) (fun _ _ _ _ _ => (pv 2)) (fun _ _ _ _ _ => (pv 1))))), ?_⟩
  have hl : ((powsL wd W d).map V.int).length = d := by rw [List.length_map, powsL_len]
  refine ⟨_, rfl, a, _, rfl, hA, fun D nD => ?_⟩
  refine dc_it (walk_enum (K := K) (a := a) (xs := (powsL wd W d).map V.int)) (fun i H1 => Same H H1 ∧ ∃ kvs, H1 D = some (.dK kvs) ∧ SpotsD wd W i kvs) ⟨same_upd nD, [], upd_same, Nat.le_refl _, fun i hi => absurd hi (by omega), fun x _ => rfl⟩ (fun i H1 _ p => p.1.seq hA) ?_ ?_
  · rintro i x H1 H2 hi ⟨s1, kvs, h1, hS⟩ ⟨t, y, z, rfl, nt, rfl, ey, ez⟩
    cases ey
    rw [hl] at hi
    dsimp only at ez
    rw [List.getElem?_map, powsL_at hi] at ez
    cases ez
    refine ⟨t, _, rfl, .inl (.inl upd_same), rfl, _, _, rfl, _, _, rfl, rfl, rfl, ?_⟩
    unfold tYes
    dsimp only
    rw [if_pos (show true = true from rfl)]
    refine ⟨_, rfl, _, rfl, kvs, .inl _, rfl, same_upd nt _ _ h1, Nat.lt_of_le_of_lt hS.1 (small1000' (by omega)), ?_⟩
    refine ⟨same_over nD (s1.trans (same_upd nt)), _, upd_same, hS.next hK hO hi⟩
  · rintro H1 ⟨s1, kvs, h1, hS⟩
    rw [hl] at hS
    exact q _ D kvs s1 nD h1 hS
def sp_least_of_three (K : PySem.W.Frag) : Sp := fun vs H Q _ => ∃ (a b : Addr) (wd W d : Nat) (kvs : List (Key × V)), vs = [.ref a, .ref b] ∧ SqL K H a ((powsL wd W d).map V.int) ∧ H b = some (.dK kvs) ∧ SpotsD wd W d kvs ∧ ∀ (t : Nat) H', Same H H' → IsFirst (Three wd W) d t → Q (.int t) H'
theorem G_least_of_three (T : Top K mg) : FnOk P w K mg base CX0 1 T.f_least_of_three T.fd_least_of_three ["powers", "spots"] (sp_least_of_three K) := by
  refine T.F_least_of_three.ok sc_least_of_three (fun vs H Q E h => by obtain ⟨a, b, wd, W, d, kvs, rfl, _⟩ := h; rfl) (fun cdv A outer s H vs Q E hr h => ?_)
  obtain ⟨a, b, wd, W, d, kvs, rfl, hA, hB, hS, q⟩ := h
  refine ⟨_, PSs.nox (pss_cons (ps_for PassesOwn.never rfl (k_piE K rfl (by rfl) T.n_enumerate (pa_cons (pv 0) pa_nil)) (k_pgT K rfl (by rfl) (pgs_cons (pg_name (i := 2) sc_least_of_three.nd rfl (by first | exact Or.inl rfl | exact Or.inr rfl)) (pgs_cons (pg_name (i := 3) sc_least_of_three.nd rfl (by first | exact Or.inl rfl | exact Or.inr rfl)) pgs_nil)))
    (pss_one (ps_if (pt_chain op_lt op_lt pe_int (pe_dget2 (hu_of hr) (pv 1) (pe_op op_xor (pv 3) pe_int) pe_int ⟨by rfl, by rfl, by rfl, by rfl⟩) (pv 2))
    (pss_one (ps_ret (pv 2)))
    pss_nil)))
  (pss_one (ps_ret (pe_callB (k_len K rfl) (by rfl) T.n_len (by decide +kernel) (pa_cons (pv 0) pa_nil))))), ?_⟩
  have hl : ((powsL wd W d).map V.int).length = d := by rw [List.length_map, powsL_len]
  refine ⟨_, rfl, a, _, rfl, hA, ?_⟩
  refine for_it (walk_enum (K := K) (a := a) (xs := (powsL wd W d).map V.int)) (fun i σ H1 => ∃ v2 v3, σ = [some (.ref a), some (.ref b), v2, v3] ∧ Same H H1 ∧ ∀ p, p < i → ¬ Three wd W p) ⟨none, none, rfl, Same.refl _, fun p hp => absurd hp (by omega)⟩ (fun i σ H1 _ ⟨_, _, _, s, _⟩ => s.seq hA) ?_ ?_
  · rintro i x σ H1 H2 hi ⟨v2, v3, rfl, s1, hT⟩ ⟨t, y, z, rfl, nt, rfl, ey, ez⟩
    cases ey
    rw [hl] at hi
    dsimp only at ez
    rw [List.getElem?_map, powsL_at hi] at ez
    cases ez
    have s2 := s1.trans (same_upd (o := .tup [V.int (i : Nat), .int (pw wd W i : Nat)]) nt)
    have hb2 := s2 _ _ hB
    refine ⟨t, _, rfl, .inl (.inl upd_same), rfl, _, _, rfl, _, _, rfl, rfl, ?_⟩
    obtain ⟨j, ej, hj⟩ := hS.get (pw wd W i ^^^ 1)
    refine ⟨_, rfl, b, rfl, .inl ⟨kvs, .inl hb2⟩, _, rfl, _, _, rfl, rfl, ?_⟩
    have eb := bx (pw wd W i) 1
    refine ⟨_, DGet.k (k := .inl (Builtin.bitXor ((pw wd W i : Nat) : Int) 1)) hb2, ?_⟩
    have eb' : Builtin.bitXor ((pw wd W i : Nat) : Int) 1 = ((pw wd W i ^^^ 1 : Nat) : Int) := eb
    rw [eb', ej]
    refine ⟨_, _, rfl, rfl, _, rfl, ?_⟩
    have three_iff : Three wd W i ↔ 0 < j ∧ j < i := by
      constructor
      · rintro ⟨q, q0, q1, q2⟩
        rcases hj with ⟨h1, h2⟩ | ⟨h1, h2⟩
        · have a1 := hS.2.1 q (by omega)
          have a2 := hS.2.1 j h1
          rw [q2, ← h2] at a1
          have e := V.int.inj (Option.some.inj (a1.symm.trans a2))
          omega
        · exact absurd q2 (h2 q (by omega))
      · rintro ⟨h0, h1⟩
        rcases hj with ⟨h2, h3⟩ | ⟨h2, h3⟩
        · exact ⟨j, h0, h1, h3⟩
        · omega
    refine ite2 (fun c => ?_) (fun c => ?_)
    · have c1 := of_decide_eq_true c
      refine ⟨_, rfl, _, _, rfl, rfl, _, rfl, ite2 (fun e => ?_) (fun e => ?_)⟩
      · have e1 := of_decide_eq_true e
        refine ⟨_, rfl, q i _ s2 ⟨by omega, hT, fun _ => three_iff.mpr ⟨by omega, by omega⟩⟩⟩
      · have e1 : ¬ (j : Int) < (i : Int) := fun z => e (decide_eq_true z)
        refine ⟨_, _, rfl, s2, fun p hp => ?_⟩
        by_cases z : p < i
        · exact hT p z
        · have : p = i := by omega
          subst this
          intro z2
          have := three_iff.mp z2
          omega
    · have c1 : ¬ (0 : Int) < (j : Int) := fun z => c (decide_eq_true z)
      refine ⟨_, rfl, iteF ?_⟩
      refine ⟨_, _, rfl, s2, fun p hp => ?_⟩
      by_cases z : p < i
      · exact hT p z
      · have : p = i := by omega
        subst this
        intro z2
        have := three_iff.mp z2
        omega
  · rintro σ H1 ⟨v2, v3, rfl, s1, hT⟩
    rw [hl] at hT
    refine ⟨_, rfl, a, _, rfl, .inl (s1.seq hA), ?_⟩
    rw [hl]
    exact q d _ s1 ⟨Nat.le_refl _, hT, fun z => absurd z (by omega)⟩
end
end My

namespace My
open PySem PySem.Spec PyProof.Rows L2 Pre
/-- a dict of the sums of two places below p, and of p with those below j -/
def PairsD (wd W p j : Nat) (kvs : List (Key × V)) : Prop := ∀ x : Nat, (valV kvs (.inl (x : Int))).isSome = true ↔ (∃ o q, 0 < o ∧ o < q ∧ q < p ∧ pw wd W o ^^^ pw wd W q = x) ∨ ∃ o, 0 < o ∧ o < j ∧ pw wd W o ^^^ pw wd W p = x
theorem PairsD.put {wd W p j : Nat} {kvs : List (Key × V)} (h0 : 0 < j) (h : PairsD wd W p j kvs) : PairsD wd W p (j + 1) (putK kvs (.inl ((pw wd W j ^^^ pw wd W p : Nat) : Int)) (.bl true)) := fun x => by
  rw [valV_put]
  by_cases c : (x : Int) = ((pw wd W j ^^^ pw wd W p : Nat) : Int)
  · rw [c, if_pos rfl]
    refine ⟨fun _ => .inr ⟨j, h0, by omega, by omega⟩, fun _ => rfl⟩
  · rw [if_neg (fun z => c (Sum.inl.inj z)), h x]
    constructor
    · rintro (z | ⟨o, h1, h2, h3⟩)
      · exact .inl z
      · exact .inr ⟨o, h1, by omega, h3⟩
    · rintro (z | ⟨o, h1, h2, h3⟩)
      · exact .inl z
      · by_cases e : o = j
        · subst e
          omega
        · exact .inr ⟨o, h1, by omega, h3⟩
theorem PairsD.next {wd W p : Nat} {kvs : List (Key × V)} (h0 : 0 < p) (h : PairsD wd W p p kvs) : PairsD wd W (p + 1) 1 kvs := fun x => by
  rw [h x]
  constructor
  · rintro (⟨o, q, h1, h2, h3, h4⟩ | ⟨o, h1, h2, h3⟩)
    · exact .inl ⟨o, q, h1, h2, by omega, h4⟩
    · exact .inl ⟨o, p, h1, h2, by omega, h3⟩
  · rintro (⟨o, q, h1, h2, h3, h4⟩ | ⟨o, h1, h2, h3⟩)
    · by_cases e : q = p
      · subst e
        exact .inr ⟨o, h1, h2, h4⟩
      · exact .inl ⟨o, q, h1, h2, by omega, h4⟩
    · omega
theorem PairsD.none {wd W : Nat} : PairsD wd W 1 1 [] := fun x => by
  constructor
  · intro h
    cases h
  · rintro (⟨o, q, h1, h2, h3, h4⟩ | ⟨o, h1, h2, h3⟩) <;> omega
theorem PairsD.four {wd W p : Nat} {kvs : List (Key × V)} (h : PairsD wd W p 1 kvs) : (valV kvs (.inl ((pw wd W p ^^^ 1 : Nat) : Int))).isSome = true ↔ Four wd W p := by
  rw [h]
  constructor
  · rintro (z | ⟨o, h1, h2, h3⟩)
    · exact z
    · omega
  · exact fun z => .inl z
local macro_rules | `(tactic| walk_at "go") => `(tactic| repeat (first | (with_reducible first | refine iteT ?_ | refine iteF ?_ | refine iteNtt ?_ | refine iteNff ?_ | refine iteET (by omega) ?_ | refine iteEF (by omega) ?_ | refine iteENT (by omega) ?_ | refine iteENF (by omega) ?_ | refine iteDT (by omega) ?_ | refine iteDF (by omega) ?_ | refine iteNT (by omega) ?_ | refine iteNF (by omega) ?_) | refine ⟨_, rfl, ?_⟩ | refine ⟨_, _, rfl, rfl, ?_⟩ | refine ⟨_, _, rfl, ?_⟩ | refine ⟨rfl, ?_⟩ | refine .inl ⟨_, rfl, ?_⟩ | refine .inr ⟨_, rfl, ?_⟩))
local macro_rules | `(tactic| walk_at "b") => `(tactic| try dsimp (config := { proj := false, iota := false, eta := false, zeta := false }) only)
section
variable {P : Program} {w : World} {K : PySem.W.Frag} {mg : Str → Option Value} {base : Heap}
def sp_least_of_four (K : PySem.W.Frag) : Sp := fun vs H Q _ => ∃ (a : Addr) (wd W d m : Nat), vs = [.ref a, .int m] ∧ SqL K H a ((powsL wd W d).map V.int) ∧ m ≤ d ∧ 1 ≤ m ∧ d ≤ 2048 ∧ ∀ (t : Nat) H', Same H H' → IsFirst (Four wd W) m t → Q (.int t) H'
theorem G_least_of_four (T : Top K mg) : FnOk P w K mg base CX0 1 T.f_least_of_four T.fd_least_of_four ["powers", "most"] (sp_least_of_four K) := by
  refine T.F_least_of_four.ok sc_least_of_four (fun vs H Q E h => by obtain ⟨a, wd, W, d, m, rfl, _⟩ := h; rfl) (fun cdv A outer s H vs Q E hr h => ?_)
  obtain ⟨a, wd, W, d, m, rfl, hA, hm, hm1, hd, q⟩ := h
  refine ⟨_, PSs.nox (pss_cons (ps_set (i := 2) sc_least_of_four.nd rfl (by first | exact Or.inl rfl | exact Or.inr rfl) pe_dnewK)
  (pss_cons (ps_for PassesOwn.never rfl (pi_range2 (by rfl) T.n_range (pa_cons pe_int (pa_cons (pv 1) pa_nil))) (pg_name (i := 3) sc_least_of_four.nd rfl (by first | exact Or.inl rfl | exact Or.inr rfl))
    (pss_cons (ps_if (pt_cmp (pc_din (hu_of hr) (pe_op op_xor (pe_ix (k_ixL K rfl) (pv 0) (pv 3) (fun _ _ => rfl)) pe_int) (pv 2)))
    (pss_one (ps_ret (pv 3)))
    pss_nil)
  (pss_one (ps_for PassesOwn.never rfl (pi_range2 (by rfl) T.n_range (pa_cons pe_int (pa_cons (pv 3) pa_nil))) (pg_name (i := 4) sc_least_of_four.nd rfl (by first | exact Or.inl rfl | exact Or.inr rfl))
    (pss_one (ps_dput (hu_of hr) (pv 2) (pe_op op_xor (pe_ix (k_ixL K rfl) (pv 0) (pv 4) (fun _ _ => rfl)) (pe_ix (k_ixL K rfl) (pv 0) (pv 3) (fun _ _ => rfl))) pe_bl rfl))))))
  (pss_one (ps_ret (pv 1))))), ?_⟩
  refine fun D nD => ?_
  obtain ⟨H1, e1, s1, h1⟩ := fresh (.dK []) nD
  rw [e1]
  refine ⟨_, rfl, 1, m, rfl, ⟨by omega, by omega, by omega, by omega⟩, ?_⟩
  have four0 : ¬ Four wd W 0 := fun ⟨o, q, a1, a2, a3, _⟩ => by omega
  refine for_range (lo := 1) (n := ((m : Int) - 1).toNat) (fun i σ H2 => ∃ v3 v4 kvs, σ = [some (.ref a), some (.int m), some (.ref D), v3, v4] ∧ Same H H2 ∧ H2 D = some (.dK kvs) ∧ kvs.length ≤ 2048 * i ∧ PairsD wd W (i + 1) 1 kvs ∧ ∀ p, p < i + 1 → ¬ Four wd W p) ⟨none, none, [], rfl, s1, h1, by simp, PairsD.none, fun p hp => by rw [show p = 0 by omega]; exact four0⟩ ?_ ?_
  · rintro i σ H2 hi ⟨v3, v4, kvs, rfl, s2, h2, hk, hP, hF⟩
    have hi1 : i + 1 < m := by omega
    have ei : 1 + (i : Int) = ((i + 1 : Nat) : Int) := by omega
    have hA2 := s2.seq hA
    rw [ei]
    have eb : Builtin.bitXor ((pw wd W (i + 1) : Nat) : Int) 1 = ((pw wd W (i + 1) ^^^ 1 : Nat) : Int) := bx (pw wd W (i + 1)) 1
    have hg : DGet H2 D (V.int (Builtin.bitXor ((pw wd W (i + 1) : Nat) : Int) 1)) (valV kvs (.inl ((pw wd W (i + 1) ^^^ 1 : Nat) : Int))) := by
      rw [eb]
      exact DGet.k (k := .inl ((pw wd W (i + 1) ^^^ 1 : Nat) : Int)) h2
    refine ⟨_, rfl, _, rfl, a, _, _, _, rfl, rfl, hA2, powsL_atI (i := i + 1) (by omega), _, _, rfl, rfl, _, rfl, D, _, rfl, hg, _, rfl, ?_⟩
    refine ite2 (fun c => ?_) (fun c => ?_)
    · refine ⟨_, rfl, q (i + 1) _ s2 ⟨by omega, hF, fun _ => hP.four.mp c⟩⟩
    · have c1 : ¬ Four wd W (i + 1) := fun z => c (hP.four.mpr z)
      refine ⟨_, rfl, 1, ((i + 1 : Nat) : Int), rfl, ⟨by omega, by omega, by omega, by omega⟩, ?_⟩
      refine for_range (lo := 1) (n := (((i + 1 : Nat) : Int) - 1).toNat) (fun j σ H3 => ∃ v4 kvs, σ = [some (.ref a), some (.int m), some (.ref D), some (.int (i + 1 : Nat)), v4] ∧ Same H H3 ∧ H3 D = some (.dK kvs) ∧ kvs.length ≤ 2048 * i + j ∧ PairsD wd W (i + 1) (j + 1) kvs) ⟨v4, kvs, rfl, s2, h2, by omega, hP⟩ ?_ ?_
      · rintro j σ H3 hj ⟨v4, kvs, rfl, s3, h3, hk3, hP3⟩
        have hj1 : j < i := by omega
        have ej : 1 + (j : Int) = ((j + 1 : Nat) : Int) := by omega
        have hA3 := s3.seq hA
        rw [ej]
        have hg : DPut H3 D (V.int (Builtin.bitXor ((pw wd W (j + 1) : Nat) : Int) ((pw wd W (i + 1) : Nat) : Int))) (.bl true) (upd H3 D (.dK (putK kvs (.inl ((pw wd W (j + 1) ^^^ pw wd W (i + 1) : Nat) : Int)) (.bl true)))) := by
          rw [bx]
          exact DPut.k (k := .inl ((pw wd W (j + 1) ^^^ pw wd W (i + 1) : Nat) : Int)) h3 (by rw [sizeLine_eq]; omega)
        refine ⟨_, rfl, _, rfl, _, rfl, a, _, _, _, rfl, rfl, hA3, powsL_atI (i := j + 1) (by omega), _, rfl, _, rfl, a, _, _, _, rfl, rfl, hA3, powsL_atI (i := i + 1) (by omega), _, _, rfl, rfl, D, _, rfl, hg, ?_⟩
        refine ⟨_, _, rfl, same_over nD s3, upd_same, ?_, hP3.put (by omega)⟩
        have := length_putK kvs (.inl ((pw wd W (j + 1) ^^^ pw wd W (i + 1) : Nat) : Int)) (.bl true)
        omega
      · rintro σ H3 ⟨v4, kvs, rfl, s3, h3, hk3, hP3⟩
        refine ⟨_, _, kvs, rfl, s3, h3, by omega, ?_, fun p hp => ?_⟩
        · rw [show (((i + 1 : Nat) : Int) - 1).toNat + 1 = i + 1 by omega] at hP3
          exact hP3.next (by omega)
        · by_cases z : p < i + 1
          · exact hF p z
          · rw [show p = i + 1 by omega]
            exact c1
  · rintro σ H2 ⟨v3, v4, kvs, rfl, s2, h2, hk, hP, hF⟩
    refine ⟨_, rfl, q m _ s2 ⟨Nat.le_refl _, fun p hp => hF p (by omega), fun z => absurd z (by omega)⟩⟩
def sp_longest_of (K : PySem.W.Frag) : Sp := fun vs H Q _ => ∃ (a : Addr) (wd W d few : Nat), vs = [.ref a, .int few] ∧ SqL K H a ((powsL wd W d).map V.int) ∧ Ck wd W ∧ IsOrder wd W d ∧ d ≤ 2048 ∧ 3 ≤ few ∧ few ≤ 5 ∧ ∀ (t : Nat) H', Same H H' → IsLongest wd W few t → Q (.int t) H'
theorem G_longest_of (T : Top K mg) : FnOk P w K mg base CX0 2 T.f_longest_of T.fd_longest_of ["powers", "few"] (sp_longest_of K) := by
  refine T.F_longest_of.ok sc_longest_of (fun vs H Q E h => by obtain ⟨a, wd, W, d, few, rfl, _⟩ := h; rfl) (fun cdv A outer s H vs Q E hr h => ?_)
  obtain ⟨a, wd, W, d, few, rfl, hA, hK, hO, hd, hf3, hf5, q⟩ := h
  refine ⟨_, PSs.nox (pss_cons (ps_set (i := 2) sc_longest_of.nd rfl (by first | exact Or.inl rfl | exact Or.inr rfl) (pe_callB (k_len K rfl) (by rfl) T.n_len (by decide +kernel) (pa_cons (pv 0) pa_nil)))
  (pss_cons (ps_if (pt_cmpR op_gt (pv 1) pe_int (nomark _))
    (pss_one (ps_set (i := 2) sc_longest_of.nd rfl (by first | exact Or.inl rfl | exact Or.inr rfl) (pe_callB (call_min2 rfl) (by rfl) T.n_min (by decide +kernel) (pa_cons (pv 2) (pa_cons (pe_call (G_least_of_three T) (hr.mono (by decide)) (by rfl) T.g_least_of_three T.F_least_of_three.kp T.b_least_of_three .nil pass0 (pa_cons (pv 0) (pa_cons (pe_call (G_spots_of T) (hr.mono (by decide)) (by rfl) T.g_spots_of T.F_spots_of.kp T.b_spots_of .nil pass0 (pa_cons (pv 0) pa_nil)) pa_nil))) pa_nil)))))
    pss_nil)
  (pss_one (ps_ret (pe_ifExp (pt_cmpR op_gt (pv 1) pe_int (nomark _)) (pe_call (G_least_of_four T) (hr.mono (by decide)) (by rfl) T.g_least_of_four T.F_least_of_four.kp T.b_least_of_four .nil pass0 (pa_cons (pv 0) (pa_cons (pv 2) pa_nil))) (pv 2)))))), ?_⟩
  have hl : ((powsL wd W d).map V.int).length = d := by rw [List.length_map, powsL_len]
  refine ⟨_, rfl, a, _, rfl, .inl hA, ?_⟩
  rw [hl]
  by_cases c3 : few = 3
  · subst c3
    refine ⟨_, rfl, _, _, rfl, rfl, _, rfl, iteDF (by omega) ?_⟩
    refine ⟨_, rfl, _, _, rfl, rfl, _, rfl, iteDF (by omega) ?_⟩
    exact ⟨_, rfl, q d _ (Same.refl _) (.inl ⟨rfl, hO⟩)⟩
  · refine ⟨_, rfl, _, _, rfl, rfl, _, rfl, iteDT (by omega) ?_⟩
    refine ⟨_, rfl, _, rfl, _, rfl, a, wd, W, d, rfl, hA, hK, hO, hd, fun H1 p kvs s1 np h1 hS => ?_⟩
    refine ⟨a, p, wd, W, d, kvs, rfl, s1.seq hA, h1, hS, fun t H2 s2 hT => ?_⟩
    have s12 := s1.trans s2
    refine ⟨_, _, rfl, ?_⟩
    have em : (if (t : Int) < (d : Int) then (t : Int) else (d : Int)) = (t : Int) := by have := hT.le; omega
    rw [em]
    by_cases c4 : few = 4
    · subst c4
      refine ⟨_, rfl, _, _, rfl, rfl, _, rfl, iteDF (by omega) ?_⟩
      exact ⟨_, rfl, q t _ s12 (.inr (.inl ⟨rfl, d, hO, hT⟩))⟩
    · have c5 : few = 5 := by omega
      subst c5
      refine ⟨_, rfl, _, _, rfl, rfl, _, rfl, iteDT (by omega) ?_⟩
      have t1 : 1 ≤ t := by
        by_cases z : t = 0
        · subst z
          obtain ⟨x, x0, x1, _⟩ := hT.at_ (by have := hO.pos; omega)
          omega
        · omega
      refine ⟨_, rfl, _, rfl, a, wd, W, d, t, rfl, s12.seq hA, hT.le, t1, hd, fun u H3 s3 hU => ?_⟩
      exact q u _ (s12.trans s3) (.inr (.inr ⟨rfl, d, t, hO, hT, hU⟩))
def sp_longest (C : Addr) : Sp := fun vs H Q _ => ∃ (a : Addr) (wd W few : Nat), vs = [.ref a, .int few] ∧ CheckAt C H a wd W ∧ (∀ d, IsOrder wd W d → d ≤ 2048) ∧ 3 ≤ few ∧ few ≤ 5 ∧ ∀ (t : Nat) H', Same H H' → IsLongest wd W few t → Q (.int t) H'
theorem G_longest (T : Top K mg) : FnOk P w K mg base CX0 4 T.f_longest T.fd_longest ["check", "few"] (sp_longest T.C_Check) := by
  refine T.F_longest.ok sc_longest (fun vs H Q E h => by obtain ⟨a, wd, W, few, rfl, _⟩ := h; rfl) (fun cdv A outer s H vs Q E hr h => ?_)
  obtain ⟨a, wd, W, few, rfl, hC, hd, hf3, hf5, q⟩ := h
  refine ⟨_, PSs.nox (pss_cons (ps_expr (pe_call (G_check_check T) (hr.mono (by decide)) (by rfl) T.g_check_check T.F_check_check.kp T.b_check_check .nil pass0 (pa_cons (pv 0) pa_nil)))
  (pss_cons (ps_expr (pe_call (G_check_number T) (hr.mono (by decide)) (by rfl) T.g_check_number T.F_check_number.kp T.b_check_number .nil pass0 (pa_cons (pv 1) (pa_cons pe_int (pa_cons pe_int pa_nil)))))
  (pss_one (ps_ret (pe_call (G_longest_of T) (hr.mono (by decide)) (by rfl) T.g_longest_of T.F_longest_of.kp T.b_longest_of .nil pass0 (pa_cons (pe_call (G_powers_of T) (hr.mono (by decide)) (by rfl) T.g_powers_of T.F_powers_of.kp T.b_powers_of .nil pass0 (pa_cons (pv 0) pa_nil)) (pa_cons (pv 1) pa_nil))))))), ?_⟩
  refine ⟨_, rfl, a, wd, W, rfl, hC, ?_⟩
  refine ⟨_, rfl, few, 3, some 5, rfl, by omega, (fun j h => by cases h; omega), ?_⟩
  refine ⟨_, rfl, a, wd, W, rfl, hC, fun d H1 p hO hd2 s1 np h1 => ?_⟩
  refine ⟨_, rfl, p, wd, W, d, few, rfl, .inl (.inl h1), hC.1, hO, hd d hO, hf3, hf5, fun t H2 s2 hL => ?_⟩
  exact q t _ (s1.trans s2) hL
end
end My

namespace My
section
variable {w W : Nat} (C : Ck w W)
theorem first_ex (P : Nat → Prop) (n : Nat) : ∃ t, IsFirst P n t := by
  induction n with
  | zero => exact ⟨0, Nat.le_refl _, fun p h => absurd h (by omega), fun h => absurd h (by omega)⟩
  | succ n ih =>
    obtain ⟨t, h1, h2, h3⟩ := ih
    by_cases c : t < n
    · exact ⟨t, by omega, h2, fun _ => h3 c⟩
    · have e : t = n := by omega
      subst e
      by_cases d : P t
      · exact ⟨t, by omega, h2, fun _ => d⟩
      · exact ⟨t + 1, Nat.le_refl _, fun p hp => by
          by_cases z : p < t
          · exact h2 p z
          · rw [show p = t by omega]; exact d, fun h => absurd h (by omega)⟩
/-- the order, the first three, the first four -/
def Bounds (w W d t f : Nat) : Prop := IsOrder w W d ∧ IsFirst (Three w W) d t ∧ IsFirst (Four w W) t f
theorem bounds_ex (C : Ck w W) : ∃ d t f, Bounds w W d t f := by
  obtain ⟨d, hd, _⟩ := order_ex C
  obtain ⟨t, ht⟩ := first_ex (Three w W) d
  obtain ⟨f, hf⟩ := first_ex (Four w W) t
  exact ⟨d, t, f, hd, ht, hf⟩
theorem bounds_longest {d t f few L : Nat} (h : Bounds w W d t f) (hL : IsLongest w W few L) : (few = 3 ∧ L = d) ∨ (few = 4 ∧ L = t) ∨ (few = 5 ∧ L = f) := by
  rcases hL with ⟨e, a⟩ | ⟨e, d', a, a1⟩ | ⟨e, d', t', a, a1, a2⟩
  · exact .inl ⟨e, order_uniq a h.1⟩
  · cases order_uniq a h.1
    exact .inr (.inl ⟨e, first_uniq a1 h.2.1⟩)
  · cases order_uniq a h.1
    cases first_uniq a1 h.2.1
    exact .inr (.inr ⟨e, first_uniq a2 h.2.2⟩)
def distF (d t f n : Nat) : Option Nat := if d < n then some 2 else if t < n then some 3 else if f < n then some 4 else none
include C
theorem pw_add (k : Nat) {i j : Nat} (h : pw w W i = pw w W j) : pw w W (i + k) = pw w W (j + k) := by
  rw [← shn_pw, ← shn_pw, h]
theorem pw_mod {d : Nat} (O : IsOrder w W d) (n : Nat) : pw w W n = pw w W (n % d) := by
  induction n using Nat.strongRecOn with
  | _ n ih =>
    by_cases h : n < d
    · rw [Nat.mod_eq_of_lt h]
    · have hp := O.pos
      have e := pw_add C (n - d) (i := d) (j := 0) (by rw [O.at_, pw_zero C])
      rw [show d + (n - d) = n by omega, Nat.zero_add] at e
      rw [e, ih (n - d) (by omega)]
      congr 1
      exact (Nat.mod_eq_sub_mod (by omega)).symm
theorem pw_same {d : Nat} (O : IsOrder w W d) (a k : Nat) : pw w W a = pw w W (a + k) ↔ k % d = 0 := by
  have hp := O.pos
  constructor
  · intro h
    have := pw_back C (a := 0) (b := k) (k := a) (by rw [Nat.zero_add, Nat.add_comm k a]; exact h)
    rw [pw_zero C, pw_mod C O k] at this
    by_cases z : k % d = 0
    · exact z
    · exact absurd this.symm (O.ne _ (by omega) (Nat.mod_lt _ (by omega)))
  · intro h
    have : pw w W 0 = pw w W k := by rw [pw_mod C O k, h]
    have := pw_add C a this
    rw [Nat.zero_add, Nat.add_comm] at this
    exact this
/-! ### the first ones -/
omit C in
structure First3 (w W n o q : Nat) : Prop where
  h0 : 0 < o
  h1 : o < q
  h2 : q < n
  at_ : pw w W q = pw w W o ^^^ 1
  ne : ∀ o', 0 < o' → o' < o → ¬ ∃ q', o' < q' ∧ q' < n ∧ pw w W q' = pw w W o' ^^^ 1
omit C in
structure First4 (w W n o q l : Nat) : Prop where
  h0 : 0 < o
  h1 : o < q
  h2 : q < l
  h3 : l < n
  at_ : pw w W l = pw w W o ^^^ pw w W q ^^^ 1
  ne : ∀ o' q', 0 < o' → o' < q' → (o' < o ∨ (o' = o ∧ q' < q)) → ¬ ∃ l', q' < l' ∧ l' < n ∧ pw w W l' = pw w W o' ^^^ pw w W q' ^^^ 1
theorem first3_uniq {d n o q o' q' : Nat} (O : IsOrder w W d) (hn : n ≤ d) (a : First3 w W n o q) (b : First3 w W n o' q') : o = o' ∧ q = q' := by
  have e : o = o' := by
    rcases Nat.lt_trichotomy o o' with h | h | h
    · exact absurd ⟨q, a.h1, a.h2, a.at_⟩ (b.ne o a.h0 h)
    · exact h
    · exact absurd ⟨q', b.h1, b.h2, b.at_⟩ (a.ne o' b.h0 h)
  subst e
  have := a.h2
  have := b.h2
  exact ⟨rfl, pw_inj C O (by omega) (by omega) (by rw [a.at_, b.at_])⟩
theorem first4_uniq {d n o q l o' q' l' : Nat} (O : IsOrder w W d) (hn : n ≤ d) (a : First4 w W n o q l) (b : First4 w W n o' q' l') : o = o' ∧ q = q' ∧ l = l' := by
  have e : o = o' ∧ q = q' := by
    rcases Nat.lt_trichotomy o o' with h | h | h
    · exact absurd ⟨l, a.h2, a.h3, a.at_⟩ (b.ne o q a.h0 a.h1 (.inl h))
    · rcases Nat.lt_trichotomy q q' with k | k | k
      · exact absurd ⟨l, a.h2, a.h3, a.at_⟩ (b.ne o q a.h0 a.h1 (.inr ⟨h, k⟩))
      · exact ⟨h, k⟩
      · exact absurd ⟨l', b.h2, b.h3, b.at_⟩ (a.ne o' q' b.h0 b.h1 (.inr ⟨h.symm, k⟩))
    · exact absurd ⟨l', b.h2, b.h3, b.at_⟩ (a.ne o' q' b.h0 b.h1 (.inl h))
  obtain ⟨rfl, rfl⟩ := e
  have := a.h3
  have := b.h3
  exact ⟨rfl, rfl, pw_inj C O (by omega) (by omega) (by rw [a.at_, b.at_])⟩
omit C in
theorem three_some {d t f n : Nat} (h : Bounds w W d t f) (ht : t < n) (hn : n ≤ d) : ∃ o q, 0 < o ∧ o < q ∧ q < n ∧ pw w W q = pw w W o ^^^ 1 := by
  obtain ⟨q, h1, h2, h3⟩ := h.2.1.at_ (by omega)
  refine ⟨q, t, h1, h2, ht, ?_⟩
  rw [h3, Nat.xor_assoc, Nat.xor_self, Nat.xor_zero]
omit C in
theorem four_some {d t f n : Nat} (h : Bounds w W d t f) (hf : f < n) (hn : n ≤ t) : ∃ o q l, 0 < o ∧ o < q ∧ q < l ∧ l < n ∧ pw w W l = pw w W o ^^^ pw w W q ^^^ 1 := by
  obtain ⟨o, q, h1, h2, h3, h4⟩ := h.2.2.at_ (by omega)
  refine ⟨o, q, f, h1, h2, h3, hf, ?_⟩
  rw [h4, Nat.xor_assoc, Nat.xor_self, Nat.xor_zero]
omit C in
/-- what is told of the first unseen ones -/
def LeastUn (w W d t f n : Nat) : Option (List Nat) → Prop
  | none => distF d t f n = none
  | some xs => (distF d t f n = some 2 ∧ xs = [0, d]) ∨ (distF d t f n = some 3 ∧ ∃ o q, First3 w W n o q ∧ xs = [0, o, q]) ∨ (distF d t f n = some 4 ∧ ∃ o q l, First4 w W n o q l ∧ xs = [0, o, q, l])
omit C in
theorem dist_cases {d t f n : Nat} : (distF d t f n = some 2 ∧ d < n) ∨ (distF d t f n = some 3 ∧ n ≤ d ∧ t < n) ∨ (distF d t f n = some 4 ∧ n ≤ d ∧ n ≤ t ∧ f < n) ∨ (distF d t f n = none ∧ n ≤ d ∧ n ≤ t ∧ n ≤ f) := by
  unfold distF
  by_cases a : d < n
  · exact .inl ⟨if_pos a, a⟩
  · by_cases b : t < n
    · exact .inr (.inl ⟨by rw [if_neg a, if_pos b], by omega, b⟩)
    · by_cases c : f < n
      · exact .inr (.inr (.inl ⟨by rw [if_neg a, if_neg b, if_pos c], by omega, by omega, c⟩))
      · exact .inr (.inr (.inr ⟨by rw [if_neg a, if_neg b, if_neg c], by omega, by omega, by omega⟩))
theorem least_uniq {d t f n : Nat} (O : IsOrder w W d) {x y : Option (List Nat)} (a : LeastUn w W d t f n x) (b : LeastUn w W d t f n y) : x = y := by
  cases x with
  | none =>
    cases y with
    | none => rfl
    | some ys =>
      have a' : distF d t f n = none := a
      rcases b with ⟨b, _⟩ | ⟨b, _⟩ | ⟨b, _⟩ <;> rw [a'] at b <;> cases b
  | some xs =>
    cases y with
    | none =>
      have b' : distF d t f n = none := b
      rcases a with ⟨a, _⟩ | ⟨a, _⟩ | ⟨a, _⟩ <;> rw [b'] at a <;> cases a
    | some ys =>
      rcases a with ⟨a, rfl⟩ | ⟨a, o, q, h, rfl⟩ | ⟨a, o, q, l, h, rfl⟩ <;> rcases b with ⟨b, rfl⟩ | ⟨b, o', q', k, rfl⟩ | ⟨b, o', q', l', k, rfl⟩ <;> rw [a] at b <;> first | (cases b; done) | skip
      · have hn : n ≤ d := by rcases dist_cases (d := d) (t := t) (f := f) (n := n) with z | z | z | z <;> first | (rw [a] at z; cases z.1; done) | exact z.2.1
        obtain ⟨rfl, rfl⟩ := first3_uniq C O hn h k
        rfl
      · have hn : n ≤ d := by rcases dist_cases (d := d) (t := t) (f := f) (n := n) with z | z | z | z <;> first | (rw [a] at z; cases z.1; done) | exact z.2.1
        obtain ⟨rfl, rfl, rfl⟩ := first4_uniq C O hn h k
        rfl
/-- it is unseen, and rises -/
theorem least_unseen_zero {d t f n : Nat} (B : Bounds w W d t f) {xs : List Nat} (h : LeastUn w W d t f n (some xs)) : valP w W xs = 0 ∧ xs.Pairwise (· < ·) ∧ xs.length ≤ 4 ∧ ∀ x ∈ xs, x ≤ d := by
  have hp := B.1.pos
  have hc := dist_cases (d := d) (t := t) (f := f) (n := n)
  rcases h with ⟨a, rfl⟩ | ⟨a, o, q, h, rfl⟩ | ⟨a, o, q, l, h, rfl⟩
  · refine ⟨?_, by simp; omega, by simp, fun x hx => ?_⟩
    · simp [valP, pw_zero C, B.1.at_]
    · simp at hx; omega
  · have hn : n ≤ d := by rcases hc with z | z | z | z <;> first | (rw [a] at z; cases z.1; done) | exact z.2.1
    have h0 := h.h0
    have h1 := h.h1
    have h2 := h.h2
    refine ⟨?_, by simp; omega, by simp, fun x hx => ?_⟩
    · simp only [valP, List.foldl_cons, List.foldl_nil, pw_zero C, h.at_, Nat.zero_xor]
      rw [show (1 ^^^ pw w W o ^^^ (pw w W o ^^^ 1)) = (1 ^^^ 1) ^^^ (pw w W o ^^^ pw w W o) by ac_rfl, Nat.xor_self, Nat.xor_self]
      rfl
    · simp at hx; omega
  · have hn : n ≤ d := by rcases hc with z | z | z | z <;> first | (rw [a] at z; cases z.1; done) | exact z.2.1
    have h0 := h.h0
    have h1 := h.h1
    have h2 := h.h2
    have h3 := h.h3
    refine ⟨?_, by simp; omega, by simp, fun x hx => ?_⟩
    · simp only [valP, List.foldl_cons, List.foldl_nil, pw_zero C, h.at_, Nat.zero_xor]
      rw [show (1 ^^^ pw w W o ^^^ pw w W q ^^^ (pw w W o ^^^ pw w W q ^^^ 1)) = (1 ^^^ 1) ^^^ (pw w W o ^^^ pw w W o) ^^^ (pw w W q ^^^ pw w W q) by ac_rfl]
      simp only [Nat.xor_self]
    · simp at hx; omega
end
end My

namespace My
open PySem PySem.Spec PyProof.Rows L2 Pre
def optV : Option Nat → V
  | some k => .int k
  | none => .non
theorem spot_cond {wd W d n j x q : Nat} (C : Ck wd W) (O : IsOrder wd W d) (hn : n ≤ d) (hj : (j < d ∧ pw wd W j = x) ∨ (j = 0 ∧ ∀ i, i < d → pw wd W i ≠ x)) : (q < j ∧ j < n) ↔ ∃ l, q < l ∧ l < n ∧ pw wd W l = x := by
  constructor
  · rintro ⟨h1, h2⟩
    rcases hj with ⟨h3, h4⟩ | ⟨h3, _⟩
    · exact ⟨j, h1, h2, h4⟩
    · omega
  · rintro ⟨l, h1, h2, h3⟩
    rcases hj with ⟨h4, h5⟩ | ⟨_, h5⟩
    · have := pw_inj C O (a := l) (b := j) (by omega) h4 (by rw [h3, h5])
      omega
    · exact absurd h3 (h5 l (by omega))
def onesN (n k : Nat) : List Nat := (List.range k).filter fun i => n.testBit i
theorem ones_sel (n k : Nat) : ((List.range k).map fun i => if n.testBit i = true then some (V.int (i : Int)) else none).filterMap id = (natI (onesN n k)).map V.int := by
  unfold onesN natI
  induction List.range k with
  | nil => rfl
  | cons i l ih =>
    by_cases c : n.testBit i = true
    · rw [List.map_cons, if_pos c, List.filter_cons_of_pos c, List.map_cons, List.map_cons, ← ih]
      rfl
    · rw [List.map_cons, if_neg c, List.filter_cons_of_neg c, ← ih]
      rfl
theorem bit_int (n i : Nat) : Builtin.bitAnd ((n : Int) / 2 ^ ((i : Int)).toNat) 1 = (((n.testBit i).toNat : Nat) : Int) := by
  rw [shrI, and1, Nat.toNat_testBit, Nat.shiftRight_eq_div_pow]
theorem bit_mod (n i : Nat) : (n : Int) / 2 ^ ((i : Int)).toNat % 2 = (((n.testBit i).toNat : Nat) : Int) := by
  rw [shrI, Nat.toNat_testBit, Nat.shiftRight_eq_div_pow]
  omega
def No4 (wd W n : Nat) : Prop := ∀ o q, 0 < o → o < q → ¬ ∃ l, q < l ∧ l < n ∧ pw wd W l = pw wd W o ^^^ pw wd W q ^^^ 1
local macro_rules | `(tactic| walk_at "go") => `(tactic| repeat (first | (with_reducible first | refine iteT ?_ | refine iteF ?_ | refine iteNtt ?_ | refine iteNff ?_ | refine iteET (by omega) ?_ | refine iteEF (by omega) ?_ | refine iteENT (by omega) ?_ | refine iteENF (by omega) ?_ | refine iteDT (by omega) ?_ | refine iteDF (by omega) ?_ | refine iteNT (by omega) ?_ | refine iteNF (by omega) ?_) | refine ⟨_, rfl, ?_⟩ | refine ⟨_, _, rfl, rfl, ?_⟩ | refine ⟨_, _, rfl, ?_⟩ | refine ⟨rfl, ?_⟩ | refine .inl ⟨_, rfl, ?_⟩ | refine .inr ⟨_, rfl, ?_⟩))
local macro_rules | `(tactic| walk_at "b") => `(tactic| try dsimp (config := { proj := false, iota := false, eta := false, zeta := false }) only)
section
variable {P : Program} {w : World} {K : PySem.W.Frag} {mg : Str → Option Value} {base : Heap}
def sp_unseen (C : Addr) (K : PySem.W.Frag) : Sp := fun vs H Q _ => ∃ (a b : Addr) (wd W : Nat) (ts : List Nat), vs = [.ref a, .ref b] ∧ CheckAt C H a wd W ∧ H b = some (.lst ((natI ts).map V.int)) ∧ Rising ts ∧ ∀ H', Same H H' → Q (.bl (decide (valP wd W ts = 0))) H'
theorem G_unseen (T : Top K mg) : FnOk P w K mg base CX0 6 T.f_unseen T.fd_unseen ["check", "places"] (sp_unseen T.C_Check K) := by
  refine T.F_unseen.ok sc_unseen (fun vs H Q E h => by obtain ⟨a, b, wd, W, ts, rfl, _⟩ := h; rfl) (fun cdv A outer s H vs Q E hr h => ?_)
  obtain ⟨a, b, wd, W, ts, rfl, hC, hB, hR, q⟩ := h
  refine ⟨_, PSs.nox (pss_cons (ps_expr (pe_call (G_check_check T) (hr.mono (by decide)) (by rfl) T.g_check_check T.F_check_check.kp T.b_check_check .nil pass0 (pa_cons (pv 0) pa_nil)))
  (pss_cons (ps_expr (pe_call (G_check_places T) (hr.mono (by decide)) (by rfl) T.g_check_places T.F_check_places.kp T.b_check_places .nil pass0 (pa_cons (pv 1) pa_nil)))
  (pss_one (ps_ret (pe_cmpR op_eq (pe_call (G_sum_at T) (hr.mono (by decide)) (by rfl) T.g_sum_at T.F_sum_at.kp T.b_sum_at .nil pass0 (pa_cons (pv 0) (pa_cons (pv 1) pa_nil))) pe_int (nomark _)))))), ?_⟩
  refine ⟨_, rfl, a, wd, W, rfl, hC, ?_⟩
  refine ⟨_, rfl, b, ts, rfl, hB, hR, fun H1 s1 => ?_⟩
  refine ⟨_, rfl, _, rfl, a, b, wd, W, ts, rfl, hC.same s1, .inl (.inl (s1 _ _ hB)), rfl, ?_⟩
  have e := dec_nat (valP wd W ts) 0
  have z := q _ s1
  rw [← e] at z
  exact z
def sp_order (C : Addr) : Sp := fun vs H Q _ => ∃ (a : Addr) (wd W : Nat), vs = [.ref a] ∧ CheckAt C H a wd W ∧ ∀ (d : Nat) H', Same H H' → IsOrder wd W d → Q (.int d) H'
def sp_distance (C : Addr) (K : PySem.W.Frag) : Sp := fun vs H Q _ => ∃ (a : Addr) (wd W n d t f : Nat), vs = [.ref a, .int n] ∧ CheckAt C H a wd W ∧ Bounds wd W d t f ∧ d ≤ 2048 ∧ n ≤ 10 ^ 18 ∧ ∀ H', Same H H' → Q (optV (distF d t f n)) H'
theorem G_distance (T : Top K mg) : FnOk P w K mg base CX0 4 T.f_distance T.fd_distance ["check", "many"] (sp_distance T.C_Check K) := by
  refine T.F_distance.ok sc_distance (fun vs H Q E h => by obtain ⟨a, wd, W, n, d, t, f, rfl, _⟩ := h; rfl) (fun cdv A outer s H vs Q E hr h => ?_)
  obtain ⟨a, wd, W, n, d, t, f, rfl, hC, hB, hd, hn, q⟩ := h
  refine ⟨_, PSs.nox (pss_cons (ps_expr (pe_call (G_check_check T) (hr.mono (by decide)) (by rfl) T.g_check_check T.F_check_check.kp T.b_check_check .nil pass0 (pa_cons (pv 0) pa_nil)))
  (pss_cons (ps_expr (pe_call (G_check_number T) (hr.mono (by decide)) (by rfl) T.g_check_number T.F_check_number.kp T.b_check_number .nil pass0 (pa_cons (pv 1) (pa_cons pe_int (pa_cons (pe_glob (v := .int 1000000000000000000) rfl T.m_MOST_PLACE ⟨_, rfl⟩) pa_nil)))))
  (pss_cons (ps_set (i := 2) sc_distance.nd rfl (by first | exact Or.inl rfl | exact Or.inr rfl) (pe_call (G_powers_of T) (hr.mono (by decide)) (by rfl) T.g_powers_of T.F_powers_of.kp T.b_powers_of .nil pass0 (pa_cons (pv 0) pa_nil)))
  (pss_cons (ps_for PassesOwn.never rfl (k_piT K rfl (pe_tup (pa_cons pe_int (pa_cons pe_int (pa_cons pe_int pa_nil))))) (pg_name (i := 3) sc_distance.nd rfl (by first | exact Or.inl rfl | exact Or.inr rfl))
    (pss_one (ps_if (pt_cmpR op_gt (pv 1) (pe_call (G_longest_of T) (hr.mono (by decide)) (by rfl) T.g_longest_of T.F_longest_of.kp T.b_longest_of .nil pass0 (pa_cons (pv 2) (pa_cons (pv 3) pa_nil))) (nomark _))
    (pss_one (ps_ret (pe_op op_sub (pv 3) pe_int)))
    pss_nil)))
  (pss_one (ps_ret pe_non)))))), ?_⟩
  refine ⟨_, rfl, a, wd, W, rfl, hC, ?_⟩
  refine ⟨_, rfl, n, 0, some 1000000000000000000, rfl, by omega, (fun j h => by cases h; omega), ?_⟩
  refine ⟨_, rfl, a, wd, W, rfl, hC, fun d' H1 p hO hd' s1 np h1 => ?_⟩
  have ed : d' = d := order_uniq hO hB.1
  subst ed
  have hK := hC.1
  have lt := hB.2.1.le
  have lf := hB.2.2.le
  refine ⟨(show 3 ≤ sizeLine by decide), fun tp ntp => ?_⟩
  obtain ⟨H2, e2, s2, h2⟩ := fresh (.tup [V.int 3, V.int 4, V.int 5]) ntp
  rw [e2]
  have s12 := s1.trans s2
  refine ⟨tp, rfl, ⟨_, .inl (.inl h2)⟩, for_tup (K := K) (a := tp) (xs := [V.int 3, V.int 4, V.int 5]) (fun i σ H3 => ∃ v3, σ = [some (.ref a), some (.int n), some (.ref p), v3] ∧ Same H2 H3 ∧ (0 < i → n ≤ d') ∧ (1 < i → n ≤ t) ∧ (2 < i → n ≤ f)) ⟨none, rfl, Same.refl _, by omega, by omega, by omega⟩ (fun i σ H3 _ ⟨_, _, s, _⟩ => .inl (.inl (s _ _ h2))) ?_ ?_⟩
  · rintro i x σ H3 hx ⟨v3, rfl, s3, n0, n1, n2⟩
    have s13 := s2.trans s3
    have hp3 : SqL K H3 p ((powsL wd W d').map V.int) := .inl (.inl (s13 _ _ h1))
    obtain ⟨few, bound, f3, f5, rfl, hL, hlt, hge⟩ : ∃ few bound : Nat, 3 ≤ few ∧ few ≤ 5 ∧ x = .int (few : Int) ∧ (∀ L, IsLongest wd W few L → L = bound) ∧ (bound < n → distF d' t f n = some (few - 1)) ∧ (n ≤ bound → ((0 < i + 1 → n ≤ d') ∧ (1 < i + 1 → n ≤ t) ∧ (2 < i + 1 → n ≤ f))) := by
      match i, hx, n0, n1, n2 with
      | 0, hx, n0, n1, n2 =>
        cases hx
        refine ⟨3, d', by decide, by decide, rfl, fun L h => ?_, fun h => if_pos h, fun h => ⟨fun _ => h, by omega, by omega⟩⟩
        rcases bounds_longest hB h with z | z | z <;> omega
      | 1, hx, n0, n1, n2 =>
        cases hx
        have := n0 (by omega)
        refine ⟨4, t, by decide, by decide, rfl, fun L h => ?_, fun h => by unfold distF; rw [if_neg (by omega), if_pos h], fun h => ⟨fun _ => this, fun _ => h, by omega⟩⟩
        rcases bounds_longest hB h with z | z | z <;> omega
      | 2, hx, n0, n1, n2 =>
        cases hx
        have h0 := n0 (by omega)
        have h1 := n1 (by omega)
        refine ⟨5, f, by decide, by decide, rfl, fun L h => ?_, fun h => by unfold distF; rw [if_neg (by omega), if_neg (by omega), if_pos h], fun h => ⟨fun _ => h0, fun _ => h1, fun _ => h⟩⟩
        rcases bounds_longest hB h with z | z | z <;> omega
      | k + 3, hx, _, _, _ => simp at hx
    refine ⟨_, rfl, _, rfl, _, rfl, p, wd, W, d', few, rfl, hp3, hK, hO, hd, f3, f5, fun L H4 s4 hLo => ?_⟩
    rw [hL L hLo]
    refine ⟨_, _, rfl, rfl, _, rfl, ?_⟩
    by_cases c : bound < n
    · refine iteDT (by omega) ?_
      have z := q _ (s12.trans (s3.trans s4))
      rw [hlt c] at z
      refine ⟨_, rfl, _, _, rfl, rfl, ?_⟩
      have e1 : (few : Int) - 1 = ((few - 1 : Nat) : Int) := by omega
      dsimp only
      rw [e1]
      exact z
    · refine iteDF (by omega) ?_
      exact ⟨_, rfl, s3.trans s4, hge (by omega)⟩
  · rintro σ H3 ⟨v3, rfl, s3, n0, n1, n2⟩
    have e : distF d' t f n = none := by
      have := n0 (by simp)
      have := n1 (by simp)
      have := n2 (by simp)
      unfold distF
      rw [if_neg (by omega), if_neg (by omega), if_neg (by omega)]
    have z := q _ (s12.trans s3)
    rw [e] at z
    exact z
def sp_first_four (K : PySem.W.Frag) : Sp := fun vs H Q _ => ∃ (a b : Addr) (wd W d n : Nat) (kvs : List (Key × V)), vs = [.ref a, .ref b, .int n] ∧ SqL K H a ((powsL wd W d).map V.int) ∧ H b = some (.dK kvs) ∧ SpotsD wd W d kvs ∧ Ck wd W ∧ IsOrder wd W d ∧ n ≤ d ∧ d ≤ 2048 ∧
  (∀ H' p o q l, Same H H' → H p = none → First4 wd W n o q l → H' p = some (.lst ((natI [0, o, q, l]).map V.int)) → Q (.ref p) H') ∧ (∀ H', Same H H' → No4 wd W n → Q .non H')
theorem G_first_four (T : Top K mg) : FnOk P w K mg base CX0 1 T.f_first_four T.fd_first_four ["powers", "spots", "many"] (sp_first_four K) := by
  refine T.F_first_four.ok sc_first_four (fun vs H Q E h => by obtain ⟨a, b, wd, W, d, n, kvs, rfl, _⟩ := h; rfl) (fun cdv A outer s H vs Q E hr h => ?_)
  obtain ⟨a, b, wd, W, d, n, kvs, rfl, hA, hB, hS, hK, hO, hn, hd, q4, qn⟩ := h
  refine ⟨_, PSs.nox (pss_cons (ps_for PassesOwn.never rfl (pi_range2 (by rfl) T.n_range (pa_cons pe_int (pa_cons (pv 2) pa_nil))) (pg_name (i := 3) sc_first_four.nd rfl (by first | exact Or.inl rfl | exact Or.inr rfl))
    (pss_one (ps_for PassesOwn.never rfl (pi_range2 (by rfl) T.n_range (pa_cons (pe_op op_add (pv 3) pe_int) (pa_cons (pv 2) pa_nil))) (pg_name (i := 4) sc_first_four.nd rfl (by first | exact Or.inl rfl | exact Or.inr rfl))
    (pss_cons (ps_set (i := 5) sc_first_four.nd rfl (by first | exact Or.inl rfl | exact Or.inr rfl) (pe_dget2 (hu_of hr) (pv 1) (pe_op op_xor (pe_op op_xor pe_int (pe_ix (k_ixL K rfl) (pv 0) (pv 3) (fun _ _ => rfl))) (pe_ix (k_ixL K rfl) (pv 0) (pv 4) (fun _ _ => rfl))) pe_int ⟨by rfl, by rfl, by rfl, by rfl⟩))
  (pss_one (ps_if (pt_chain op_lt op_lt (pv 4) (pv 5) (pv 2))
    (pss_one (ps_ret (pe_lst (pa_cons pe_int (pa_cons (pv 3) (pa_cons (pv 4) (pa_cons (pv 5) pa_nil)))))))
    pss_nil))))))
  (pss_one (ps_ret pe_non))), ?_⟩
  refine ⟨_, rfl, 1, n, rfl, ⟨by omega, by omega, by omega, by omega⟩, ?_⟩
  refine for_range (lo := 1) (n := ((n : Int) - 1).toNat) (fun i σ H1 => ∃ v3 v4 v5, σ = [some (.ref a), some (.ref b), some (.int n), v3, v4, v5] ∧ Same H H1 ∧ ∀ o q, 0 < o → o < q → o < i + 1 → ¬ ∃ l, q < l ∧ l < n ∧ pw wd W l = pw wd W o ^^^ pw wd W q ^^^ 1) ⟨none, none, none, rfl, Same.refl _, fun o q h1 _ h2 => by omega⟩ ?_ ?_
  · rintro i σ H1 hi ⟨v3, v4, v5, rfl, s1, hN⟩
    have ei : 1 + (i : Int) = ((i + 1 : Nat) : Int) := by omega
    rw [ei]
    refine ⟨_, rfl, _, _, rfl, rfl, _, rfl, _, _, rfl, ⟨by omega, by omega, by omega, by omega⟩, ?_⟩
    refine for_range (lo := ((i + 1 : Nat) : Int) + 1) (n := ((n : Int) - (((i + 1 : Nat) : Int) + 1)).toNat) (fun j σ H2 => ∃ v4 v5, σ = [some (.ref a), some (.ref b), some (.int n), some (.int (i + 1 : Nat)), v4, v5] ∧ Same H H2 ∧ ∀ q, i + 1 < q → q < i + 2 + j → ¬ ∃ l, q < l ∧ l < n ∧ pw wd W l = pw wd W (i + 1) ^^^ pw wd W q ^^^ 1) ⟨v4, v5, rfl, s1, fun q h1 h2 => by omega⟩ ?_ ?_
    · rintro j σ H2 hj ⟨v4, v5, rfl, s2, hM⟩
      have ej : ((i + 1 : Nat) : Int) + 1 + (j : Int) = ((i + 2 + j : Nat) : Int) := by omega
      rw [ej]
      have hA2 := s2.seq hA
      have hb2 := s2 _ _ hB
      have eb : Builtin.bitXor (Builtin.bitXor 1 ((pw wd W (i + 1) : Nat) : Int)) ((pw wd W (i + 2 + j) : Nat) : Int) = ((pw wd W (i + 1) ^^^ pw wd W (i + 2 + j) ^^^ 1 : Nat) : Int) := by
        have := bx 1 (pw wd W (i + 1))
        rw [show ((1 : Nat) : Int) = 1 from rfl] at this
        rw [this, bx]
        congr 1
        ac_rfl
      obtain ⟨k, ek, hk⟩ := hS.get (pw wd W (i + 1) ^^^ pw wd W (i + 2 + j) ^^^ 1)
      have sc := spot_cond (q := i + 2 + j) hK hO hn hk
      have hg : DGet H2 b (V.int (Builtin.bitXor (Builtin.bitXor 1 ((pw wd W (i + 1) : Nat) : Int)) ((pw wd W (i + 2 + j) : Nat) : Int))) (valV kvs (.inl ((pw wd W (i + 1) ^^^ pw wd W (i + 2 + j) ^^^ 1 : Nat) : Int))) := by
        rw [eb]
        exact DGet.k (k := .inl ((pw wd W (i + 1) ^^^ pw wd W (i + 2 + j) ^^^ 1 : Nat) : Int)) hb2
      refine ⟨_, rfl, b, rfl, .inl ⟨kvs, .inl hb2⟩, _, rfl, _, rfl, a, _, _, _, rfl, rfl, hA2, powsL_atI (by omega), _, _, rfl, rfl, _, rfl, _, rfl, a, _, _, _, rfl, rfl, hA2, powsL_atI (by omega), _, _, rfl, rfl, _, hg, ?_⟩
      rw [ek]
      refine ⟨_, rfl, _, rfl, _, _, rfl, rfl, _, rfl, ?_⟩
      by_cases c1 : i + 2 + j < k
      · refine iteDT (by omega) ?_
        refine ⟨_, rfl, _, _, rfl, rfl, _, rfl, ?_⟩
        by_cases c2 : k < n
        · refine iteDT (by omega) ?_
          obtain ⟨l, h1, h2, h3⟩ := sc.mp ⟨c1, c2⟩
          have hkl : pw wd W k = pw wd W (i + 1) ^^^ pw wd W (i + 2 + j) ^^^ 1 := by
            rcases hk with ⟨_, z⟩ | ⟨z, _⟩
            · exact z
            · omega
          refine ⟨_, rfl, _, rfl, _, rfl, (show 4 ≤ sizeLine by decide), fun p np => ?_⟩
          refine q4 _ p (i + 1) (i + 2 + j) k (s2.trans (same_upd np)) (s2.free np) ⟨by omega, by omega, c1, c2, hkl, fun o' q' h4 h5 h6 => ?_⟩ (by rw [upd_same]; rfl)
          rcases h6 with h6 | ⟨rfl, h6⟩
          · exact hN o' q' h4 h5 h6
          · exact hM q' h5 h6
        · refine iteDF (by omega) ?_
          refine ⟨_, _, rfl, s2, fun q h1 h2 => ?_⟩
          by_cases z : q < i + 2 + j
          · exact hM q h1 z
          · rw [show q = i + 2 + j by omega]
            exact fun h => c2 (sc.mpr h).2
      · refine iteDF (by omega) ?_
        refine ⟨_, rfl, iteF ?_⟩
        refine ⟨_, _, rfl, s2, fun q h1 h2 => ?_⟩
        by_cases z : q < i + 2 + j
        · exact hM q h1 z
        · rw [show q = i + 2 + j by omega]
          exact fun h => c1 (sc.mpr h).1
    · rintro σ H2 ⟨v4, v5, rfl, s2, hM⟩
      refine ⟨_, _, _, rfl, s2, fun o q h1 h2 h3 => ?_⟩
      by_cases z : o < i + 1
      · exact hN o q h1 h2 z
      · rw [show o = i + 1 by omega]
        by_cases z2 : q < n
        · exact hM q (by omega) (by omega)
        · rintro ⟨l, h4, h5, _⟩
          omega
  · rintro σ H1 ⟨v3, v4, v5, rfl, s1, hN⟩
    refine qn _ s1 fun o q h1 h2 => ?_
    by_cases z : o < n
    · exact hN o q h1 h2 (by omega)
    · rintro ⟨l, h4, h5, _⟩
      omega
def sp_ones_in : Sp := fun vs H Q _ => ∃ n : Nat, vs = [.int n] ∧ n < 2 ^ 1000 ∧ ∀ H' p, Same H H' → H p = none → H' p = some (.lst ((natI (onesN n (Builtin.Int.intBits (n : Int)))).map V.int)) → Q (.ref p) H'
theorem G_ones_in (T : Top K mg) : FnOk P w K mg base CX0 1 T.f_ones_in T.fd_ones_in ["number"] sp_ones_in := by
  refine T.F_ones_in.ok sc_ones_in (fun vs H Q E h => by obtain ⟨n, rfl, _⟩ := h; rfl) (fun cdv A outer s H vs Q E hr h => ?_)
  obtain ⟨n, rfl, hn, q⟩ := h
  refine ⟨_, PSs.nox (pss_one (ps_ret (pe_lc (own := [("place", 1)]) (g := gName 1) (by rfl) sc_ones_in.nd (pi_range1 (by rfl) T.n_range (pa_cons (pe_bits (pv 0)) pa_nil)) (blkOk_by (own := [("place", 1)]) (N := N_ones_in) (sc := defScope s_ones_in) (by decide +kernel)) (fun _ _ _ _ _ => (pg_name (i := 1) sc_ones_in.nd rfl (by first | exact Or.inl rfl | exact Or.inr rfl))) (fun _ _ _ _ _ => (pts_one (pt_cmpR op_eq (pe_op op_and (pe_op op_shr (pv 0) (pv 1)) pe_int) pe_int (nomark _)))) (fun _ _ _ _ _ => (pv 1))))), ?_⟩
  have hb : Builtin.Int.intBits (n : Int) ≤ 1000 := bl_iff.mpr hn
  obtain ⟨k, ek⟩ : ∃ k, Builtin.Int.intBits (n : Int) = k := ⟨_, rfl⟩
  rw [ek] at hb q
  refine ⟨_, rfl, _, rfl, _, rfl, by rw [ek]; omega, by rw [ek]; omega, fun D nD => ?_⟩
  rw [ek]
  refine lc_selR (lo := 0) (n := ((k : Int)).toNat) ((List.range k).map fun i => if n.testBit i = true then some (V.int (i : Int)) else none) nD (by rw [List.length_map, List.length_range]; rfl) (small1000' (by omega)) (fun x => rfl) ?_ ?_
  · intro i o H' hi ho s Qt qt
    rw [Int.toNat_natCast] at hi
    rw [List.getElem?_map, List.getElem?_range hi] at ho
    cases ho
    rw [show (0 + (i : Int)) = (i : Int) by omega]
    have eb := bit_int n i
    refine ⟨_, rfl, _, rfl, _, _, rfl, rfl, by omega, _, _, rfl, rfl, rfl, _, rfl, ?_⟩
    by_cases c : n.testBit i = true
    · refine iteET (eb.trans (by rw [c]; rfl)) ?_
      have z := qt H' (Same.refl _)
      dsimp only at z
      rw [if_pos c] at z
      exact ⟨_, rfl, z⟩
    · refine iteEF (fun z => c (by have z2 := eb.symm.trans z; cases h : n.testBit i <;> first | rfl | (rw [h] at z2; simp at z2))) ?_
      have z := qt H' (Same.refl _)
      dsimp only at z
      rw [if_neg c] at z
      exact z
  · intro H' s hD
    rw [ones_sel] at hD
    exact q _ D s nD hD
def sp_all_odd (C : Addr) : Sp := fun vs H Q _ => ∃ (a : Addr) (wd W : Nat), vs = [.ref a] ∧ CheckAt C H a wd W ∧ ∀ H', Same H H' → Q (.bl (decide ((onesN W (wd + 1)).length % 2 = 0))) H'
theorem G_all_odd (T : Top K mg) : FnOk P w K mg base CX0 2 T.f_all_odd T.fd_all_odd ["check"] (sp_all_odd T.C_Check) := by
  refine T.F_all_odd.ok sc_all_odd (fun vs H Q E h => by obtain ⟨a, wd, W, rfl, _⟩ := h; rfl) (fun cdv A outer s H vs Q E hr h => ?_)
  obtain ⟨a, wd, W, rfl, hC, q⟩ := h
  refine ⟨_, PSs.nox (pss_cons (ps_expr (pe_call (G_check_check T) (hr.mono (by decide)) (by rfl) T.g_check_check T.F_check_check.kp T.b_check_check .nil pass0 (pa_cons (pv 0) pa_nil)))
  (pss_one (ps_ret (pe_cmpR op_eq (pe_op op_mod (pe_callB (k_len K rfl) (by rfl) T.n_len (by decide +kernel) (pa_cons (pe_call (G_ones_in T) (hr.mono (by decide)) (by rfl) T.g_ones_in T.F_ones_in.kp T.b_ones_in .nil pass0 (pa_cons (pe_call (G_sum_of T) (hr.mono (by decide)) (by rfl) T.g_sum_of T.F_sum_of.kp T.b_sum_of .nil pass0 (pa_cons (pv 0) pa_nil)) pa_nil)) pa_nil)) pe_int) pe_int (nomark _))))), ?_⟩
  have hb := bl_W hC.1
  have hlt : W < 2 ^ 1000 := Nat.lt_of_lt_of_le hC.1.hi (Nat.pow_le_pow_right (by decide) (by have := hC.2.1; omega))
  refine ⟨_, rfl, a, wd, W, rfl, hC, ?_⟩
  refine ⟨_, rfl, a, wd, W, rfl, hC, W, rfl, hlt, fun H1 p s1 np h1 => ?_⟩
  rw [hb] at h1
  refine ⟨p, _, rfl, .inl (.inl (.inl h1)), _, _, rfl, rfl, (by show (0 : Int) < 2; decide), rfl, ?_⟩
  rw [nat_len]
  have e : decide (V.int (((onesN W (wd + 1)).length : Int) % 2) = V.int 0) = decide ((onesN W (wd + 1)).length % 2 = 0) := by
    have := dec_nat ((onesN W (wd + 1)).length % 2) 0
    rw [← this]
    congr 1
  have z := q _ s1
  rw [← e] at z
  exact z
end
end My

namespace My
open PySem PySem.Spec PyProof.Rows L2 Pre
open Classical in
noncomputable def sel3 (wd W n i : Nat) : Option V := if ∃ l, i < l ∧ l < n ∧ pw wd W l = pw wd W i ^^^ 1 then some (.int (i : Int)) else none
theorem sel3_head {wd W n : Nat} : ∀ (m o : Nat), o < m → (∃ l, o + 1 < l ∧ l < n ∧ pw wd W l = pw wd W (o + 1) ^^^ 1) → (∀ i, i < o → ¬ ∃ l, i + 1 < l ∧ l < n ∧ pw wd W l = pw wd W (i + 1) ^^^ 1) → ∃ r, ((List.range m).map fun i => sel3 wd W n (i + 1)).filterMap id = V.int ((o + 1 : Nat) : Int) :: r := by
  intro m
  induction m with
  | zero => intro o h; omega
  | succ m ih =>
    intro o hm h1 h2
    rw [List.range_succ, List.map_append, List.filterMap_append]
    by_cases c : o < m
    · obtain ⟨r, hr⟩ := ih o c h1 h2
      rw [hr]
      exact ⟨_, rfl⟩
    · have e : o = m := by omega
      subst e
      have z : ((List.range o).map fun i => sel3 wd W n (i + 1)).filterMap id = [] := by
        rw [List.filterMap_eq_nil_iff]
        intro x hx
        obtain ⟨i, hi, rfl⟩ := List.mem_map.mp hx
        show sel3 wd W n (i + 1) = none
        unfold sel3
        rw [if_neg (h2 i (List.mem_range.mp hi))]
      rw [z]
      refine ⟨[], ?_⟩
      show [sel3 wd W n (o + 1)].filterMap id = _
      unfold sel3
      rw [if_pos h1]
      rfl
def ToldL (H H' : Hp) (v : V) : Option (List Nat) → Prop
  | none => v = .non
  | some xs => ∃ p, v = .ref p ∧ H p = none ∧ H' p = some (.lst ((natI xs).map V.int))
theorem least_o {wd W n : Nat} (h : ∃ o, 0 < o ∧ ∃ l, o < l ∧ l < n ∧ pw wd W l = pw wd W o ^^^ 1) : ∃ o, (∃ l, o + 1 < l ∧ l < n ∧ pw wd W l = pw wd W (o + 1) ^^^ 1) ∧ ∀ i, i < o → ¬ ∃ l, i + 1 < l ∧ l < n ∧ pw wd W l = pw wd W (i + 1) ^^^ 1 := by
  obtain ⟨o, h0, h1⟩ := h
  have key : ∀ o, (∃ l, o + 1 < l ∧ l < n ∧ pw wd W l = pw wd W (o + 1) ^^^ 1) → ∃ o', o' ≤ o ∧ (∃ l, o' + 1 < l ∧ l < n ∧ pw wd W l = pw wd W (o' + 1) ^^^ 1) ∧ ∀ i, i < o' → ¬ ∃ l, i + 1 < l ∧ l < n ∧ pw wd W l = pw wd W (i + 1) ^^^ 1 := by
    intro o
    induction o using Nat.strongRecOn with
    | _ o ih =>
      intro h
      by_cases c : ∃ i, i < o ∧ ∃ l, i + 1 < l ∧ l < n ∧ pw wd W l = pw wd W (i + 1) ^^^ 1
      · obtain ⟨i, hi, hh⟩ := c
        obtain ⟨o', a, b, c⟩ := ih i hi hh
        exact ⟨o', by omega, b, c⟩
      · exact ⟨o, Nat.le_refl _, h, fun i hi hh => c ⟨i, hi, hh⟩⟩
  obtain ⟨o', _, a, b⟩ := key (o - 1) (by rw [show o - 1 + 1 = o by omega]; exact h1)
  exact ⟨o', a, b⟩
theorem non_ne (n : Int) : ¬ V.int n = V.non := fun z => by cases z
local macro_rules | `(tactic| walk_at "go") => `(tactic| repeat (first | (with_reducible first | refine iteT ?_ | refine iteF ?_ | refine iteNtt ?_ | refine iteNff ?_ | refine iteET (by omega) ?_ | refine iteEF (by omega) ?_ | refine iteENT (by omega) ?_ | refine iteENF (by omega) ?_ | refine iteDT (by omega) ?_ | refine iteDF (by omega) ?_ | refine iteNT (by omega) ?_ | refine iteNF (by omega) ?_) | refine ⟨_, rfl, ?_⟩ | refine ⟨_, _, rfl, rfl, ?_⟩ | refine ⟨_, _, rfl, ?_⟩ | refine ⟨rfl, ?_⟩ | refine .inl ⟨_, rfl, ?_⟩ | refine .inr ⟨_, rfl, ?_⟩))
local macro_rules | `(tactic| walk_at "b") => `(tactic| try dsimp (config := { proj := false, iota := false, eta := false, zeta := false }) only)
section
variable {P : Program} {w : World} {K : PySem.W.Frag} {mg : Str → Option Value} {base : Heap}
def sp_least_unseen (C : Addr) (K : PySem.W.Frag) : Sp := fun vs H Q _ => ∃ (a : Addr) (wd W n d t f : Nat), vs = [.ref a, .int n] ∧ CheckAt C H a wd W ∧ Bounds wd W d t f ∧ d ≤ 2048 ∧ n ≤ 10 ^ 18 ∧ ∀ H' v r, Same H H' → LeastUn wd W d t f n r → ToldL H H' v r → Q v H'
theorem G_least_unseen (T : Top K mg) : FnOk P w K mg base CX0 5 T.f_least_unseen T.fd_least_unseen ["check", "many"] (sp_least_unseen T.C_Check K) := by
  refine T.F_least_unseen.ok sc_least_unseen (fun vs H Q E h => by obtain ⟨a, wd, W, n, d, t, f, rfl, _⟩ := h; rfl) (fun cdv A outer s H vs Q E hr h => ?_)
  obtain ⟨a, wd, W, n, d, t, f, rfl, hC, hB, hd, hn, q⟩ := h
  refine ⟨_, PSs.nox (pss_cons (ps_set (i := 2) sc_least_unseen.nd rfl (by first | exact Or.inl rfl | exact Or.inr rfl) (pe_call (G_distance T) (hr.mono (by decide)) (by rfl) T.g_distance T.F_distance.kp T.b_distance .nil pass0 (pa_cons (pv 0) (pa_cons (pv 1) pa_nil))))
  (pss_cons (ps_set (i := 3) sc_least_unseen.nd rfl (by first | exact Or.inl rfl | exact Or.inr rfl) (pe_call (G_powers_of T) (hr.mono (by decide)) (by rfl) T.g_powers_of T.F_powers_of.kp T.b_powers_of .nil pass0 (pa_cons (pv 0) pa_nil)))
  (pss_cons (ps_set (i := 4) sc_least_unseen.nd rfl (by first | exact Or.inl rfl | exact Or.inr rfl) (pe_call (G_spots_of T) (hr.mono (by decide)) (by rfl) T.g_spots_of T.F_spots_of.kp T.b_spots_of .nil pass0 (pa_cons (pv 3) pa_nil)))
  (pss_cons (ps_if (pt_cmpR op_isN (pv 2) pe_non (nomark _))
    (pss_one (ps_ret pe_non))
    pss_nil)
  (pss_cons (ps_if (pt_cmpR op_eq (pv 2) pe_int (nomark _))
    (pss_one (ps_ret (pe_lst (pa_cons pe_int (pa_cons (pe_callB (k_len K rfl) (by rfl) T.n_len (by decide +kernel) (pa_cons (pv 3) pa_nil)) pa_nil)))))
    pss_nil)
  (pss_cons (ps_if (pt_cmpR op_eq (pv 2) pe_int (nomark _))
    (pss_one (ps_ret (pe_call (G_first_four T) (hr.mono (by decide)) (by rfl) T.g_first_four T.F_first_four.kp T.b_first_four .nil pass0 (pa_cons (pv 3) (pa_cons (pv 4) (pa_cons (pv 1) pa_nil))))))
    pss_nil)
  (pss_cons (ps_set (i := 5) sc_least_unseen.nd rfl (by first | exact Or.inl rfl | exact Or.inr rfl) (pe_ix (k_ixL K rfl) (pe_lc (own := [("place", 6)]) (g := gName 6) (by rfl) sc_least_unseen.nd (pi_range2 (by rfl) T.n_range (pa_cons pe_int (pa_cons (pv 1) pa_nil))) (blkOk_by (own := [("place", 6)]) (N := N_least_unseen) (sc := defScope s_least_unseen) (by decide +kernel)) (fun _ _ _ _ _ => (pg_name (i := 6) sc_least_unseen.nd rfl (by first | exact Or.inl rfl | exact Or.inr rfl))) (fun _ _ _ _ _ => (pts_one (pt_chain op_lt op_lt (pv 6) (pe_dget2 (hu_of hr) (pv 4) (pe_op op_xor (pe_ix (k_ixL K rfl) (pv 3) (pv 6) (fun _ _ => rfl)) pe_int) pe_int ⟨by rfl, by rfl, by rfl, by rfl⟩) (pv 1)))) (fun _ _ _ _ _ => (pv 6))) pe_int (fun _ _ => rfl)))
  (pss_one (ps_ret (pe_lst (pa_cons pe_int (pa_cons (pv 5) (pa_cons (pe_dget (hu_of hr) (pv 4) (pe_op op_xor (pe_ix (k_ixL K rfl) (pv 3) (pv 5) (fun _ _ => rfl)) pe_int) (fun _ _ => rfl)) pa_nil))))))))))))), ?_⟩
  have hK := hC.1
  have hp := hB.1.pos
  refine ⟨_, rfl, _, rfl, a, wd, W, n, d, t, f, rfl, hC, hB, hd, hn, fun H1 s1 => ?_⟩
  refine ⟨_, rfl, a, wd, W, rfl, hC.same s1, fun d' H2 p hO hd' s2 np h2 => ?_⟩
  have ed : d' = d := order_uniq hO hB.1
  subst ed
  refine ⟨_, rfl, p, wd, W, d', rfl, .inl (.inl h2), hK, hO, hd, fun H3 sp kvs s3 nsp h3 hS => ?_⟩
  have s13 := s1.trans (s2.trans s3)
  have hA : SqL K H3 p ((powsL wd W d').map V.int) := .inl (.inl (s3 _ _ h2))
  have hl : ((powsL wd W d').map V.int).length = d' := by rw [List.length_map, powsL_len]
  rcases dist_cases (d := d') (t := t) (f := f) (n := n) with ⟨e, c⟩ | ⟨e, c1, c2⟩ | ⟨e, c1, c2, c3⟩ | ⟨e, c1, c2, c3⟩ <;> rw [e]
  · refine ⟨_, rfl, rfl, _, rfl, iteDF (non_ne _) ?_⟩
    refine ⟨_, rfl, rfl, _, rfl, iteET rfl ?_⟩
    refine ⟨_, rfl, p, _, rfl, .inl hA, (show 2 ≤ sizeLine by decide), fun b nb => ?_⟩
    rw [hl]
    exact q _ _ (some [0, d']) (s13.trans (same_upd nb)) (.inl ⟨e, rfl⟩) ⟨b, rfl, s13.free nb, upd_same⟩
  · refine ⟨_, rfl, rfl, _, rfl, iteDF (non_ne _) ?_⟩
    refine ⟨_, rfl, rfl, _, rfl, iteEF (by decide) ?_⟩
    refine ⟨_, rfl, rfl, _, rfl, iteEF (by decide) ?_⟩
    obtain ⟨o0, q0, w0, w1, w2, w3⟩ := three_some hB c2 c1
    obtain ⟨o, ho1, ho2⟩ := least_o (wd := wd) (W := W) (n := n) ⟨o0, w0, q0, w1, w2, w3⟩
    have cond : ∀ i, ∃ k : Nat, (valV kvs (.inl ((pw wd W (i + 1) ^^^ 1 : Nat) : Int))).getD (.int 0) = .int k ∧ ((i + 1 < k ∧ k < n) ↔ ∃ l, i + 1 < l ∧ l < n ∧ pw wd W l = pw wd W (i + 1) ^^^ 1) := fun i => by
      obtain ⟨k, ek, hk⟩ := hS.get (pw wd W (i + 1) ^^^ 1)
      exact ⟨k, ek, spot_cond hK hO c1 hk⟩
    refine ⟨_, rfl, 1, n, rfl, ⟨by omega, by omega, by omega, by omega⟩, fun D nD => ?_⟩
    refine lc_selR (lo := 1) (n := ((n : Int) - 1).toNat) ((List.range ((n : Int) - 1).toNat).map fun i => sel3 wd W n (i + 1)) nD (by rw [List.length_map, List.length_range]) (small1000' (by omega)) (fun x => rfl) ?_ ?_
    · intro i x H' hi hx s Qt qt
      rw [List.getElem?_map, List.getElem?_range hi] at hx
      cases hx
      have ei : 1 + (i : Int) = ((i + 1 : Nat) : Int) := by omega
      rw [ei]
      obtain ⟨k, ek, hk⟩ := cond i
      have hb2 := s _ _ h3
      have eb : Builtin.bitXor ((pw wd W (i + 1) : Nat) : Int) 1 = ((pw wd W (i + 1) ^^^ 1 : Nat) : Int) := bx (pw wd W (i + 1)) 1
      have hg : DGet H' sp (V.int (Builtin.bitXor ((pw wd W (i + 1) : Nat) : Int) 1)) (valV kvs (.inl ((pw wd W (i + 1) ^^^ 1 : Nat) : Int))) := by
        rw [eb]
        exact DGet.k (k := .inl ((pw wd W (i + 1) ^^^ 1 : Nat) : Int)) hb2
      refine ⟨_, rfl, _, rfl, sp, rfl, .inl ⟨kvs, .inl hb2⟩, _, rfl, _, rfl, p, _, _, _, rfl, rfl, s.seq hA, powsL_atI (by omega), _, _, rfl, rfl, _, hg, ?_⟩
      rw [ek]
      have z := qt H' (Same.refl _)
      unfold sel3 at z
      dsimp only at z
      refine ⟨_, _, rfl, rfl, _, rfl, ?_⟩
      by_cases d1 : i + 1 < k
      · refine iteDT (by omega) ?_
        refine ⟨_, rfl, _, _, rfl, rfl, _, rfl, ?_⟩
        by_cases d2 : k < n
        · refine iteDT (by omega) ?_
          rw [if_pos (hk.mp ⟨d1, d2⟩)] at z
          exact ⟨_, rfl, z⟩
        · refine iteDF (by omega) ?_
          rw [if_neg (fun h => d2 (hk.mpr h).2)] at z
          exact z
      · refine iteDF (by omega) ?_
        refine ⟨_, rfl, iteF ?_⟩
        rw [if_neg (fun h => d1 (hk.mpr h).1)] at z
        exact z
    · intro H4 s4 hD
      have on : o < ((n : Int) - 1).toNat := by
        obtain ⟨l, l1, l2, _⟩ := ho1
        omega
      obtain ⟨r, hr⟩ := sel3_head (wd := wd) (W := W) (n := n) _ o on ho1 ho2
      rw [hr] at hD
      refine ⟨D, _, _, .int ((o + 1 : Nat) : Int), rfl, rfl, .inl (.inl hD), atI_nat (j := 0) rfl, ?_⟩
      obtain ⟨k, ek, hk⟩ := hS.get (pw wd W (o + 1) ^^^ 1)
      have sc := spot_cond (q := o + 1) hK hO c1 hk
      obtain ⟨h5, h6⟩ := sc.mpr ho1
      have hkp : k < d' ∧ pw wd W k = pw wd W (o + 1) ^^^ 1 := by
        rcases hk with z | ⟨z, _⟩
        · exact z
        · omega
      have hA4 := s4.seq hA
      have eb : Builtin.bitXor ((pw wd W (o + 1) : Nat) : Int) 1 = ((pw wd W (o + 1) ^^^ 1 : Nat) : Int) := bx (pw wd W (o + 1)) 1
      have hg : DGet H4 sp (V.int (Builtin.bitXor ((pw wd W (o + 1) : Nat) : Int) 1)) (some (.int k)) := by
        rw [eb, ← hkp.2, ← hS.2.1 k hkp.1]
        exact DGet.k (k := .inl ((pw wd W k : Nat) : Int)) (s4 _ _ h3)
      refine ⟨_, rfl, _, rfl, _, rfl, _, rfl, p, _, _, _, rfl, rfl, hA4, powsL_atI (by omega), _, _, rfl, rfl, sp, _, rfl, hg, (show 3 ≤ sizeLine by decide), fun b nb => ?_⟩
      have s14 := s13.trans s4
      exact q _ _ (some [0, o + 1, k]) (s14.trans (same_upd nb)) (.inr (.inl ⟨e, o + 1, k, ⟨by omega, h5, h6, hkp.2, fun o' a1 a2 => by
        have := ho2 (o' - 1) (by omega)
        rw [show o' - 1 + 1 = o' by omega] at this
        exact this⟩, rfl⟩)) ⟨b, rfl, s14.free nb, upd_same⟩
  · refine ⟨_, rfl, rfl, _, rfl, iteDF (non_ne _) ?_⟩
    refine ⟨_, rfl, rfl, _, rfl, iteEF (by decide) ?_⟩
    refine ⟨_, rfl, rfl, _, rfl, iteET rfl ?_⟩
    refine ⟨_, rfl, _, rfl, _, rfl, p, sp, wd, W, d', n, kvs, rfl, hA, h3, hS, hK, hO, c1, hd, fun H4 b o q' l s4 nb hF hb => ?_, fun H4 s4 hN => ?_⟩
    · exact q _ _ (some [0, o, q', l]) (s13.trans s4) (.inr (.inr ⟨e, o, q', l, hF, rfl⟩)) ⟨b, rfl, s13.free nb, hb⟩
    · obtain ⟨o, q', l, a1, a2, a3, a4, a5⟩ := four_some hB c3 c2
      exact absurd ⟨l, a3, a4, a5⟩ (hN o q' a1 a2)
  · refine ⟨_, rfl, rfl, _, rfl, iteDT rfl ?_⟩
    exact q _ _ none s13 e rfl
end
end My

namespace My
section
variable {w W : Nat} (C : Ck w W)
/-! ### sets of places as numbers -/
theorem ones_succ (n k : Nat) : onesN n (k + 1) = onesN n k ++ (if n.testBit k = true then [k] else []) := by
  unfold onesN
  rw [List.range_succ, List.filter_append]
  congr 1
  by_cases c : n.testBit k = true
  · rw [if_pos c, List.filter_cons_of_pos c, List.filter_nil]
  · rw [if_neg c, List.filter_cons_of_neg c, List.filter_nil]
theorem ones_mem {n k i : Nat} : i ∈ onesN n k ↔ i < k ∧ n.testBit i = true := by
  unfold onesN
  rw [List.mem_filter, List.mem_range]
theorem ones_more {n k : Nat} (h : n < 2 ^ k) : ∀ {j : Nat}, k ≤ j → onesN n j = onesN n k := by
  intro j
  induction j with
  | zero => intro l; rw [show k = 0 by omega]
  | succ j ih =>
    intro l
    by_cases e : k = j + 1
    · rw [e]
    · rw [ones_succ, ih (by omega), if_neg (by rw [Nat.testBit_lt_two_pow (Nat.lt_of_lt_of_le h (Nat.pow_le_pow_right (by decide) (by omega)))]; decide), List.append_nil]
theorem ones_rise (n k : Nat) : (onesN n k).Pairwise (· < ·) := List.Pairwise.filter _ List.pairwise_lt_range
theorem rising_eq : ∀ {xs ys : List Nat}, xs.Pairwise (· < ·) → ys.Pairwise (· < ·) → (∀ i, i ∈ xs ↔ i ∈ ys) → xs = ys
  | [], [], _, _, _ => rfl
  | [], y :: ys, _, _, h => absurd ((h y).mpr List.mem_cons_self) (by simp)
  | x :: xs, [], _, _, h => absurd ((h x).mp List.mem_cons_self) (by simp)
  | x :: xs, y :: ys, hx, hy, h => by
    rw [List.pairwise_cons] at hx hy
    have e : x = y := by
      rcases List.mem_cons.mp ((h x).mp List.mem_cons_self) with a | a
      · exact a
      · rcases List.mem_cons.mp ((h y).mpr List.mem_cons_self) with b | b
        · exact b.symm
        · have := hy.1 x a
          have := hx.1 y b
          omega
    subst e
    rw [rising_eq hx.2 hy.2 fun i => ⟨fun z => by
      rcases List.mem_cons.mp ((h i).mp (List.mem_cons_of_mem _ z)) with a | a
      · have := hx.1 i z; omega
      · exact a, fun z => by
      rcases List.mem_cons.mp ((h i).mpr (List.mem_cons_of_mem _ z)) with a | a
      · have := hy.1 i z; omega
      · exact a⟩]
def numS (ts : List Nat) : Nat := ts.foldr (fun t n => 2 ^ t ||| n) 0
theorem numS_bit (i : Nat) : ∀ ts : List Nat, (numS ts).testBit i = true ↔ i ∈ ts
  | [] => by simp [numS]
  | t :: ts => by
    show (2 ^ t ||| numS ts).testBit i = true ↔ _
    rw [Nat.testBit_or, Bool.or_eq_true, numS_bit i ts, Nat.testBit_two_pow, decide_eq_true_eq, List.mem_cons]
    constructor
    · rintro (h | h)
      · exact .inl h.symm
      · exact .inr h
    · rintro (h | h)
      · exact .inl h.symm
      · exact .inr h
theorem numS_lt {m : Nat} : ∀ {ts : List Nat}, (∀ t ∈ ts, t < m) → numS ts < 2 ^ m
  | [], _ => Nat.two_pow_pos m
  | t :: ts, h => Nat.or_lt_two_pow (Nat.pow_lt_pow_right (by decide) (h t List.mem_cons_self)) (numS_lt fun x hx => h x (List.mem_cons_of_mem _ hx))
theorem ones_num {ts : List Nat} {m : Nat} (h : ts.Pairwise (· < ·)) (b : ∀ t ∈ ts, t < m) : onesN (numS ts) m = ts :=
  rising_eq (ones_rise _ _) h fun i => by
    rw [ones_mem, numS_bit]
    exact ⟨fun z => z.2, fun z => ⟨b i z, z⟩⟩
theorem ones_ne {n m : Nat} (h0 : 0 < n) (h : n < 2 ^ m) : onesN n m ≠ [] := fun e => by
  have : n = 0 := Nat.eq_of_testBit_eq fun i => by
    rw [Nat.zero_testBit]
    by_cases l : i < m
    · cases c : n.testBit i with
      | false => rfl
      | true =>
        have := ones_mem.mpr ⟨l, c⟩
        rw [e] at this
        simp at this
    · exact Nat.testBit_lt_two_pow (Nat.lt_of_lt_of_le h (Nat.pow_le_pow_right (by decide) (by omega)))
  omega
theorem mod_succ (n k : Nat) : n % 2 ^ (k + 1) = (n % 2 ^ k) ^^^ (if n.testBit k = true then 2 ^ k else 0) := by
  apply Nat.eq_of_testBit_eq
  intro i
  rw [Nat.testBit_xor, Nat.testBit_mod_two_pow, Nat.testBit_mod_two_pow]
  by_cases c : n.testBit k = true
  · rw [if_pos c, Nat.testBit_two_pow]
    rcases Nat.lt_trichotomy i k with h | h | h
    · simp [h, show i < k + 1 by omega, show ¬ k = i by omega]
    · subst h; simp [c]
    · simp [show ¬ i < k by omega, show ¬ i < k + 1 by omega, show ¬ k = i by omega]
  · rw [if_neg c, Nat.zero_testBit]
    rcases Nat.lt_trichotomy i k with h | h | h
    · simp [h, show i < k + 1 by omega]
    · subst h; simp at c; simp [c]
    · simp [show ¬ i < k by omega, show ¬ i < k + 1 by omega]
theorem valP_snoc (xs : List Nat) (k : Nat) : valP w W (xs ++ [k]) = valP w W xs ^^^ pw w W k := by
  unfold valP
  rw [List.foldl_append]
  rfl
include C
theorem valP_moved (n s : Nat) : ∀ k, valP w W ((onesN n k).map (· + s)) = rem w W ((n % 2 ^ k) * 2 ^ s)
  | 0 => by
    rw [Nat.pow_zero, Nat.mod_one, Nat.zero_mul, rem_zero]
    rfl
  | k + 1 => by
    rw [ones_succ, mod_succ]
    by_cases c : n.testBit k = true
    · rw [if_pos c, if_pos c, List.map_append, List.map_cons, List.map_nil, valP_snoc, valP_moved n s k, ← Nat.shiftLeft_eq (_ ^^^ _), Nat.shiftLeft_xor_distrib, Nat.shiftLeft_eq, Nat.shiftLeft_eq, rem_xor C, ← Nat.pow_add]
      rfl
    · rw [if_neg c, if_neg c, List.append_nil, Nat.xor_zero, valP_moved n s k]
theorem valP_ones {n k : Nat} (h : n < 2 ^ k) : valP w W (onesN n k) = rem w W n := by
  have e := valP_moved C n 0 k
  rw [Nat.pow_zero, Nat.mul_one, Nat.mod_eq_of_lt h] at e
  rw [← e]
  congr 1
  exact (List.map_id' _).symm
theorem valP_far {n k : Nat} (s : Nat) (h : n < 2 ^ k) (z : rem w W n = 0) : valP w W ((onesN n k).map (· + s)) = 0 := by
  rw [valP_moved C, Nat.mod_eq_of_lt h, ← Nat.shiftLeft_eq]
  exact rem_shl C n s z
/-! ### the least unseen ones -/
theorem un_len {d t f m : Nat} (B : Bounds w W d t f) : ∀ {xs : List Nat}, xs.Pairwise (· < ·) → (∀ x ∈ xs, x < m) → valP w W xs = 0 → xs ≠ [] →
    2 ≤ xs.length ∧ (m ≤ d → 3 ≤ xs.length) ∧ (m ≤ d → m ≤ t → 4 ≤ xs.length) ∧ (m ≤ d → m ≤ t → m ≤ f → 5 ≤ xs.length)
  | [], _, _, _, h => absurd rfl h
  | [a], _, _, h, _ => absurd (by rw [← h]; show _ = 0 ^^^ pw w W a; rw [Nat.zero_xor]) (pw_ne C a)
  | [a, b], hp, hm, h, _ => by
    have hb := hm b (by simp)
    have hab : a < b := by simp at hp; exact hp
    have e : pw w W a = pw w W b := by
      have : 0 ^^^ pw w W a ^^^ pw w W b = 0 := h
      rw [Nat.zero_xor] at this
      exact xor_eq0.mp this
    have no : ¬ m ≤ d := fun l => no2 C B.1 hab (by omega) e
    exact ⟨Nat.le_refl _, fun z => absurd z no, fun z => absurd z no, fun z => absurd z no⟩
  | [a, b, c], hp, hm, h, _ => by
    have hc := hm c (by simp)
    have hab : a < b ∧ b < c := by simp at hp; omega
    have e : pw w W a ^^^ pw w W b ^^^ pw w W c = 0 := by
      have : 0 ^^^ pw w W a ^^^ pw w W b ^^^ pw w W c = 0 := h
      rw [Nat.zero_xor] at this
      exact this
    have no : ¬ m ≤ t := fun l => no3 C B.2.1.ne hab.1 hab.2 (by omega) e
    exact ⟨by simp, fun _ => Nat.le_refl _, fun _ z => absurd z no, fun _ z => absurd z no⟩
  | [a, b, c, e], hp, hm, h, _ => by
    have he := hm e (by simp)
    have hab : a < b ∧ b < c ∧ c < e := by simp at hp; omega
    have z : pw w W a ^^^ pw w W b ^^^ pw w W c ^^^ pw w W e = 0 := by
      have : 0 ^^^ pw w W a ^^^ pw w W b ^^^ pw w W c ^^^ pw w W e = 0 := h
      rw [Nat.zero_xor] at this
      exact this
    have no : ¬ m ≤ f := fun l => no4 C B.2.2.ne hab.1 hab.2.1 hab.2.2 (by omega) z
    exact ⟨by simp, fun _ => by simp, fun _ _ => Nat.le_refl _, fun _ _ y => absurd y no⟩
  | a :: b :: c :: e :: g :: r, _, _, _, _ => by simp only [List.length_cons]; omega
theorem least_len {d t f m n : Nat} (B : Bounds w W d t f) (n0 : 0 < n) (nm : n < 2 ^ m) (z : rem w W n = 0) :
    (distF d t f m = none → 5 ≤ (onesN n m).length) ∧ ∀ k, distF d t f m = some k → k ≤ (onesN n m).length := by
  have h := un_len C B (ones_rise n m) (fun x hx => (ones_mem.mp hx).1) (by rw [valP_ones C nm, z]) (ones_ne n0 nm)
  refine ⟨fun e => ?_, fun k e => ?_⟩ <;> rcases dist_cases (d := d) (t := t) (f := f) (n := m) with y | y | y | y <;> rw [e] at y
  · cases y.1
  · cases y.1
  · cases y.1
  · exact h.2.2.2 y.2.1 y.2.2.1 y.2.2.2
  · cases y.1; exact h.1
  · cases y.1; exact h.2.1 y.2.1
  · cases y.1; exact h.2.2.1 y.2.1 y.2.2.1
  · cases y.1
omit C in
theorem least_lt {d t f n : Nat} (h0 : 1 ≤ d) {xs : List Nat} (h : LeastUn w W d t f n (some xs)) : ∀ x ∈ xs, x < n := by
  rcases h with ⟨a, rfl⟩ | ⟨a, o, q, h, rfl⟩ | ⟨a, o, q, l, h, rfl⟩
  · rcases dist_cases (d := d) (t := t) (f := f) (n := n) with y | y | y | y <;> first | (rw [a] at y; cases y.1; done) | skip
    intro x hx
    simp at hx
    omega
  · have := h.h1
    have := h.h2
    intro x hx
    simp at hx
    omega
  · have := h.h1
    have := h.h2
    have := h.h3
    intro x hx
    simp at hx
    omega
omit C in
theorem least_size {d t f n : Nat} {xs : List Nat} (h : LeastUn w W d t f n (some xs)) : distF d t f n = some xs.length := by
  rcases h with ⟨a, rfl⟩ | ⟨a, o, q, h, rfl⟩ | ⟨a, o, q, l, h, rfl⟩ <;> exact a
omit C in
theorem least_ex {d t f n : Nat} (B : Bounds w W d t f) : ∃ r, LeastUn w W d t f n r := by
  rcases dist_cases (d := d) (t := t) (f := f) (n := n) with y | y | y | y
  · exact ⟨some [0, d], .inl ⟨y.1, rfl⟩⟩
  · obtain ⟨o, q, h1, h2, h3, h4⟩ := three_some B y.2.2 y.2.1
    obtain ⟨x, hx⟩ := first_ex (fun o => 0 < o ∧ ∃ q, o < q ∧ q < n ∧ pw w W q = pw w W o ^^^ 1) n
    have hxn : x < n := by
      by_cases c : x < n
      · exact c
      · exact absurd ⟨h1, q, h2, h3, h4⟩ (hx.ne o (by omega))
    obtain ⟨k0, q', k1, k2, k3⟩ := hx.at_ hxn
    exact ⟨some [0, x, q'], .inr (.inl ⟨y.1, x, q', ⟨k0, k1, k2, k3, fun o' p0 p1 z => hx.ne o' p1 ⟨p0, z⟩⟩, rfl⟩)⟩
  · obtain ⟨o, q, l, h1, h2, h3, h4, h5⟩ := four_some B y.2.2.2 y.2.2.1
    obtain ⟨x, hx⟩ := first_ex (fun o => 0 < o ∧ ∃ q, o < q ∧ ∃ l, q < l ∧ l < n ∧ pw w W l = pw w W o ^^^ pw w W q ^^^ 1) n
    have hxn : x < n := by
      by_cases c : x < n
      · exact c
      · exact absurd ⟨h1, q, h2, l, h3, h4, h5⟩ (hx.ne o (by omega))
    obtain ⟨k0, q', k1, l', k2, k3, k4⟩ := hx.at_ hxn
    obtain ⟨u, hu⟩ := first_ex (fun q => x < q ∧ ∃ l, q < l ∧ l < n ∧ pw w W l = pw w W x ^^^ pw w W q ^^^ 1) n
    have hun : u < n := by
      by_cases c : u < n
      · exact c
      · exact absurd ⟨k1, l', k2, k3, k4⟩ (hu.ne q' (by omega))
    obtain ⟨j0, l2, j1, j2, j3⟩ := hu.at_ hun
    refine ⟨some [0, x, u, l2], .inr (.inr ⟨y.1, x, u, l2, ⟨k0, j0, j1, j2, j3, fun o' q' p0 p1 p2 z => ?_⟩, rfl⟩)⟩
    rcases p2 with p2 | ⟨rfl, p2⟩
    · exact hx.ne o' p2 ⟨p0, q', p1, z⟩
    · exact hu.ne q' p2 ⟨p1, z⟩
  · exact ⟨none, y.1⟩
/-- the least one is one of the sets -/
theorem least_num {d t f m : Nat} (B : Bounds w W d t f) {xs : List Nat} (h : LeastUn w W d t f m (some xs)) :
    0 < numS xs ∧ numS xs < 2 ^ m ∧ rem w W (numS xs) = 0 ∧ onesN (numS xs) m = xs := by
  obtain ⟨z1, z2, _, _⟩ := least_unseen_zero C B h
  have hl := least_lt B.1.pos h
  have e := ones_num z2 hl
  have lt := numS_lt hl
  refine ⟨?_, lt, ?_, e⟩
  · rcases Nat.eq_zero_or_pos (numS xs) with z | z
    · have hne : xs ≠ [] := by
        have := least_size h
        rcases h with ⟨_, rfl⟩ | ⟨_, o, q, _, rfl⟩ | ⟨_, o, q, l, _, rfl⟩ <;> simp
      rw [z] at e
      have : onesN 0 m = [] := by unfold onesN; simp
      rw [this] at e
      exact absurd e.symm hne
    · exact z
  · rw [← valP_ones C lt, e, z1]
def lexI (ts : List Nat) : List Int := ts.map fun (t : Nat) => (t : Int)
omit C in
theorem lex_cons {a b : Nat} {xs ys : List Nat} (h : a < b ∨ (a = b ∧ lexI xs ≤ lexI ys)) : lexI (a :: xs) ≤ lexI (b :: ys) := by
  show ((a : Int) :: lexI xs) ≤ ((b : Int) :: lexI ys)
  rw [List.cons_le_cons_iff]
  rcases h with h | ⟨h, k⟩
  · exact .inl (by omega)
  · exact .inr ⟨by omega, k⟩
omit C in
theorem lex_refl (xs : List Nat) : lexI xs ≤ lexI xs := List.le_refl _
theorem un_lex {d t f m : Nat} (B : Bounds w W d t f) {xs : List Nat} (h : LeastUn w W d t f m (some xs)) {ys : List Nat} (hp : ys.Pairwise (· < ·)) (hm : ∀ y ∈ ys, y < m) (hv : valP w W ys = 0) (hl : ys.length = xs.length) : lexI xs ≤ lexI ys := by
  have hc := dist_cases (d := d) (t := t) (f := f) (n := m)
  rcases h with ⟨a, rfl⟩ | ⟨a, o, q, h, rfl⟩ | ⟨a, o, q, l, h, rfl⟩
  · match ys, hl with
    | [x, y], _ =>
      have hab : x < y := by simp at hp; exact hp
      rcases Nat.eq_zero_or_pos x with e | e
      · subst e
        refine lex_cons (.inr ⟨rfl, ?_⟩)
        have z : pw w W 0 = pw w W y := by
          have : 0 ^^^ pw w W 0 ^^^ pw w W y = 0 := hv
          rw [Nat.zero_xor] at this
          exact xor_eq0.mp this
        have : ¬ y < d := fun c => no2 C B.1 hab c z
        by_cases c : d = y
        · exact lex_cons (.inr ⟨c, lex_refl _⟩)
        · exact lex_cons (.inl (by omega))
      · exact lex_cons (.inl e)
  · have hn : m ≤ d := by rcases hc with z | z | z | z <;> first | (rw [a] at z; cases z.1; done) | exact z.2.1
    match ys, hl with
    | [x, y, u], _ =>
      have hab : x < y ∧ y < u := by simp at hp; omega
      have hu := hm u (by simp)
      rcases Nat.eq_zero_or_pos x with e | e
      · subst e
        refine lex_cons (.inr ⟨rfl, ?_⟩)
        have z : pw w W u = pw w W y ^^^ 1 := by
          have : 0 ^^^ pw w W 0 ^^^ pw w W y ^^^ pw w W u = 0 := hv
          rw [Nat.zero_xor, pw_zero C] at this
          rw [← xor_eq0.mp this, Nat.xor_comm]
        rcases Nat.lt_trichotomy o y with c | c | c
        · exact lex_cons (.inl c)
        · subst c
          have : q = u := pw_inj C B.1 (by have := h.h2; omega) (by omega) (by rw [h.at_, z])
          subst this
          exact lex_refl _
        · exact absurd ⟨u, hab.2, hu, z⟩ (h.ne y hab.1 c)
      · exact lex_cons (.inl e)
  · have hn : m ≤ d := by rcases hc with z | z | z | z <;> first | (rw [a] at z; cases z.1; done) | exact z.2.1
    match ys, hl with
    | [x, y, u, v], _ =>
      have hab : x < y ∧ y < u ∧ u < v := by simp at hp; omega
      have hu := hm v (by simp)
      rcases Nat.eq_zero_or_pos x with e | e
      · subst e
        refine lex_cons (.inr ⟨rfl, ?_⟩)
        have z : pw w W v = pw w W y ^^^ pw w W u ^^^ 1 := by
          have : 0 ^^^ pw w W 0 ^^^ pw w W y ^^^ pw w W u ^^^ pw w W v = 0 := hv
          rw [Nat.zero_xor, pw_zero C] at this
          rw [← xor_eq0.mp this]
          ac_rfl
        rcases Nat.lt_trichotomy o y with c | c | c
        · exact lex_cons (.inl c)
        · subst c
          refine lex_cons (.inr ⟨rfl, ?_⟩)
          rcases Nat.lt_trichotomy q u with c | c | c
          · exact lex_cons (.inl c)
          · subst c
            have : l = v := pw_inj C B.1 (by have := h.h3; omega) (by omega) (by rw [h.at_, z])
            subst this
            exact lex_refl _
          · exact absurd ⟨v, hab.2.2, hu, z⟩ (h.ne o u hab.1 hab.2.1 (.inr ⟨rfl, c⟩))
        · exact absurd ⟨v, hab.2.2, hu, z⟩ (h.ne y u hab.1 hab.2.1 (.inl c))
      · exact lex_cons (.inl e)
/-! ### longest, by all sets -/
omit C in
def Hit (w W few c a : Nat) : Prop := pw w W a = pw w W c ∨ (3 < few ∧ ∃ b, b < a ∧ pw w W a ^^^ pw w W b = pw w W c) ∨ (4 < few ∧ ∃ b e, b < a ∧ e < b ∧ pw w W a ^^^ pw w W b ^^^ pw w W e = pw w W c)
theorem hit_no {few L c a : Nat} (hL : IsLongest w W few L) (hc : c < L) (ha : a < c) : ¬ Hit w W few c a := by
  have three : ∀ {t : Nat}, (∀ p, p < t → ¬ Three w W p) → c < t → ¬ ∃ b, b < a ∧ pw w W a ^^^ pw w W b = pw w W c := by
    rintro t T h ⟨b, hb, z⟩
    exact no3 C T hb ha h (by rw [← z, Nat.xor_comm (pw w W b), Nat.xor_self])
  rcases hL with ⟨e, h⟩ | ⟨e, d, h, h1⟩ | ⟨e, d, t, h, h1, h2⟩ <;> rintro (z | ⟨l, z⟩ | ⟨l, b, g, hb, hg, z⟩) <;> first | omega | skip
  · exact no2 C h ha hc z
  · exact no2 C h ha (by have := h1.le; omega) z
  · exact three h1.ne hc z
  · exact no2 C h ha (by have := h1.le; have := h2.le; omega) z
  · exact three h1.ne (by have := h2.le; omega) z
  · refine no4 C h2.ne hg hb ha hc ?_
    rw [← z]
    rw [show pw w W g ^^^ pw w W b ^^^ pw w W a = pw w W a ^^^ pw w W b ^^^ pw w W g by ac_rfl, Nat.xor_self]
theorem hit_at {few L : Nat} (hL : IsLongest w W few L) : 1 ≤ L ∧ ∃ a, a < L ∧ Hit w W few L a := by
  have one : ∀ {d : Nat}, IsOrder w W d → 1 ≤ d ∧ ∃ a, a < d ∧ Hit w W few d a := fun {d} h => ⟨h.pos, 0, h.pos, .inl (by rw [h.at_, pw_zero C])⟩
  have two : ∀ {d t : Nat}, 3 < few → IsOrder w W d → IsFirst (Three w W) d t → 1 ≤ t ∧ ∃ a, a < t ∧ Hit w W few t a := by
    intro d t l h h1
    by_cases c : t < d
    · obtain ⟨q, q0, q1, q2⟩ := h1.at_ c
      exact ⟨by omega, q, q1, .inr (.inl ⟨l, 0, q0, by rw [q2, pw_zero C, Nat.xor_assoc, Nat.xor_self, Nat.xor_zero]⟩)⟩
    · have : t = d := by have := h1.le; omega
      subst this
      exact one h
  rcases hL with ⟨e, h⟩ | ⟨e, d, h, h1⟩ | ⟨e, d, t, h, h1, h2⟩
  · exact one h
  · exact two (by omega) h h1
  · by_cases c : L < t
    · obtain ⟨o, q, q0, q1, q2, q3⟩ := h2.at_ c
      refine ⟨by omega, q, q2, .inr (.inr ⟨by omega, o, 0, q1, q0, ?_⟩)⟩
      rw [Nat.xor_comm (pw w W q), q3, pw_zero C, Nat.xor_assoc, Nat.xor_self, Nat.xor_zero]
    · have : L = t := by have := h2.le; omega
      subst this
      exact two (by omega) h h1
/-! ### an even check, even sets -/
omit C in
theorem par_xor (x y : Nat) : ∀ k, (onesN (x ^^^ y) k).length % 2 = ((onesN x k).length + (onesN y k).length) % 2
  | 0 => rfl
  | k + 1 => by
    have ih := par_xor x y k
    rw [ones_succ, ones_succ, ones_succ, Nat.testBit_xor]
    cases x.testBit k <;> cases y.testBit k <;> simp <;> omega
omit C in
theorem par_dbl (a b k : Nat) (hb : b < 2) : (onesN (2 * a + b) (k + 1)).length = (onesN a k).length + b := by
  induction k with
  | zero =>
    rw [ones_succ]
    have : (2 * a + b).testBit 0 = decide (b = 1) := by rw [Nat.testBit_zero]; congr 1; rw [eq_iff_iff]; omega
    rw [this]
    rcases (by omega : b = 0 ∨ b = 1) with rfl | rfl <;> rfl
  | succ k ih =>
    rw [ones_succ, ones_succ a k, List.length_append, List.length_append, ih]
    have : (2 * a + b).testBit (k + 1) = a.testBit k := by rw [Nat.testBit_succ]; congr 1; omega
    rw [this]
    cases a.testBit k <;> simp <;> omega
theorem par_rem (hW : (onesN W (w + 1)).length % 2 = 0) : ∀ k n, n < 2 ^ k → (onesN (rem w W n) w).length % 2 = (onesN n k).length % 2
  | 0, n, h => by
    have : n = 0 := by simpa using h
    subst this
    rw [rem_zero]
    have : onesN 0 w = [] := by unfold onesN; simp
    rw [this]
    rfl
  | k + 1, n, h => by
    have h2 : n / 2 < 2 ^ k := by rw [Nat.pow_succ] at h; omega
    have ih := par_rem hW k (n / 2) h2
    have e1 := par_dbl (n / 2) (n % 2) k (by omega)
    rw [show 2 * (n / 2) + n % 2 = n by omega] at e1
    have hr := rem_lt C (n / 2)
    have hx : 2 * rem w W (n / 2) + n % 2 < 2 ^ (w + 1) := by rw [Nat.pow_succ]; omega
    have e2 := par_dbl (rem w W (n / 2)) (n % 2) w (by omega)
    rw [rem_step, ← ones_more (red_lt C hx) (Nat.le_succ w)]
    have e3 : (onesN (red w W (2 * rem w W (n / 2) + n % 2)) (w + 1)).length % 2 = (onesN (2 * rem w W (n / 2) + n % 2) (w + 1)).length % 2 := by
      by_cases c : 2 ^ w ≤ 2 * rem w W (n / 2) + n % 2
      · rw [red_hi C hx c, par_xor]
        omega
      · rw [red_id C (Nat.lt_of_not_le c)]
    show (onesN (red w W (2 * rem w W (n / 2) + n % 2)) (w + 1)).length % 2 = _
    rw [e3, e2, e1]
    omega
theorem par_even (hW : (onesN W (w + 1)).length % 2 = 0) {n k : Nat} (h : n < 2 ^ k) (z : rem w W n = 0) : (onesN n k).length % 2 = 0 := by
  rw [← par_rem C hW k n h, z]
  have : onesN 0 w = [] := by unfold onesN; simp
  rw [this]
  rfl
end
end My

namespace My
open PySem PySem.Spec PyProof.Rows PySem.W L2 Pre
/-! ### sorted, of rows of whole numbers -/
def rowDt (r : List Int) : PyData := .list (r.map PyData.int)
def rSortedR (K : PySem.W.Frag) : List V → Hp → VK → Prop := fun vs H Q => ∃ (a : Addr) (ps : List (V × List Int)), vs = [V.ref a] ∧ SqL K H a (ps.map Prod.fst) ∧ (∀ q ∈ ps, Dp K H q.1 (rowDt q.2)) ∧ ∀ (qs : List (V × List Int)) (p : Addr), qs.Perm ps → qs.Pairwise (fun x y => x.2 ≤ y.2) → H p = none → Q (.ref p) (upd H p (.lst (qs.map Prod.fst)))
theorem row_depth (r : List Int) : (rowDt r).depth ≤ 2 := by
  show (PyData.list (r.map .int)).depth ≤ 2
  rw [PyData.depth, Pre.depth_ints]
  omega
theorem rows_each {X : Cx} {pins : List (Addr × Obj)} {σ : L2.St} {H : Hp} {s : Shared} (I : Inv X pins σ H s) : ∀ {ps : List (V × List Int)} {us : List Value}, Vals (ps.map Prod.fst) us → (∀ q ∈ ps, Dp X.K H q.1 (rowDt q.2)) →
    EachIs (fun u q => RelV q.1 u) us ps ∧ EachIs (fun u q => ∃ as, Reads s.heap u (rowDt (Prod.snd q)) as) us ps
  | [], _, r, _ => by
    cases r
    exact ⟨.nil, .nil⟩
  | q :: ps, _, r, h => by
    rw [List.map_cons] at r
    cases r with
    | cons r1 r2 =>
      have ih := rows_each I r2 fun z hz => h z (List.mem_cons_of_mem _ hz)
      exact ⟨.cons r1 ih.1, .cons (Dp.reads I _ _ _ (h q List.mem_cons_self) r1) ih.2⟩
theorem each_vals : ∀ {us : List Value} {ps : List (V × List Int)}, EachIs (fun u q => RelV q.1 u) us ps → Vals (ps.map Prod.fst) us
  | _, _, .nil => .nil
  | _, _, .cons h t => by rw [List.map_cons]; exact .cons h (each_vals t)
theorem k_sortedR {X : Cx} (K : PySem.W.Frag) (h : X.K = K) (hu : X.A.units + 65 < cLine) : CallR X (.builtin "sorted") (rSortedR K) := by
  subst h
  intro pins s σ H vs us Q I r h
  obtain ⟨a, ps, rfl, hs, hp, q⟩ := h
  obtain ⟨its, rv, hl, hz⟩ := I.list hs
  rw [Vals.ref1 r]
  obtain ⟨e1, e2⟩ := rows_each I rv hp
  refine sorted_data (enc := fun q : V × List Int => rowDt q.2) hl.isList e1 e2 (AllAlike.of fun x y => by simp [rowDt, alike, W.alike_ints]) (Sortable.others fun x => ⟨by simp [rowDt], by simp [rowDt]⟩) (by rw [List.length_map] at hz; exact hz) (fun b _ => by have := row_depth b.2; show _ + _ + (rowDt b.2).depth < _; omega) fun out h1 h2 => ?_
  have le : (dataLe false fun q : V × List Int => rowDt q.2) = fun p q => decide (p.2 ≤ q.2) := dataLe_rows (fun q : V × List Int => q.2)
  rw [le] at h2
  have hperm := List.mergeSort_perm ps fun p q : V × List Int => decide (p.2 ≤ q.2)
  have hpw := List.pairwise_mergeSort (le := fun p q : V × List Int => decide (p.2 ≤ q.2)) (fun a b c h1 h2 => decide_eq_true (List.le_trans (of_decide_eq_true h1) (of_decide_eq_true h2))) (fun a b => by
    rw [Bool.or_eq_true, decide_eq_true_eq, decide_eq_true_eq]
    exact List.le_total _ _) ps
  obtain ⟨ep, at_⟩ := sortedAll_at s.heap its out.toArray
  refine ⟨.ref _, upd H (s.heap.objs.size + 1) (.lst ((ps.mergeSort fun p q : V × List Int => decide (p.2 ≤ q.2)).map Prod.fst)), I.laid (t' := s.toks) (fun _ _ => sortedAll_old) (Nat.le_succ _) ⟨?_, out.toArray.toList, ep, by simpa using each_vals h2, at_⟩, rfl, q _ _ hperm (hpw.imp fun h => of_decide_eq_true h) (I.hok.fresh (Nat.le_succ _))⟩
  rw [List.length_map, hperm.length_eq]
  rw [List.length_map] at hz
  exact hz
end My

namespace My
open PySem PySem.Spec PyProof.Rows L2 Pre
/-! ### promises for callers that stand in no repr: within them repr of lists shows its items -/
structure FnG (P : Program) (w : World) (K : PySem.W.Frag) (mg : Str → Option Value) (base : Heap) (CX : CXT) (k : Nat) (f : Addr) (fd : FuncData) (ps : List Str) (sp : Sp) : Prop where
  many : ∀ xs H Q E, sp xs H Q E → xs.length = ps.length
  does : ∀ (A : Around), A.guards = some [] → Room k A → ∀ (fr : List Env) (t : Shared) (H : Hp), Env0 P w K mg base A fr t H → ∀ (ar : Args) (us : List Value) (xs : List V), BindsTo t fd ar (ps.zip us) → Vals xs us →
    ∀ (Q : VK) (E : XK), sp xs H Q E → codeAny (model P w) A (.call (.ref f) ar) (CR CX fr P w H t Q E) t
section
variable {P : Program} {w : World} {K : PySem.W.Frag} {mg : Str → Option Value} {base : Heap} {CX : CXT} {k : Nat} {f : Addr} {fd : FuncData} {ps : List Str} {sp : Sp}
theorem FnG.of (F : FnOk P w K mg base CX k f fd ps sp) : FnG P w K mg base CX k f fd ps sp :=
  ⟨F.len, fun A _ hr fr t H e ar us xs b v Q E h => F.run A fr t H ar us xs Q E hr e b v h⟩
/-- a body makes a promise -/
theorem FnG.body {x qual : Str} {pr : Arguments} {bd : List Stmt} {sc : Scope} {dvs : List V} {kws : List (Str × V)} {N : List Str} (F : FunD K x qual pr bd sc dvs kws f fd) (S : FnScope N ps sc) (hm : ∀ xs H Q E, sp xs H Q E → xs.length = ps.length)
    (go : ∀ (cv : Value) (A : Around) (fr : List Env) (t : Shared) (H : Hp) (xs : List V) (Q : VK) (E : XK), A.guards = some [] → Room k (A.deeper (envOfC qual sc t.heap.objs.size f cv)) → sp xs H Q E →
      ∃ τ, PSs (cxOf CX P w K mg base N qual sc f cv A fr t H E) bd τ ∧ τ { nx := fun _ H1 => Q .non H1, rt := Q } (start N xs) H) : FnG P w K mg base CX (k + 1) f fd ps sp := by
  obtain ⟨c0, d0, dv, kv, dc, pm, an, cv, ct, sl, rfl, lk, hcode, _, _⟩ := F.ex
  refine ⟨hm, fun A gd hr fr t H e0 ar us xs hb rv Q E hs => ?_⟩
  have hin : K.In t.heap := e0.mod.kin.keeps fun b o z => (e0.bs b o z).1
  have hno : t.heap.NoLimit := e0.mod.nolimit.keeps fun b o z => (e0.bs b o z).1
  refine codeAny_call_function hr.depth (hin _ _ lk) rfl S.co S.gen rfl (PySem.W.codeRec_of hin hcode) (hb _ _ _ _ ?_)
  refine wpAny_newFunctionEnv_cells S.kind (fun y hy => ?_) fun env he t1 hx => ?_
  · obtain ⟨n, u⟩ := y
    rcases S.par n (List.of_mem_zip hy).1 with z | z
    · exact Or.inl z
    · exact Or.inr ⟨z, PySem.W.cellsFrom_some _ _ _ (Or.inl z)⟩
  · subst he
    refine ⟨hno.keeps hx.toInCall.keep, codeAny_func ?_⟩
    obtain ⟨τ, hτ, hq⟩ := go cv A fr t H xs Q E gd (hr.deeper _) hs
    have J := inv_start (CX := CX) (E := E) S hr.hd e0 (hm _ _ _ _ hs) rv hx
    refine wpAny_mono (hτ.run [] t1 (start N xs) H _ J hq) (fun fl t2 h2 => ?_) fun _ _ z => z
    cases fl with
    | brk => exact False.elim h2.choose_spec.choose_spec.2
    | cont => exact False.elim h2.choose_spec.choose_spec.2
    | next =>
      obtain ⟨σ2, H2, J2, q2⟩ := h2
      exact ⟨V.non, H2, J2.os, J2.bare, J2.base, J2.hok, rfl, q2⟩
    | ret u =>
      obtain ⟨v2, σ2, H2, J2, r2, q2⟩ := h2
      exact ⟨v2, H2, J2.os, J2.bare, J2.base, J2.hok, r2, q2⟩
end
section
variable {X : Cx} {CX : CXT} {k : Nat} {f : Addr} {fd : FuncData} {ps : List Str} {sp : Sp} {dvs : List V} {ds : List Value} {E : XK} {x : Str} {p pos : Pos} {e : Expr} {es : List Expr} {t : TA}
theorem go_g {pins : List (Addr × Obj)} {σ : L2.St} {H : Hp} {s : Shared} {Q : VK} {us : List Value} {xs : List V} (F : FnG X.prog X.w X.K X.mg X.base CX k f fd ps sp) (gd : X.A.guards = some []) (hr : Room k X.A) (hb : Binds X.K fd ps ds) (hd : Vals dvs ds)
    (hx : Passes CX X E) (I : Inv X pins σ H s) (r : Vals xs us) (h : sp (xs ++ dvs) H Q E) : wpAny (model X.prog X.w) X.A (call (.ref f) us) (EP X pins σ Q) X.xe s := by
  have rr := Vals.append r hd
  refine wpAny_call (codeAny_mono (F.does X.A gd hr X.stack s H I.env0 ⟨us, []⟩ (us ++ ds) (xs ++ dvs) (hb s us I.kIn (by rw [← rr.length]; exact F.many _ _ _ _ h)) rr Q E h) fun z s2 hz => ?_)
  match z, hz with
  | .error e, hz => exact hx pins σ H s e s2 I hz
  | .ok (.ret u), hz => exact I.after hz
theorem pe_callG (F : FnG X.prog X.w X.K X.mg X.base CX k f fd ps sp) (gd : X.A.guards = some []) (hr : Room k X.A) (hg : Gl X x) (hm : X.mg x = some (.ref f)) (hk : PySem.W.keepIn X.K (.ref f) = true) (hb : Binds X.K fd ps ds) (hd : Vals dvs ds) (hx : Passes CX X E)
    (ha : PA X (e :: es) t) (hdb : (x == ("__debug__" : Str)) = false := by decide) (he : starEach (e :: es) X.env = (false, eval e X.env) :: starEach es X.env := by rfl) (hpl : (backTo pos (starEach es X.env)).any (·.1) = false := by rfl) :
    PE X (.Call (.Name x p) (e :: es) [] pos) (tCall sp dvs E t) :=
  ⟨fun pins s σ H Q I h => wpAny_Call_Name_kw (ld_glob I hg hm (PySem.W.callWith_K (h₀ := X.base) I.ok.mod.kin hk (thn (ha.run pos pins s σ H _ I h) fun us s1 ⟨vs, H1, J, r, q⟩ => ⟨J.kIn, go_g F gd hr hb hd hx J r q⟩) he hpl) hdb)⟩
theorem pe_callG0 (F : FnG X.prog X.w X.K X.mg X.base CX k f fd ps sp) (gd : X.A.guards = some []) (hr : Room k X.A) (hg : Gl X x) (hm : X.mg x = some (.ref f)) (hk : PySem.W.keepIn X.K (.ref f) = true) (hb : Binds X.K fd ps ds) (hd : Vals dvs ds) (hx : Passes CX X E)
    (hdb : (x == ("__debug__" : Str)) = false := by decide) : PE X (.Call (.Name x p) [] [] pos) (tCall sp dvs E tNil) :=
  ⟨fun pins s σ H Q I h => wpAny_Call_Name_kw (ld_glob I hg hm (PySem.W.callWith_K0 I.kIn hk (go_g (us := []) F gd hr hb hd hx I .nil h)) hdb)⟩
end
/-! ### repr -/
def rRepr (K : PySem.W.Frag) : List V → Hp → VK → Prop := fun xs H Q => ∃ (x : V) (d : PyData), xs = [x] ∧ Dp K H x d ∧ d.showable = true ∧ SeqAt.shaped d = true ∧ d.shown.length ≤ sizeLine ∧ Q (.str d.shown) H
theorem call_repr {X : Cx} (gd : X.A.guards = some []) (hu : X.A.units + 65 < cLine) : CallR X (.builtin "repr") (rRepr X.K) := by
  intro pins s σ H xs us Q I r h
  obtain ⟨x, d, rfl, hd, hs, hsh, hl, q⟩ := h
  cases r with
  | cons rx rr =>
    cases rr
    rename_i u
    have hlay : d.canLay0 = true := SeqAt.canLay_of_shaped hsh
    have hdep : d.depth ≤ 64 := by
      have z : (d.canLay0 && decide (d.depth ≤ 64)) = true := hsh
      exact of_decide_eq_true (Bool.and_eq_true_iff.mp z).2
    obtain ⟨as, rd⟩ := Dp.reads I d x u hd rx
    have fin : ∀ h' v tk, (∀ b o, s.heap.get? b = some o → h'.get? b = some o) → EP X pins σ Q (.str d.shown v) { s with heap := h', toks := tk } := fun h' v tk hk => ⟨.str d.shown, H, I.kept hk, ⟨v, rfl⟩, q⟩
    cases hd with
    | non => cases rx; exact PySem.P.repr_of_none (fin _ _ _ fun _ _ z => z)
    | bl b => cases rx; exact PySem.P.repr_of_bool (fin _ _ _ fun _ _ z => z)
    | int i => obtain ⟨t, rfl⟩ := rx; exact PySem.P.repr_of_int (of_decide_eq_true hs) (fin _ _ _ fun _ _ z => z)
    | str y => obtain ⟨t, rfl⟩ := rx; exact PySem.P.repr_of_str (fin _ _ _ fun _ _ z => z) hl
    | lst _ _ => cases rx; exact repr_of_reads' rd hs (PyData.noDict_hsm (PyData.hasDict_of_canLay _ hlay)) gd (by omega) (fun _ _ z => z) fin hl
    | tup _ _ => cases rx; exact repr_of_reads' rd hs (PyData.noDict_hsm (PyData.hasDict_of_canLay _ hlay)) gd (by omega) (fun _ _ z => z) fin hl
theorem k_repr {X : Cx} (K : PySem.W.Frag) (h : X.K = K) (gd : X.A.guards = some []) (hu : X.A.units + 65 < cLine) : CallR X (.builtin "repr") (rRepr K) := by subst h; exact call_repr gd hu
theorem hu65 {k : Nat} {A : Around} (r : Room k A) : A.units + 65 < cLine := by have := r.un; omega
/-- rows of whole numbers, shown -/
theorem dp_ints {K : PySem.W.Frag} {H : Hp} : ∀ ns : List Int, DpAll K H (ns.map V.int) (ns.map PyData.int)
  | [] => .nil
  | n :: ns => .cons (.int n) (dp_ints ns)
theorem dp_row {K : PySem.W.Frag} {H : Hp} {a : Addr} {ns : List Int} (h : SqL K H a (ns.map V.int)) : Dp K H (.ref a) (.list (ns.map PyData.int)) := .lst h (dp_ints ns)
def shownR (ns : List Int) : Str := PyData.shown (.list (ns.map PyData.int))
theorem ints_lay : ∀ ns : List Int, PyData.canLayAll0 (ns.map PyData.int) = true
  | [] => rfl
  | n :: ns => by simp [PyData.canLayAll0, PyData.canLay0, ints_lay ns]
theorem ints_depth : ∀ ns : List Int, PyData.depthAll (ns.map PyData.int) ≤ 1
  | [] => by simp [PyData.depthAll]
  | n :: ns => by
    have := ints_depth ns
    simp only [List.map_cons, PyData.depthAll, PyData.depth]
    omega
theorem row_shaped (ns : List Int) : SeqAt.shaped (.list (ns.map PyData.int)) = true := by
  have h := ints_depth ns
  show (PyData.canLay0 (.list (ns.map PyData.int)) && decide (PyData.depth (.list (ns.map PyData.int)) ≤ 64)) = true
  rw [Bool.and_eq_true]
  exact ⟨by simp only [PyData.canLay0]; exact ints_lay ns, decide_eq_true (by simp only [PyData.depth]; omega)⟩
theorem ints_show : ∀ ns : List Int, (∀ n ∈ ns, n.natAbs.log2 < 1920) → PyData.showableAll (ns.map PyData.int) = true
  | [], _ => rfl
  | n :: ns, h => by
    simp only [List.map_cons, PyData.showableAll, PyData.showable]
    rw [decide_eq_true (h n List.mem_cons_self), ints_show ns fun m hm => h m (List.mem_cons_of_mem _ hm)]
    rfl
/-! ### sorted, any number -/
theorem k_sortedI {X : Cx} (K : PySem.W.Frag) (h : X.K = K) : CallR X (.builtin "sorted") (rSortedI K) := by subst h; exact cr_sortedI
def rSortedA (K : PySem.W.Frag) : List V → Hp → VK → Prop := fun vs H Q => ∃ (a : Addr) (xs : List Str), vs = [V.ref a] ∧ SqL K H a (xs.map V.str) ∧ ∀ (ys : List Str) (p : Addr), ys.Perm xs → sortedS ys = true → H p = none → Q (.ref p) (upd H p (.lst (ys.map V.str)))
theorem k_sortedS {X : Cx} (K : PySem.W.Frag) (h : X.K = K) : CallR X (.builtin "sorted") (rSortedA K) := by
  subst h
  intro pins s σ H vs us Q I r h
  obtain ⟨a, xs, rfl, hs, q⟩ := h
  obtain ⟨its, rv, hl, hz⟩ := I.list hs
  rw [Vals.ref1 r]
  refine sorted_strsAny hl.isList rv.strs (by rw [← rv.length]; exact hz) fun out ys h1 h2 h3 => ?_
  obtain ⟨ep, at_⟩ := sortedAll_at s.heap its out
  refine ⟨.ref _, upd H (s.heap.objs.size + 1) (.lst (ys.map V.str)), I.laid (t' := s.toks) (fun _ _ => sortedAll_old) (Nat.le_succ _) ⟨?_, out.toList, ep, vals_of_strs h1, at_⟩, rfl, q ys _ h2 h3 (I.hok.fresh (Nat.le_succ _))⟩
  rw [List.length_map, h2.length_eq]
  rw [List.length_map] at hz
  exact hz
theorem sorted_le : ∀ (l : List Str) (p : Str), risingS p l = true → (p :: l).Pairwise fun x y => x.cps.toList ≤ y.cps.toList
  | [], p, _ => List.pairwise_singleton _ _
  | x :: r, p, h => by
    obtain ⟨h1, h2⟩ := Bool.and_eq_true_iff.mp (show (!ltCps x.cps.toList p.cps.toList && risingS x r) = true from h)
    have hpx : p.cps.toList ≤ x.cps.toList := by
      rw [ltCps_eq] at h1
      intro z
      rw [decide_eq_true z] at h1
      cases h1
    have ih := sorted_le r x h2
    refine List.pairwise_cons.mpr ⟨fun y hy => ?_, ih⟩
    rcases List.mem_cons.mp hy with rfl | hy
    · exact hpx
    · exact List.le_trans hpx ((List.pairwise_cons.mp ih).1 y hy)
theorem sorted_uniq {xs ys : List Str} (h : xs.Perm ys) (hx : sortedS xs = true) (hy : sortedS ys = true) : xs = ys := by
  have pw : ∀ l : List Str, sortedS l = true → l.Pairwise fun x y => x.cps.toList ≤ y.cps.toList := fun l hl => by
    cases l with
    | nil => exact .nil
    | cons x r => exact sorted_le r x hl
  refine List.Perm.eq_of_pairwise (fun x y _ _ h1 h2 => ?_) (pw _ hx) (pw _ hy) h
  have e := List.le_antisymm h1 h2
  cases x with | mk a => cases y with | mk b => exact congrArg Str.mk (Array.toList_inj.mp e)
end My

namespace My
open PySem PySem.Spec PyProof.Rows L2 Pre
/-! ### the end of a law whose promise stands in no repr -/
/-- the script, tracked or one of the module's own objects -/
theorem script_env {P : Program} {w : World} {K : PySem.W.Frag} {mg mb : Str → Option Value} {a : Addr} {t : Shared} {us : List Value} {ns : List Int} (hin : K.In t.heap) (hgl : t.heap.Ns mainGlobals mg) (hbl : t.heap.Ns builtinsNs mb)
    (hbo : ∀ x : Str, x ≠ "__name__" → mb x = bootBuiltins x) (hno : t.heap.NoLimit) (hgs : t.gens = #[]) (at_a : t.heap.get? a = some { cls := .type "list", data := .seq us.toArray }) (ints_ : IntsAre us ns) (few : ns.length ≤ sizeLine) :
    ∃ (H : Hp) (base : Heap), Only H ∧ SqL K H a (ns.map V.int) ∧ K.In base ∧ base.Ns mainGlobals mg ∧ Env0 P w K mg base callerA [] t H := by
  have rv := vals_ints ints_
  have ul := ints_.length
  -- the module and the rest of the heap, whatever is tracked at a alone
  have rest : ∀ H : Hp, Only H → (∀ b, b ≠ a → H b = none) → (H a = none ∨ K.lookup a = none) → HOk P w H t.heap → SqL K H a (ns.map V.int) → ∃ (H : Hp) (base : Heap), Only H ∧ SqL K H a (ns.map V.int) ∧ K.In base ∧ base.Ns mainGlobals mg ∧ Env0 P w K mg base callerA [] t H := by
    intro H h1 h2 h3 h4 h5
    have dictFree : ∀ b o, t.heap.get? b = some o → (∃ es n, o.data = Data.dict es n) → H b = none := fun b o z ⟨es, n, d⟩ => by
      by_cases hb : b = a
      · rw [hb, at_a] at z
        cases z
        cases d
      · exact h2 b hb
    have nsKept : ∀ (b : Addr) (m : Str → Option Value), t.heap.Ns b m → (hidT t.heap H).Ns b m := fun b m z => by
      obtain ⟨o, es, ep, z1, z2, z3⟩ := z
      exact ⟨o, es, ep, hidT_get z1 (dictFree b o z1 ⟨_, _, z2⟩), z2, z3⟩
    have inKept : K.In (hidT t.heap H) := fun b o z => hidT_get (hin b o z) (by
      by_cases hb : b = a
      · rcases h3 with z3 | z3
        · rw [hb]; exact z3
        · rw [hb, z3] at z; cases z
      · exact h2 b hb)
    obtain ⟨mc, l1, l2⟩ := hno
    refine ⟨H, hidT t.heap H, h1, h5, inKept, nsKept _ _ hgl, ⟨rfl, ⟨inKept, nsKept _ _ hgl, ⟨mb, nsKept _ _ hbl, hbo⟩, ⟨mc, nsKept _ _ l1, l2⟩⟩, fun b o z => of_hidT z, ?_, trivial, fun b z => (nomatch z), h4, .of_eq hgs⟩⟩
    rw [hidT_size]
    exact Nat.le_refl _
  cases hk : K.lookup a with
  | some o =>
    have z := hin a o hk
    rw [at_a] at z
    cases z
    exact rest (fun _ => none) (fun _ => .inl rfl) (fun _ _ => rfl) (.inl rfl) (fun _ _ z => nomatch z) (.inr ⟨_, us.toArray, _, hk, rfl, rfl, rfl, by rw [List.size_toArray, ul]; exact few, by simpa using rv⟩)
  | none =>
    refine rest (upd (fun _ => none) a (.frz { cls := .type "list", data := .seq us.toArray } (.lst (ns.map V.int)))) (fun b => ?_) (fun b hb => upd_ne hb) (.inr hk) (fun b u z => ?_) (.inl (.inr ⟨_, upd_same⟩))
    · by_cases hb : b = a
      · rw [hb]; exact .inr ⟨_, _, upd_same⟩
      · exact .inl (upd_ne hb)
    · by_cases hb : b = a
      · subst hb
        rw [upd_same] at z
        cases z
        exact ⟨at_a, by rw [List.length_map]; exact few, us, _, rv, at_a⟩
      · rw [upd_ne hb] at z
        cases z
theorem end_g {l : PySem.W.OpenLaw} {n k : Nat} {q : Program} {loose : List Str} {XP : (Str → Option Value) → Heap → Prop} {YP : World → Heap → Prop} {d : DefRec} {x : Str} (hn : l.most = some n) (hn2 : n ≤ sizeLine) (hdf : d.params.defaults = []) (hr : Room k callerA)
    (F : ∀ (w : World) (mg : Str → Option Value) (fa : Addr) (h : Heap), YP w h → h.Ns mainGlobals mg → mg d.name = some (.ref fa) →
      ∃ (K : PySem.W.Frag) (fd : FuncData) (sp : Sp), K.In h ∧ (∀ (s : Shared) (u : Value), BindsTo s fd ⟨[u], []⟩ [(x, u)]) ∧
        (∀ (H : Hp) (a : Addr) (ns : List Int), ns.length ≤ n → SqL K H a (ns.map V.int) → sp [.ref a] H (fun v _ => v = .bl true) fun _ _ _ => False) ∧
        ∀ base : Heap, K.In base → base.Ns mainGlobals mg → FnG l.prog w K mg base CX0 k fa fd [x] sp) :
    PySem.W.WalkO q loose XP YP l.row.toRowW d [] (fun f vs => PySem.call f vs) := by
  refine Att.attach_call hn hdf fun w s₀ t mg mb fa o pm cd doc a us ns G Y ho hd hcd hmg at_a hi hl hg => ?_
  obtain ⟨K, fd, sp, hin, hb, hsp, hF⟩ := F w mg fa _ Y G.T.g hmg
  obtain ⟨H, base, only, hS, hKb, hgb, e0⟩ := script_env (P := l.prog) (w := w) hin G.T.g G.T.b G.T.builtins G.T.nolimit hg at_a hi (Nat.le_trans hl hn2)
  refine codeAny_mono ((hF base hKb hgb).does callerA rfl hr [] t H e0 ⟨[.ref a], []⟩ [.ref a] [.ref a] (hb t (.ref a)) (.cons rfl .nil) _ _ (hsp H a ns hl hS)) fun r t2 h => ?_
  match r, h with
  | .error e, h => exact (show False from h).elim
  | .ok (.ret u), h =>
    obtain ⟨v, H2, os, bare, un, hok2, rv, qv⟩ := h
    have qv : v = .bl true := qv
    subst qv
    have rv : u = Value.bool true := rv
    subst rv
    refine ⟨rfl, OldK.of_keep fun b o z => ?_, os, bare⟩
    rcases only b with hb | ⟨ob, ys, hb⟩
    · exact un.keep b o z hb (fun y => nomatch y) (fun y => nomatch y)
    · have z1 : t.heap.get? b = some ob := (e0.hok b _ hb).1
      have z2 : t2.heap.get? b = some ob := (hok2 b _ (un.frzs b ob _ hb)).1
      rw [z] at z1
      cases z1
      exact z2
end My

namespace My
open PySem PySem.Spec PyProof.Rows L2 Pre
/-- ways of an `and` that meet again behind it -/
theorem join3 {b : Bool} {A B : Prop} {R : Hp → Prop} {H : Hp} (Pv : Hp → Prop) (cont : ∀ H', Pv H' → R H') (h1 : b = true → (∀ H', Pv H' → R H') → A) (h2 : b = false → Pv H) : if b = true then A else (if false = true then B else R H) := by
  cases b with
  | true => rw [if_pos rfl]; exact h1 rfl cont
  | false => rw [if_neg (by decide), if_neg (by decide)]; exact cont _ (h2 rfl)
local macro_rules | `(tactic| walk_at "go") => `(tactic| repeat (first | (with_reducible first | refine iteT ?_ | refine iteF ?_ | refine iteNtt ?_ | refine iteNff ?_ | refine iteET (by omega) ?_ | refine iteEF (by omega) ?_ | refine iteENT (by omega) ?_ | refine iteENF (by omega) ?_ | refine iteDT (by omega) ?_ | refine iteDF (by omega) ?_ | refine iteNT (by omega) ?_ | refine iteNF (by omega) ?_) | refine ⟨_, rfl, ?_⟩ | refine ⟨_, _, rfl, rfl, ?_⟩ | refine ⟨_, _, rfl, ?_⟩ | refine ⟨rfl, ?_⟩ | refine .inl ⟨_, rfl, ?_⟩ | refine .inr ⟨_, rfl, ?_⟩))
local macro_rules | `(tactic| walk_at "b") => `(tactic| try dsimp (config := { proj := false, iota := false, eta := false, zeta := false }) only)
section
variable {P : Program} {w : World} {K : PySem.W.Frag} {mg : Str → Option Value} {base : Heap}
def sp_law_places : Sp := fun vs H Q _ => ∃ n k : Nat, vs = [.int n] ∧ n < 2 ^ k ∧ k ≤ 1000 ∧ ∀ H' p, Same H H' → H p = none → H' p = some (.lst ((natI (onesN n k)).map V.int)) → Q (.ref p) H'
theorem G_law_places (T : Top K mg) : FnOk P w K mg base CX0 1 T.f_law_places T.fd_law_places ["_law_number"] sp_law_places := by
  refine T.F_law_places.ok sc_law_places (fun vs H Q E h => by obtain ⟨n, k0, rfl, _⟩ := h; rfl) (fun cdv A outer s H vs Q E hr h => ?_)
  obtain ⟨n, k0, rfl, hn, hk0, q⟩ := h
  refine ⟨_, PSs.nox (pss_one (ps_ret (pe_lc (own := [("_law_place", 1)]) (g := gName 1) (by rfl) sc_law_places.nd (pi_range1 (by rfl) T.n_range (pa_cons (pe_bits (pv 0)) pa_nil)) (blkOk_by (own := [("_law_place", 1)]) (N := N_law_places) (sc := defScope s_law_places) (by decide +kernel)) (fun _ _ _ _ _ => (pg_name (i := 1) sc_law_places.nd rfl (by first | exact Or.inl rfl | exact Or.inr rfl))) (fun _ _ _ _ _ => (pts_one (pt_cmpR op_eq (pe_op op_mod (pe_op op_shr (pv 0) (pv 1)) pe_int) pe_int (nomark _)))) (fun _ _ _ _ _ => (pv 1))))), ?_⟩
  have hb : Builtin.Int.intBits (n : Int) ≤ k0 := bl_iff.mpr hn
  have hs : n < 2 ^ Builtin.Int.intBits (n : Int) := bl_iff.mp (Nat.le_refl _)
  rw [ones_more hs hb] at q
  obtain ⟨k, ek⟩ : ∃ k, Builtin.Int.intBits (n : Int) = k := ⟨_, rfl⟩
  rw [ek] at hb q
  refine ⟨_, rfl, _, rfl, _, rfl, by rw [ek]; omega, by rw [ek]; omega, fun D nD => ?_⟩
  rw [ek]
  refine lc_selR (lo := 0) (n := ((k : Int)).toNat) ((List.range k).map fun i => if n.testBit i = true then some (V.int (i : Int)) else none) nD (by rw [List.length_map, List.length_range]; rfl) (small1000' (by omega)) (fun x => rfl) ?_ ?_
  · intro i o H' hi ho s Qt qt
    rw [Int.toNat_natCast] at hi
    rw [List.getElem?_map, List.getElem?_range hi] at ho
    cases ho
    rw [show (0 + (i : Int)) = (i : Int) by omega]
    have eb := bit_mod n i
    refine ⟨_, rfl, _, rfl, _, _, rfl, rfl, by omega, _, _, rfl, rfl, (by show (0 : Int) < 2; decide), rfl, _, rfl, ?_⟩
    by_cases c : n.testBit i = true
    · refine iteET (eb.trans (by rw [c]; rfl)) ?_
      have z := qt H' (Same.refl _)
      dsimp only at z
      rw [if_pos c] at z
      exact ⟨_, rfl, z⟩
    · refine iteEF (fun z => c (by have z2 := eb.symm.trans z; cases h : n.testBit i <;> first | rfl | (rw [h] at z2; simp at z2))) ?_
      have z := qt H' (Same.refl _)
      dsimp only at z
      rw [if_neg c] at z
      exact z
  · intro H' s hD
    rw [ones_sel] at hD
    exact q _ D s nD hD
def sp_law_longest : Sp := fun vs H Q _ => ∃ (wd W few L : Nat), vs = [.int W, .int few] ∧ Ck wd W ∧ wd ≤ 4 ∧ IsLongest wd W few L ∧ L < 2 ^ wd + 1 ∧ ∀ H', Same H H' → Q (.int L) H'
theorem G_law_longest (T : Top K mg) : FnOk P w K mg base CX0 2 T.f_law_longest T.fd_law_longest ["_law_whole", "_law_few"] sp_law_longest := by
  refine T.F_law_longest.ok sc_law_longest (fun vs H Q E h => by obtain ⟨wd, W, few, L, rfl, _⟩ := h; rfl) (fun cdv A outer s H vs Q E hr h => ?_)
  obtain ⟨wd, W, few, L, rfl, hK, hw, hL, hl, q⟩ := h
  refine ⟨_, PSs.nox (pss_cons (ps_set (i := 2) sc_law_longest.nd rfl (by first | exact Or.inl rfl | exact Or.inr rfl) (pe_lst (pa_cons pe_int pa_nil)))
  (pss_cons (ps_for PassesOwn.never rfl (pi_range2 (by rfl) T.n_range (pa_cons pe_int (pa_cons (pe_op op_add (pe_op op_shl pe_int (pe_op op_sub (pe_bits (pv 0)) pe_int)) pe_int) pa_nil))) (pg_name (i := 3) sc_law_longest.nd rfl (by first | exact Or.inl rfl | exact Or.inr rfl))
    (pss_cons (ps_set (i := 4) sc_law_longest.nd rfl (by first | exact Or.inl rfl | exact Or.inr rfl) (pe_call (G_law_rest T) (hr.mono (by decide)) (by rfl) T.g_law_rest T.F_law_rest.kp T.b_law_rest .nil pass0 (pa_cons (pv 0) (pa_cons (pe_op op_shl pe_int (pv 3)) pa_nil))))
  (pss_cons (ps_for PassesOwn.never rfl (pi_range1 (by rfl) T.n_range (pa_cons (pv 3) pa_nil)) (pg_name (i := 5) sc_law_longest.nd rfl (by first | exact Or.inl rfl | exact Or.inr rfl))
    (pss_cons (ps_if (pt_cmpR op_eq (pe_ix (k_ixL K rfl) (pv 2) (pv 5) (fun _ _ => rfl)) (pv 4) (nomark _))
    (pss_one (ps_ret (pv 3)))
    pss_nil)
  (pss_one (ps_for PassesOwn.never rfl (pi_range1 (by rfl) T.n_range (pa_cons (pv 5) pa_nil)) (pg_name (i := 6) sc_law_longest.nd rfl (by first | exact Or.inl rfl | exact Or.inr rfl))
    (pss_cons (ps_if (PW.pt (pw_and (pt_cmpR op_gt (pv 1) pe_int (nomark _)) (pw_and1 (pt_cmpR op_eq (pe_op op_xor (pe_ix (k_ixL K rfl) (pv 2) (pv 5) (fun _ _ => rfl)) (pe_ix (k_ixL K rfl) (pv 2) (pv 6) (fun _ _ => rfl))) (pv 4) (nomark _)))))
    (pss_one (ps_ret (pv 3)))
    pss_nil)
  (pss_one (ps_for PassesOwn.never rfl (pi_range1 (by rfl) T.n_range (pa_cons (pv 6) pa_nil)) (pg_name (i := 7) sc_law_longest.nd rfl (by first | exact Or.inl rfl | exact Or.inr rfl))
    (pss_one (ps_if (PW.pt (pw_and (pt_cmpR op_gt (pv 1) pe_int (nomark _)) (pw_and1 (pt_cmpR op_eq (pe_op op_xor (pe_op op_xor (pe_ix (k_ixL K rfl) (pv 2) (pv 5) (fun _ _ => rfl)) (pe_ix (k_ixL K rfl) (pv 2) (pv 6) (fun _ _ => rfl))) (pe_ix (k_ixL K rfl) (pv 2) (pv 7) (fun _ _ => rfl))) (pv 4) (nomark _)))))
    (pss_one (ps_ret (pv 3)))
    pss_nil)))))))))
  (pss_one (ps_expr (pe_bm PySem.F.plainAttrs_list PySem.F.slot_list_append PySem.F.type_list_append mt_append (pv 2) (pa_cons (pv 4) pa_nil)))))))
  (pss_one (ps_ret pe_non)))), ?_⟩
  have hp4 : 2 ^ wd ≤ 2 ^ 4 := Nat.pow_le_pow_right (by decide) hw
  have hbl := bl_W hK
  refine ⟨(show 1 ≤ sizeLine by decide), fun p np => ?_⟩
  obtain ⟨H1, e1, s1, h1⟩ := fresh (.lst [V.int 1]) np
  rw [e1]
  have h1' : H1 p = some (.lst ((powsL wd W 1).map V.int)) := by
    rw [h1]
    show _ = some (HO.lst [V.int ((pw wd W 0 : Nat) : Int)])
    rw [pw_zero hK]
    rfl
  have eM : (1 : Int) * 2 ^ ((((wd + 1 : Nat) : Int) - 1)).toNat + 1 = ((2 ^ wd + 1 : Nat) : Int) := by
    rw [show (((wd + 1 : Nat) : Int) - 1) = (wd : Int) by omega, Int.one_mul, Int.toNat_natCast]
    have : ((2 ^ wd : Nat) : Int) = 2 ^ wd := by rw [Int.natCast_pow]; rfl
    omega
  refine ⟨_, rfl, _, rfl, _, _, rfl, rfl, _, _, rfl, rfl, by rw [hbl]; exact ⟨by omega, by omega, by decide⟩, _, _, rfl, rfl, _, _, rfl, ?_⟩
  walk_at "b"
  rw [hbl, eM]
  refine ⟨by omega, ?_⟩
  refine for_range (lo := 1) (n := (((2 ^ wd + 1 : Nat) : Int) - 1).toNat) (fun i σ H2 => ∃ v3 v4 v5 v6 v7, σ = [some (.int W), some (.int few), some (.ref p), v3, v4, v5, v6, v7] ∧ i + 1 ≤ L ∧ Same H H2 ∧ H2 p = some (.lst ((powsL wd W (i + 1)).map V.int))) ⟨_, _, _, _, _, rfl, (hit_at hK hL).1, s1, h1'⟩ ?_ ?_
  · rintro i σ H2 hi ⟨v3, v4, v5, v6, v7, rfl, il, s2, h2⟩
    have hi' : i < 2 ^ wd := by omega
    rw [show (1 : Int) + (i : Int) = ((i + 1 : Nat) : Int) by omega]
    have esh : (1 : Int) * 2 ^ (((i + 1 : Nat) : Int)).toNat = ((2 ^ (i + 1) : Nat) : Int) := by
      rw [Int.one_mul, Int.toNat_natCast, Int.natCast_pow]
      rfl
    refine ⟨_, rfl, _, rfl, _, _, rfl, rfl, ⟨by omega, by omega, by decide⟩, ?_⟩
    walk_at "b"
    rw [esh]
    refine ⟨wd, W, _, rfl, hK, by omega, Nat.pow_lt_pow_right (by decide) (by omega), ?_⟩
    rw [show rem wd W (2 ^ (i + 1)) = pw wd W (i + 1) from rfl]
    obtain ⟨c, hc⟩ : ∃ c, c = i + 1 := ⟨_, rfl⟩
    rw [← hc] at il h2 ⊢
    have done : ∀ {a H3}, a < c → Hit wd W few c a → Same H H3 → Q (.int c) H3 := fun {a H3} ha h s => by
      have : c = L := by
        by_cases z : c < L
        · exact absurd h (hit_no hK hL z ha)
        · omega
      rw [this]
      exact q _ s
    have at_ : ∀ {H3 : Hp} {a : Nat}, H3 p = some (.lst ((powsL wd W c).map V.int)) → a < c → SqL K H3 p ((powsL wd W c).map V.int) ∧ atI ((powsL wd W c).map V.int) (a : Int) = some (.int ((pw wd W a : Nat) : Int)) := fun h ha => ⟨.inl (.inl h), powsL_atI ha⟩
    walk_at "b"
    refine ⟨_, rfl, _, rfl, by omega, by omega, ?_⟩
    refine for_range (lo := 0) (n := ((c : Int)).toNat) (fun a σ H3 => ∃ v5 v6 v7, σ = [some (.int W), some (.int few), some (.ref p), some (.int c), some (.int (pw wd W c)), v5, v6, v7] ∧ (∀ a', a' < a → ¬ Hit wd W few c a') ∧ Same H H3 ∧ H3 p = some (.lst ((powsL wd W c).map V.int))) ⟨_, _, _, rfl, fun _ h => absurd h (by omega), s2, h2⟩ ?_ ?_
    · rintro a σ H3 ha ⟨v5, v6, v7, rfl, na, s3, h3⟩
      rw [Int.toNat_natCast] at ha
      rw [show (0 : Int) + (a : Int) = (a : Int) by omega]
      obtain ⟨q1, q2⟩ := at_ h3 ha
      refine ⟨_, rfl, _, rfl, p, _, _, _, rfl, rfl, q1, q2, _, rfl, rfl, _, rfl, ?_⟩
      by_cases e1 : pw wd W a = pw wd W c
      · refine iteET (by rw [e1]) ?_
        exact ⟨_, rfl, done ha (.inl e1) s3⟩
      refine iteEF (fun z => e1 (by omega)) ?_
      refine ⟨_, rfl, _, rfl, by omega, by omega, ?_⟩
      refine for_range (lo := 0) (n := ((a : Int)).toNat) (fun b σ H4 => ∃ v6 v7, σ = [some (.int W), some (.int few), some (.ref p), some (.int c), some (.int (pw wd W c)), some (.int a), v6, v7] ∧ (∀ b', b' < b → ¬ (3 < few ∧ pw wd W a ^^^ pw wd W b' = pw wd W c) ∧ ¬ (4 < few ∧ ∃ e, e < b' ∧ pw wd W a ^^^ pw wd W b' ^^^ pw wd W e = pw wd W c)) ∧ Same H H4 ∧ H4 p = some (.lst ((powsL wd W c).map V.int))) ⟨_, _, rfl, fun _ h => absurd h (by omega), s3, h3⟩ ?_ ?_
      · rintro b σ H4 hb ⟨v6, v7, rfl, nb, s4, h4⟩
        rw [Int.toNat_natCast] at hb
        rw [show (0 : Int) + (b : Int) = (b : Int) by omega]
        obtain ⟨q1, q2⟩ := at_ h4 ha
        obtain ⟨q3, q4⟩ := at_ h4 (show b < c by omega)
        refine ⟨_, rfl, _, _, rfl, rfl, _, rfl, ?_⟩
        walk_at "b"
        have hit2 : ∀ {H5 : Hp}, 3 < few → pw wd W a ^^^ pw wd W b = pw wd W c → Same H H5 → Q (.int c) H5 := fun l z s => done ha (.inr (.inl ⟨l, b, hb, z⟩)) s
        refine join3 (fun H' => H' = H4 ∧ ¬ (3 < few ∧ pw wd W a ^^^ pw wd W b = pw wd W c)) ?_ (fun hd cont => ?_) (fun hd => ⟨rfl, fun z => ?_⟩)
        · rintro H5 ⟨rfl, n2⟩
          refine ⟨_, rfl, _, rfl, by omega, by omega, ?_⟩
          refine for_range (lo := 0) (n := ((b : Int)).toNat) (fun g σ H6 => ∃ v7, σ = [some (.int W), some (.int few), some (.ref p), some (.int c), some (.int (pw wd W c)), some (.int a), some (.int b), v7] ∧ (∀ g', g' < g → ¬ (4 < few ∧ pw wd W a ^^^ pw wd W b ^^^ pw wd W g' = pw wd W c)) ∧ Same H H6 ∧ H6 p = some (.lst ((powsL wd W c).map V.int))) ⟨_, rfl, fun _ h => absurd h (by omega), s4, h4⟩ ?_ ?_
          · rintro g σ H6 hg ⟨v7, rfl, ng, s6, h6⟩
            rw [Int.toNat_natCast] at hg
            rw [show (0 : Int) + (g : Int) = (g : Int) by omega]
            obtain ⟨p1, p2⟩ := at_ h6 ha
            obtain ⟨p3, p4⟩ := at_ h6 (show b < c by omega)
            obtain ⟨p5, p6⟩ := at_ h6 (show g < c by omega)
            have fin : ∀ {H7 : Hp}, ¬ (4 < few ∧ pw wd W a ^^^ pw wd W b ^^^ pw wd W g = pw wd W c) → H7 = H6 → ∃ v7, [some (V.int W), some (.int few), some (.ref p), some (.int c), some (.int (pw wd W c)), some (.int a), some (.int b), some (.int (g : Int))] = [some (V.int W), some (.int few), some (.ref p), some (.int c), some (.int (pw wd W c)), some (.int a), some (.int b), v7] ∧ (∀ g', g' < g + 1 → ¬ (4 < few ∧ pw wd W a ^^^ pw wd W b ^^^ pw wd W g' = pw wd W c)) ∧ Same H H7 ∧ H7 p = some (.lst ((powsL wd W c).map V.int)) := by
              rintro H7 hn rfl
              refine ⟨_, rfl, fun g' hg' => ?_, s6, h6⟩
              by_cases eg : g' = g
              · rw [eg]; exact hn
              · exact ng g' (by omega)
            refine ⟨_, rfl, _, _, rfl, rfl, _, rfl, ?_⟩
            walk_at "b"
            refine join3 (fun H' => H' = H6 ∧ ¬ (4 < few ∧ pw wd W a ^^^ pw wd W b ^^^ pw wd W g = pw wd W c)) ?_ (fun hd cont => ?_) (fun hd => ⟨rfl, fun z => ?_⟩)
            · rintro H7 ⟨e7, n2⟩
              exact fin n2 e7
            · have h3 : 4 < few := by have := of_decide_eq_true hd; omega
              refine ⟨_, rfl, _, rfl, p, _, _, _, rfl, rfl, p1, p2, _, rfl, _, rfl, p, _, _, _, rfl, rfl, p3, p4, _, _, rfl, rfl, _, rfl, _, rfl, p, _, _, _, rfl, rfl, p5, p6, _, _, rfl, rfl, _, rfl, rfl, _, rfl, ?_⟩
              walk_at "b"
              by_cases e2 : pw wd W a ^^^ pw wd W b ^^^ pw wd W g = pw wd W c
              · refine iteET (by rw [bx, bx, e2]) ?_
                exact ⟨_, rfl, done ha (.inr (.inr ⟨h3, b, g, hb, hg, e2⟩)) s6⟩
              · refine iteEF (fun z => e2 (by rw [bx, bx] at z; omega)) ?_
                exact cont _ ⟨rfl, fun z => e2 z.2⟩
            · have := of_decide_eq_false hd
              omega
          · rintro σ H6 ⟨v7, rfl, ng, s6, h6⟩
            rw [Int.toNat_natCast] at ng
            refine ⟨_, _, rfl, fun b' hb' => ?_, s6, h6⟩
            by_cases eb : b' = b
            · subst eb
              exact ⟨n2, fun ⟨l, e, he, z⟩ => ng e he ⟨l, z⟩⟩
            · exact nb b' (by omega)
        · have h3 : 3 < few := by have := of_decide_eq_true hd; omega
          refine ⟨_, rfl, _, rfl, p, _, _, _, rfl, rfl, q1, q2, _, rfl, _, rfl, p, _, _, _, rfl, rfl, q3, q4, _, _, rfl, rfl, _, rfl, rfl, _, rfl, ?_⟩
          walk_at "b"
          by_cases e2 : pw wd W a ^^^ pw wd W b = pw wd W c
          · refine iteET (by rw [bx, e2]) ?_
            exact ⟨_, rfl, hit2 h3 e2 s4⟩
          · refine iteEF (fun z => e2 (by rw [bx] at z; omega)) ?_
            exact cont _ ⟨rfl, fun z => e2 z.2⟩
        · have := of_decide_eq_false hd
          omega
      · rintro σ H4 ⟨v6, v7, rfl, nb, s4, h4⟩
        rw [Int.toNat_natCast] at nb
        refine ⟨_, _, _, rfl, fun a' ha' => ?_, s4, h4⟩
        by_cases ea : a' = a
        · subst ea
          rintro (z | ⟨l, b, hb, z⟩ | ⟨l, b, e, hb, he, z⟩)
          · exact e1 z
          · exact (nb b hb).1 ⟨l, z⟩
          · exact (nb b hb).2 ⟨l, e, he, z⟩
        · exact na a' (by omega)
    · rintro σ H3 ⟨v5, v6, v7, rfl, na, s3, h3⟩
      rw [Int.toNat_natCast] at na
      have hcl : c ≠ L := fun e => by
        obtain ⟨_, a, ha, hh⟩ := hit_at hK hL
        rw [← e] at ha hh
        exact na a ha hh
      refine ⟨_, rfl, .inl ⟨rfl, _, .inl (.inl h3)⟩, _, rfl, p, _, _, rfl, rfl, h3, by rw [List.length_map, powsL_len]; exact Nat.lt_of_lt_of_le (show c < 65536 by omega) (by decide), ?_⟩
      refine ⟨_, _, _, _, _, rfl, by omega, same_over np s3, ?_⟩
      rw [upd_same, powsL_next, List.map_append]
      rfl
  · rintro σ H2 ⟨v3, v4, v5, v6, v7, rfl, il, s2, h2⟩
    exfalso
    omega
end
end My

namespace My
open PySem PySem.Spec PyProof.Rows L2 Pre
/-- the lists at as are new since H0, none of them is f, and they hold the rows -/
def NewRows (H0 : Hp) (f : Addr) (H : Hp) (as : List Addr) (rows : List (List Int)) : Prop := as.length = rows.length ∧ ∀ (i : Nat) (a : Addr) (r : List Int), as[i]? = some a → rows[i]? = some r → H0 a = none ∧ a ≠ f ∧ H a = some (.lst (r.map V.int))
theorem NewRows.nil {H0 H : Hp} {f : Addr} : NewRows H0 f H [] [] := ⟨rfl, fun i a r h => by simp at h⟩
theorem NewRows.app {H0 H : Hp} {f : Addr} {as bs : List Addr} {xs ys : List (List Int)} (h : NewRows H0 f H as xs) (k : NewRows H0 f H bs ys) : NewRows H0 f H (as ++ bs) (xs ++ ys) := by
  refine ⟨by rw [List.length_append, List.length_append, h.1, k.1], fun i a r ha hr => ?_⟩
  by_cases c : i < as.length
  · rw [List.getElem?_append_left c] at ha
    rw [List.getElem?_append_left (by rw [← h.1]; exact c)] at hr
    exact h.2 i a r ha hr
  · rw [List.getElem?_append_right (by omega)] at ha
    rw [List.getElem?_append_right (by rw [← h.1]; omega), ← h.1] at hr
    exact k.2 _ a r ha hr
theorem NewRows.one {H0 H : Hp} {f p : Addr} {r : List Int} (h1 : H0 p = none) (h2 : p ≠ f) (h3 : H p = some (.lst (r.map V.int))) : NewRows H0 f H [p] [r] := by
  refine ⟨rfl, fun i a q ha hq => ?_⟩
  cases i with
  | zero =>
    rw [List.getElem?_cons_zero] at ha hq
    cases ha
    cases hq
    exact ⟨h1, h2, h3⟩
  | succ i => simp at ha
/-- all but f stand -/
theorem NewRows.but {H0 H H' : Hp} {f : Addr} {as : List Addr} {rows : List (List Int)} (h : NewRows H0 f H as rows) (s : ∀ b o, b ≠ f → H b = some o → H' b = some o) : NewRows H0 f H' as rows :=
  ⟨h.1, fun i a r ha hr => by
    obtain ⟨a1, a2, a3⟩ := h.2 i a r ha hr
    exact ⟨a1, a2, s _ _ a2 a3⟩⟩
/-- another base, another one that it is not -/
theorem NewRows.base {H0 H1 H : Hp} {f g : Addr} {as : List Addr} {rows : List (List Int)} (h : NewRows H1 f H as rows) (s : Same H0 H1) (n : H1 g ≠ none) : NewRows H0 g H as rows :=
  ⟨h.1, fun i a r ha hr => by
    obtain ⟨a1, a2, a3⟩ := h.2 i a r ha hr
    exact ⟨s.free a1, fun z => n (by rw [← z]; exact a1), a3⟩⟩
theorem NewRows.rows {H0 H : Hp} {f p : Addr} {as : List Addr} {rows : List (List Int)} (h : NewRows H0 f H as rows) (hp : H p = some (.lst (as.map V.ref))) : RowsIn H p rows := ⟨as, hp, h.1, fun i a r ha hr => (h.2 i a r ha hr).2.2⟩
theorem ne_rows {K : PySem.W.Frag} {H : Hp} {p q : Addr} {xs ys : List (List Int)} {Q : V → Hp → Prop} (hp : RowsIn H p xs) (hq : RowsIn H q ys) (e : xs = ys) (k : Q (.bl false) H) : rNeD K (.ref p) (.ref q) H Q := by
  subst e
  obtain ⟨as, h1, h2, h3⟩ := hp
  obtain ⟨bs, k1, k2, k3⟩ := hq
  refine ⟨.list (xs.map rowD), .list (xs.map rowD), .lst (.inl (.inl h1)) (rows_dp h2 h3), .lst (.inl (.inl k1)) (rows_dp k2 k3), rows_shaped xs, rows_shaped xs, ?_⟩
  rw [SeqAt.eqv_refl _ (Bool.and_eq_true_iff.mp (rows_shaped xs)).1]
  exact k
theorem eq_rows {K : PySem.W.Frag} {H : Hp} {p q : Addr} {xs ys : List (List Int)} {Q : V → Hp → Prop} (hp : RowsIn H p xs) (hq : RowsIn H q ys) (e : xs = ys) (k : Q (.bl true) H) : rEqD K (.ref p) (.ref q) H Q := by
  subst e
  obtain ⟨as, h1, h2, h3⟩ := hp
  obtain ⟨bs, k1, k2, k3⟩ := hq
  refine ⟨.list (xs.map rowD), .list (xs.map rowD), .lst (.inl (.inl h1)) (rows_dp h2 h3), .lst (.inl (.inl k1)) (rows_dp k2 k3), rows_shaped xs, rows_shaped xs, ?_⟩
  rw [SeqAt.eqv_refl _ (Bool.and_eq_true_iff.mp (rows_shaped xs)).1]
  exact k
/-- a comprehension that makes new lists of whole numbers -/
theorem lc_rowsL {K : PySem.W.Frag} {a : Addr} {xs : List V} {j : Nat} {tt : TT} {te : TE} {vs : List Nat} {σ : L2.St} {H1 : Hp} {D : Addr} {Qd : Hp → Prop} (sel : List (Option (List Int))) (nD : H1 D = none) (hS : SqL K H1 a xs) (hlen : sel.length = xs.length) (hz : xs.length < sizeLine)
    (hw : ∀ x, wipe ((wipe σ vs).set j (some x)) vs = wipe σ vs)
    (hs : ∀ (i : Nat) (x : V) (o : Option (List Int)) (H' : Hp), xs[i]? = some x → sel[i]? = some o → Same H1 H' → ∀ Qt : Option V → Hp → Prop, (o = none → ∀ H'', Same H' H'' → Qt none H'') → (∀ r, o = some r → ∀ p H'', Same H' H'' → H' p = none → H'' p = some (.lst (r.map V.int)) → Qt (some (.ref p)) H'') →
      tt ((wipe σ vs).set j (some x)) H' fun b H3 => if b = true then te ((wipe σ vs).set j (some x)) H3 fun y H4 => Qt (some y) H4 else Qt none H3)
    (hd : ∀ H' as, Same H1 H' → H' D = some (.lst (as.map V.ref)) → NewRows H1 D H' as (sel.filterMap id) → Qd H') :
    ∃ W : Nat → Nat → Hp → Prop, (∃ m, W 0 m (upd H1 D (.lst []))) ∧ ∀ i m H, W i m H →
      ((Itl K a).stop i H ∧ Qd H) ∨ ((Itl K a).go i H ∧ ∃ Nx : Hp → Prop, (∀ H', Nx H' → ∃ m', m' < m ∧ W (i + 1) m' H') ∧ ∀ x H', (Itl K a).yld i H x H' → gName j x (wipe σ vs) H' fun σ2 H2 => wipe σ2 vs = wipe σ vs ∧ tt σ2 H2 fun b H3 =>
        if b = true then te σ2 H3 fun y H4 => ∃ acc, H4 D = some (.lst acc) ∧ acc.length < sizeLine ∧ Nx (upd H4 D (.lst (acc ++ [y]))) else Nx H3) := by
  refine lc_list (K := K) (a := a) (xs := xs) (fun i H => Same H1 H ∧ ∃ as, H D = some (.lst (as.map V.ref)) ∧ NewRows H1 D H as ((sel.take i).filterMap id)) ⟨same_upd nD, [], upd_same, .nil⟩ (fun i H _ p => p.1.seq hS) ?_ ?_
  · rintro i x H hx ⟨s, as, hD, hN⟩
    refine ⟨hw x, ?_⟩
    have hi : i < sel.length := by rw [hlen]; exact (List.getElem?_eq_some_iff.mp hx).1
    have ho : sel[i]? = some sel[i] := List.getElem?_eq_getElem hi
    have hl : (as.map V.ref).length < sizeLine := by
      rw [List.length_map, hN.1]
      exact Nat.lt_of_le_of_lt (fm_len sel i) (by omega)
    have h := hs i x sel[i] H hx ho s
    generalize sel[i] = o at ho h
    cases o with
    | none =>
      refine h (fun y H4 => match y with | some y => ∃ acc, H4 D = some (.lst acc) ∧ acc.length < sizeLine ∧ (Same H1 (upd H4 D (.lst (acc ++ [y]))) ∧ ∃ as, (upd H4 D (.lst (acc ++ [y]))) D = some (.lst (as.map V.ref)) ∧ NewRows H1 D (upd H4 D (.lst (acc ++ [y]))) as ((sel.take (i + 1)).filterMap id)) | none => Same H1 H4 ∧ ∃ as, H4 D = some (.lst (as.map V.ref)) ∧ NewRows H1 D H4 as ((sel.take (i + 1)).filterMap id)) (fun _ H4 s4 => ?_) (fun r z => by cases z)
      refine ⟨s.trans s4, as, s4 _ _ hD, ?_⟩
      rw [take_fm ho]
      simp only [Option.toList, List.append_nil]
      exact hN.but fun b o _ hb => s4 _ _ hb
    | some r =>
      refine h (fun y H4 => match y with | some y => ∃ acc, H4 D = some (.lst acc) ∧ acc.length < sizeLine ∧ (Same H1 (upd H4 D (.lst (acc ++ [y]))) ∧ ∃ as, (upd H4 D (.lst (acc ++ [y]))) D = some (.lst (as.map V.ref)) ∧ NewRows H1 D (upd H4 D (.lst (acc ++ [y]))) as ((sel.take (i + 1)).filterMap id)) | none => Same H1 H4 ∧ ∃ as, H4 D = some (.lst (as.map V.ref)) ∧ NewRows H1 D H4 as ((sel.take (i + 1)).filterMap id)) (fun z => by cases z) (fun r' z p H4 s4 np hp => ?_)
      cases z
      refine ⟨_, s4 _ _ hD, hl, same_over nD (s.trans s4), as ++ [p], by rw [upd_same, List.map_append]; rfl, ?_⟩
      rw [take_fm ho]
      have npD : p ≠ D := (ne_of_none hD np).symm
      refine (NewRows.app (hN.but fun b o _ hb => s4 _ _ hb) (NewRows.one (s.free np) npD hp)).but fun b o nb hb => by rw [upd_ne nb]; exact hb
  · rintro H ⟨s, as, hD, hN⟩
    rw [← hlen, List.take_length] at hN
    exact hd H as s hD hN
end My

namespace My
open PySem PySem.Spec PyProof.Rows L2 Pre
theorem bool_ok (b : Bool) : (PyData.bool b).showable = true ∧ SeqAt.shaped (.bool b) = true ∧ (PyData.shown (.bool b)).length ≤ sizeLine := by
  cases b <;> refine ⟨rfl, rfl, ?_⟩ <;> rw [PyData.shown, sizeLine_eq] <;> decide +kernel
/-- rows of places at hand -/
def Prs (H : Hp) (m : Nat) (ps : List (Addr × Nat)) : Prop := ∀ q ∈ ps, H q.1 = some (.lst ((natI (onesN q.2 m)).map V.int))
theorem Prs.same {H H' : Hp} {m : Nat} {ps : List (Addr × Nat)} (h : Prs H m ps) (s : Same H H') : Prs H' m ps := fun q hq => s _ _ (h q hq)
def refs (ps : List (Addr × Nat)) : List V := ps.map fun q => V.ref q.1
theorem refs_at {ps : List (Addr × Nat)} {i : Nat} {x : V} (h : (refs ps)[i]? = some x) : ∃ q, ps[i]? = some q ∧ q ∈ ps ∧ x = .ref q.1 := by
  unfold refs at h
  rw [List.getElem?_map] at h
  obtain ⟨q, hq, rfl⟩ := Option.map_eq_some_iff.mp h
  exact ⟨q, hq, List.mem_of_getElem? hq, rfl⟩
theorem Prs.rows {H : Hp} {m : Nat} {p : Addr} {ps : List (Addr × Nat)} (h : Prs H m ps) (hp : H p = some (.lst (refs ps))) : RowsIn H p (ps.map fun q => natI (onesN q.2 m)) := by
  refine ⟨ps.map Prod.fst, by rw [hp, List.map_map]; rfl, by rw [List.length_map, List.length_map], fun i a r ha hr => ?_⟩
  rw [List.getElem?_map] at ha hr
  obtain ⟨q, hq, rfl⟩ := Option.map_eq_some_iff.mp ha
  rw [hq] at hr
  cases hr
  exact h q (List.mem_of_getElem? hq)
theorem ne_empty {K : PySem.W.Frag} {H : Hp} {p q : Addr} {xs : List (List Int)} {Q : V → Hp → Prop} (hp : RowsIn H p xs) (hq : H q = some (.lst [])) (k : Q (.bl (!decide (xs = []))) H) : rNeD K (.ref p) (.ref q) H Q := by
  obtain ⟨as, h1, h2, h3⟩ := hp
  refine ⟨.list (xs.map rowD), .list [], .lst (.inl (.inl h1)) (rows_dp h2 h3), .lst (.inl (.inl hq)) .nil, rows_shaped xs, rfl, ?_⟩
  have e : PyData.eqv (.list (xs.map rowD)) (.list []) = decide (xs = []) := by
    cases xs with
    | nil => rfl
    | cons x xs => rw [decide_eq_false (by simp)]; rfl
  rw [e]
  exact k
theorem eq_empty {K : PySem.W.Frag} {H : Hp} {p q : Addr} {xs : List (List Int)} {Q : V → Hp → Prop} (hp : RowsIn H p xs) (hq : H q = some (.lst [])) (k : Q (.bl (decide (xs = []))) H) : rEqD K (.ref p) (.ref q) H Q := by
  obtain ⟨as, h1, h2, h3⟩ := hp
  refine ⟨.list (xs.map rowD), .list [], .lst (.inl (.inl h1)) (rows_dp h2 h3), .lst (.inl (.inl hq)) .nil, rows_shaped xs, rfl, ?_⟩
  have e : PyData.eqv (.list (xs.map rowD)) (.list []) = decide (xs = []) := by
    cases xs with
    | nil => rfl
    | cons x xs => rw [decide_eq_false (by simp)]; rfl
  rw [e]
  exact k
theorem sel_refs (Pd : Addr × Nat → Bool) : ∀ ps : List (Addr × Nat), (ps.map fun q => if Pd q = true then some (V.ref q.1) else none).filterMap id = refs (ps.filter Pd)
  | [] => rfl
  | q :: ps => by
    have ih := sel_refs Pd ps
    unfold refs at ih ⊢
    by_cases c : Pd q = true
    · rw [List.map_cons, if_pos c, List.filter_cons_of_pos c, List.map_cons, ← ih]
      rfl
    · rw [List.map_cons, if_neg c, List.filter_cons_of_neg c, ← ih]
      rfl
/-- a comprehension that takes some of the rows over -/
theorem lc_refs {K : PySem.W.Frag} {a : Addr} {j : Nat} {tt : TT} {te : TE} {vs : List Nat} {σ : L2.St} {H1 : Hp} {D : Addr} {Qd : Hp → Prop} (ps : List (Addr × Nat)) (Pd : Addr × Nat → Bool) (nD : H1 D = none) (hS : SqL K H1 a (refs ps)) (hz : (refs ps).length < sizeLine)
    (hw : ∀ x, wipe ((wipe σ vs).set j (some x)) vs = wipe σ vs)
    (ht : ∀ q ∈ ps, ∀ H', Same H1 H' → ∀ Qb : Bool → Hp → Prop, (∀ H'', Same H' H'' → Qb (Pd q) H'') → tt ((wipe σ vs).set j (some (.ref q.1))) H' Qb)
    (he : ∀ q ∈ ps, ∀ H' (Qv : VK), Qv (.ref q.1) H' → te ((wipe σ vs).set j (some (.ref q.1))) H' Qv)
    (hd : ∀ H', Same H1 H' → H' D = some (.lst (refs (ps.filter Pd))) → Qd H') :
    ∃ W : Nat → Nat → Hp → Prop, (∃ m, W 0 m (upd H1 D (.lst []))) ∧ ∀ i m H, W i m H →
      ((Itl K a).stop i H ∧ Qd H) ∨ ((Itl K a).go i H ∧ ∃ Nx : Hp → Prop, (∀ H', Nx H' → ∃ m', m' < m ∧ W (i + 1) m' H') ∧ ∀ x H', (Itl K a).yld i H x H' → gName j x (wipe σ vs) H' fun σ2 H2 => wipe σ2 vs = wipe σ vs ∧ tt σ2 H2 fun b H3 =>
        if b = true then te σ2 H3 fun y H4 => ∃ acc, H4 D = some (.lst acc) ∧ acc.length < sizeLine ∧ Nx (upd H4 D (.lst (acc ++ [y]))) else Nx H3) := by
  refine lc_selL (K := K) (a := a) (xs := refs ps) (tt := tt) (te := te) (ps.map fun q => if Pd q = true then some (V.ref q.1) else none) nD hS (by simp [refs]) hz hw ?_ (fun H' s hD => hd H' s (by rw [hD, sel_refs]))
  intro i x o H' hx ho s Qt qt
  obtain ⟨q, hq, hm, rfl⟩ := refs_at hx
  rw [List.getElem?_map, hq] at ho
  cases ho
  refine ht q hm H' s _ fun H'' s'' => ?_
  have z := qt H'' s''
  dsimp only at z ⊢
  by_cases c : Pd q = true
  · rw [if_pos c] at z
    rw [if_pos c]
    exact he q hm H'' _ z
  · rw [if_neg c] at z
    rw [if_neg c]
    exact z
/-- the sets unseen, below k -/
def unsN (wd W k : Nat) : List Nat := (List.range k).filter fun n => decide (0 < n ∧ rem wd W n = 0)
theorem uns_mem {wd W k n : Nat} : n ∈ unsN wd W k ↔ n < k ∧ 0 < n ∧ rem wd W n = 0 := by
  unfold unsN
  rw [List.mem_filter, List.mem_range, decide_eq_true_eq]
theorem uns_succ (wd W k : Nat) : unsN wd W (k + 1) = unsN wd W k ++ (if 0 < k ∧ rem wd W k = 0 then [k] else []) := by
  unfold unsN
  rw [List.range_succ, List.filter_append]
  congr 1
  by_cases c : 0 < k ∧ rem wd W k = 0
  · rw [if_pos c, List.filter_cons_of_pos (by simpa using c), List.filter_nil]
  · rw [if_neg c, List.filter_cons_of_neg (by simpa using c), List.filter_nil]
theorem rising_ones {n m s : Nat} (hm : m ≤ 1000) (hs : s ≤ 1000) : Rising ((onesN n m).map (· + s)) := by
  refine ⟨?_, fun t ht => ?_, ?_⟩
  · exact List.Pairwise.map (R := (· < ·)) (S := (· < ·)) _ (fun a b h => by show a + s < b + s; omega) (ones_rise n m)
  · obtain ⟨x, hx, rfl⟩ := List.mem_map.mp ht
    have := (ones_mem.mp hx).1
    show x + s ≤ _
    omega
  · rw [List.length_map]
    unfold onesN
    exact Nat.le_trans (List.length_filter_le _ _) (by rw [List.length_range]; exact hm)
theorem rising_ones0 {n m : Nat} (hm : m ≤ 1000) : Rising (onesN n m) := by
  have h := rising_ones (n := n) hm (Nat.zero_le 1000)
  have e : (onesN n m).map (· + 0) = onesN n m := List.map_id' _
  rw [e] at h
  exact h
local macro_rules | `(tactic| walk_at "go") => `(tactic| repeat (first | (with_reducible first | refine iteT ?_ | refine iteF ?_ | refine iteNtt ?_ | refine iteNff ?_ | refine iteET (by omega) ?_ | refine iteEF (by omega) ?_ | refine iteENT (by omega) ?_ | refine iteENF (by omega) ?_ | refine iteDT (by omega) ?_ | refine iteDF (by omega) ?_ | refine iteNT (by omega) ?_ | refine iteNF (by omega) ?_) | refine ⟨_, rfl, ?_⟩ | refine ⟨_, _, rfl, rfl, ?_⟩ | refine ⟨_, _, rfl, ?_⟩ | refine ⟨rfl, ?_⟩ | refine .inl ⟨_, rfl, ?_⟩ | refine .inr ⟨_, rfl, ?_⟩))
local macro_rules | `(tactic| walk_at "b") => `(tactic| try dsimp (config := { proj := false, iota := false, eta := false, zeta := false }) only)
section
variable {P : Program} {w : World} {K : PySem.W.Frag} {mg : Str → Option Value} {base : Heap}
def sp_law_sets_right (C : Addr) (K : PySem.W.Frag) : Sp := fun vs H Q _ => ∃ (g c : Addr) (wd W m n : Nat), vs = [.ref g, .ref c, .int W, .int m] ∧ GenAt H g n ∧ n ≤ 10 ^ 6 ∧ CheckAt C H c wd W ∧ wd ≤ 4 ∧ m ≤ 8 ∧ ∀ H', But g H H' → GenAt H' g (n + 30000) → Q (.bl true) H'
theorem G_law_sets_right (T : Top K mg) : FnG P w K mg base CX0 7 T.f_law_sets_right T.fd_law_sets_right ["_law_generator_here", "_law_check", "_law_whole", "_law_many"] (sp_law_sets_right T.C_Check K) := by
  refine FnG.body T.F_law_sets_right sc_law_sets_right (fun vs H Q E h => by obtain ⟨g, c, wd, W, m, n, rfl, _⟩ := h; rfl) (fun cdv A outer s H vs Q E gd hr h => ?_)
  obtain ⟨g, c, wd, W, m, n, rfl, hG, hn, hC, hw, hm, q⟩ := h
  refine ⟨_, PSs.nox (pss_cons (ps_set (i := 4) sc_law_sets_right.nd rfl (by first | exact Or.inl rfl | exact Or.inr rfl) (pe_lst pa_nil))
  (pss_cons (ps_for PassesOwn.never rfl (pi_range2 (by rfl) T.n_range (pa_cons pe_int (pa_cons (pe_op op_shl pe_int (pv 3)) pa_nil))) (pg_name (i := 5) sc_law_sets_right.nd rfl (by first | exact Or.inl rfl | exact Or.inr rfl))
    (pss_cons (ps_par (by rfl) sc_law_sets_right.nd (i := 10) (j := 8) rfl rfl (by decide) rfl rfl (pa_cons (pe_call (G_law_places T) (hr.mono (by decide)) (by rfl) T.g_law_places T.F_law_places.kp T.b_law_places .nil pass0 (pa_cons (pv 5) pa_nil)) (pa_cons (pe_cmpR op_eq (pe_call (G_law_rest T) (hr.mono (by decide)) (by rfl) T.g_law_rest T.F_law_rest.kp T.b_law_rest .nil pass0 (pa_cons (pv 2) (pa_cons (pv 5) pa_nil))) pe_int (nomark _)) pa_nil)) (by rfl))
  (pss_cons (ps_if (pt_cmpR op_ne (pe_callB (k_repr K rfl gd (hu65 hr)) (by rfl) T.n_repr (by decide +kernel) (pa_cons (pe_call (G_unseen T) (hr.mono (by decide)) (by rfl) T.g_unseen T.F_unseen.kp T.b_unseen .nil pass0 (pa_cons (pv 1) (pa_cons (pv 10) pa_nil))) pa_nil)) (pe_callB (k_repr K rfl gd (hu65 hr)) (by rfl) T.n_repr (by decide +kernel) (pa_cons (pv 8) pa_nil)) (nomark _))
    (pss_one (ps_ret pe_bl))
    pss_nil)
  (pss_one (ps_if (pt_val (pv 8))
    (pss_cons (ps_expr (pe_bm PySem.F.plainAttrs_list PySem.F.slot_list_append PySem.F.type_list_append mt_append (pv 4) (pa_cons (pv 10) pa_nil)))
  (pss_cons (ps_set (i := 11) sc_law_sets_right.nd rfl (by first | exact Or.inl rfl | exact Or.inr rfl) (pe_op op_add pe_int (pe_call (G_law_random T) (hr.mono (by decide)) (by rfl) T.g_law_random T.F_law_random.kp T.b_law_random .nil pass0 (pa_cons (pv 0) (pa_cons pe_int pa_nil)))))
  (pss_one (ps_if (pt_not (pt_val (pe_call (G_unseen T) (hr.mono (by decide)) (by rfl) T.g_unseen T.F_unseen.kp T.b_unseen .nil pass0 (pa_cons (pv 1) (pa_cons (pe_lc (own := [("_law_place", 12)]) (g := gName 12) (tt := tYes) (by rfl) sc_law_sets_right.nd (k_piL K rfl (pv 10)) (blkOk_by (own := [("_law_place", 12)]) (N := N_law_sets_right) (sc := defScope s_law_sets_right) (by decide +kernel)) (fun _ _ _ _ _ => (pg_name (i := 12) sc_law_sets_right.nd rfl (by first | exact Or.inl rfl | exact Or.inr rfl))) (fun _ _ _ _ _ => pts_nil) (fun _ _ _ _ _ => (pe_op op_add (pv 12) (pv 11)))) pa_nil)))))
    (pss_one (ps_ret pe_bl))
    pss_nil))))
    pss_nil)))))
  (pss_cons (ps_setLc (i := 6) (own := [("_law_places_here", 10)]) (g := gName 10) (by rfl) sc_law_sets_right.nd rfl rfl (sw_true rfl rfl rfl (by decide +kernel)) (k_piL K rfl (pv 4)) (blkOk_by (own := [("_law_places_here", 10)]) (N := N_law_sets_right) (sc := defScope s_law_sets_right) (by decide +kernel)) (fun _ _ _ _ _ => (pg_name (i := 10) sc_law_sets_right.nd rfl (by first | exact Or.inl rfl | exact Or.inr rfl))) (fun _ _ _ _ _ => (pts_one (pt_cmpR op_lt (pe_callB (k_len K rfl) (by rfl) T.n_len (by decide +kernel) (pa_cons (pv 10) pa_nil)) pe_int (nomark _)))) (fun _ _ _ _ _ => (pv 10)))
  (pss_cons (ps_set (i := 7) sc_law_sets_right.nd rfl (by first | exact Or.inl rfl | exact Or.inr rfl) (pe_callB (k_min K rfl rfl) (by rfl) T.n_min (by decide +kernel) (pa_cons (pe_op op_cat (pe_lc (own := [("_law_places_here", 10)]) (g := gName 10) (tt := tYes) (by rfl) sc_law_sets_right.nd (k_piL K rfl (pv 6)) (blkOk_by (own := [("_law_places_here", 10)]) (N := N_law_sets_right) (sc := defScope s_law_sets_right) (by decide +kernel)) (fun _ _ _ _ _ => (pg_name (i := 10) sc_law_sets_right.nd rfl (by first | exact Or.inl rfl | exact Or.inr rfl))) (fun _ _ _ _ _ => pts_nil) (fun _ _ _ _ _ => (pe_callB (k_len K rfl) (by rfl) T.n_len (by decide +kernel) (pa_cons (pv 10) pa_nil)))) (pe_lst (pa_cons pe_int pa_nil))) pa_nil)))
  (pss_cons (ps_set (i := 8) sc_law_sets_right.nd rfl (by first | exact Or.inl rfl | exact Or.inr rfl) (pe_ix (k_ixL K rfl) (pe_lst (pa_cons pe_non (pa_cons (pe_slice (k_slL K rfl) (pe_callB (k_sortedR K rfl (hu65 hr)) (by rfl) T.n_sorted (by decide +kernel) (pa_cons (pe_lc (own := [("_law_places_here", 10)]) (g := gName 10) (by rfl) sc_law_sets_right.nd (k_piL K rfl (pv 6)) (blkOk_by (own := [("_law_places_here", 10)]) (N := N_law_sets_right) (sc := defScope s_law_sets_right) (by decide +kernel)) (fun _ _ _ _ _ => (pg_name (i := 10) sc_law_sets_right.nd rfl (by first | exact Or.inl rfl | exact Or.inr rfl))) (fun _ _ _ _ _ => (pts_one (pt_cmpR op_eq (pe_callB (k_len K rfl) (by rfl) T.n_len (by decide +kernel) (pa_cons (pv 10) pa_nil)) (pv 7) (nomark _)))) (fun _ _ _ _ _ => (pv 10))) pa_nil)) po_none (po_some pe_int)) pa_nil))) (pe_callTy call_int1 (by rfl) T.n_int (by decide +kernel) (pa_cons (pe_cmpR (k_neD K rfl hr.units) (pv 6) (pe_lst pa_nil) (nomark _)) pa_nil)) (fun _ _ => rfl)))
  (pss_cons (ps_if (pt_cmpR op_ne (pe_call (G_distance T) (hr.mono (by decide)) (by rfl) T.g_distance T.F_distance.kp T.b_distance .nil pass0 (pa_cons (pv 1) (pa_cons (pv 3) pa_nil))) (pe_ix (k_ixL K rfl) (pe_lst (pa_cons pe_non (pa_cons (pv 7) pa_nil))) (pe_callTy call_int1 (by rfl) T.n_int (by decide +kernel) (pa_cons (pe_cmpR (k_neD K rfl hr.units) (pv 6) (pe_lst pa_nil) (nomark _)) pa_nil)) (fun _ _ => rfl)) (nomark _))
    (pss_one (ps_ret pe_bl))
    pss_nil)
  (pss_cons (ps_set (i := 9) sc_law_sets_right.nd rfl (by first | exact Or.inl rfl | exact Or.inr rfl) (pe_call (G_least_unseen T) (hr.mono (by decide)) (by rfl) T.g_least_unseen T.F_least_unseen.kp T.b_least_unseen .nil pass0 (pa_cons (pv 1) (pa_cons (pv 3) pa_nil))))
  (pss_cons (ps_if (PW.pt (pw_or (PW.pt (pw_and (pt_cmpR (k_neD K rfl hr.units) (pv 6) (pe_lst pa_nil) (nomark _)) (pw_and1 (pt_cmpR (k_neD K rfl hr.units) (pe_lst (pa_cons (pv 9) pa_nil)) (pv 8) (nomark _))))) (pw_or1 (PW.pt (pw_and (pt_cmpR (k_eqD K rfl hr.units) (pv 6) (pe_lst pa_nil) (nomark _)) (pw_and1 (pt_cmpR op_notN (pv 9) pe_non (nomark _))))))))
    (pss_one (ps_ret pe_bl))
    pss_nil)
  (pss_one (ps_ret (pe_or (pe_not (pe_call (G_all_odd T) (hr.mono (by decide)) (by rfl) T.g_all_odd T.F_all_odd.kp T.b_all_odd .nil pass0 (pa_cons (pv 1) pa_nil))) (pe_one (pe_cmpR (k_eqD K rfl hr.units) (pe_lc (own := [("_law_places_here", 10)]) (g := gName 10) (by rfl) sc_law_sets_right.nd (k_piL K rfl (pv 4)) (blkOk_by (own := [("_law_places_here", 10)]) (N := N_law_sets_right) (sc := defScope s_law_sets_right) (by decide +kernel)) (fun _ _ _ _ _ => (pg_name (i := 10) sc_law_sets_right.nd rfl (by first | exact Or.inl rfl | exact Or.inr rfl))) (fun _ _ _ _ _ => (pts_one (pt_cmpR op_eq (pe_op op_mod (pe_callB (k_len K rfl) (by rfl) T.n_len (by decide +kernel) (pa_cons (pv 10) pa_nil)) pe_int) pe_int (nomark _)))) (fun _ _ _ _ _ => (pv 10))) (pe_lst pa_nil) (nomark _)))))))))))))), ?_⟩
  have hK := hC.1
  have hp8 : 2 ^ m ≤ 2 ^ 8 := Nat.pow_le_pow_right (by decide) hm
  obtain ⟨x0, y0, z0, hg0, _⟩ := id hG
  have ncg : c ≠ g := hC.ne hg0
  obtain ⟨M, hM⟩ : ∃ M, M = 2 ^ m := ⟨_, rfl⟩
  rw [← hM] at hp8
  obtain ⟨d, t, f4, hB⟩ := bounds_ex hK
  refine ⟨(show 0 ≤ sizeLine by decide), fun f nf => ?_⟩
  obtain ⟨H1, e1, s1, h1⟩ := fresh (.lst []) nf
  rw [e1]
  have nfg : f ≠ g := hG.ne nf
  have eM : (1 : Int) * 2 ^ ((m : Int)).toNat = ((M : Nat) : Int) := by
    rw [hM, Int.one_mul, Int.toNat_natCast, Int.natCast_pow]
    rfl
  refine ⟨_, rfl, _, _, rfl, rfl, ⟨by omega, by omega, by decide⟩, ?_⟩
  walk_at "b"
  rw [eM]
  refine ⟨_, _, rfl, by omega, ?_⟩
  refine for_range (lo := 1) (n := (((M : Nat) : Int) - 1).toNat) (fun i σ H2 => ∃ v5 v6 v7 v8 v9 v10 v11 v12 ps, σ = [some (.ref g), some (.ref c), some (.int W), some (.int m), some (.ref f), v5, v6, v7, v8, v9, v10, v11, v12] ∧ But g H H2 ∧ GenAt H2 g (n + 100 * i) ∧ H2 f = some (.lst (refs ps)) ∧ Prs H2 m ps ∧ (∀ q ∈ ps, q.1 ≠ f ∧ q.1 ≠ g) ∧ ps.map Prod.snd = unsN wd W (i + 1)) ⟨_, _, _, _, _, _, _, _, [], rfl, But.of s1, hG.same s1, h1, fun _ h => by simp at h, fun _ h => by simp at h, rfl⟩ ?_ ?_
  · rintro i σ H2 hi ⟨v5, v6, v7, v8, v9, v10, v11, v12, ps, rfl, b2, g2, f2, p2, n2, e2⟩
    have hi' : i + 1 < M := by omega
    rw [show (1 : Int) + (i : Int) = ((i + 1 : Nat) : Int) by omega]
    obtain ⟨N, hN⟩ : ∃ N, N = i + 1 := ⟨_, rfl⟩
    rw [← hN] at hi' e2 ⊢
    have hN0 : 0 < N := by omega
    refine ⟨_, rfl, N, m, rfl, by rw [← hM]; exact hi', by omega, fun H3 p s3 np h3 => ?_⟩
    refine ⟨_, rfl, _, rfl, wd, W, N, rfl, hK, by omega, Nat.lt_of_lt_of_le (show N < 2 ^ 9 by omega) (Nat.pow_le_pow_right (by decide) (by decide)), ?_⟩
    have b3 := b2.same s3
    have hC3 := hC.but ncg b3
    refine ⟨rfl, _, _, rfl, ?_⟩
    refine ⟨_, rfl, _, rfl, c, p, wd, W, onesN N m, rfl, hC3, h3, rising_ones0 (by omega), fun H4 s4 => ?_⟩
    rw [valP_ones hK (by rw [← hM]; exact hi')]
    have ed : decide (V.int ((rem wd W N : Nat) : Int) = V.int 0) = decide (rem wd W N = 0) := dec_nat (rem wd W N) 0
    rw [ed]
    obtain ⟨x1, x2, x3⟩ := bool_ok (decide (rem wd W N = 0))
    refine ⟨_, _, rfl, .bl _, x1, x2, x3, _, rfl, _, _, rfl, .bl _, x1, x2, x3, rfl, _, rfl, iteNF rfl ?_⟩
    have b4 := b3.same s4
    refine ⟨_, rfl, _, rfl, ?_⟩
    by_cases z : rem wd W N = 0
    · rw [decide_eq_true z]
      refine iteT ?_
      have e34 := s3.trans s4
      have f4' := e34 _ _ f2
      have hlp : (refs ps).length < sizeLine := by
        have e : (refs ps).length = (unsN wd W N).length := by rw [← e2]; unfold refs; rw [List.length_map, List.length_map]
        rw [e]
        unfold unsN
        exact Nat.lt_of_le_of_lt (List.length_filter_le _ _) (by rw [List.length_range]; exact small1000' (by omega))
      refine ⟨_, rfl, .inl ⟨rfl, _, .inl (.inl f4')⟩, _, rfl, f, _, _, rfl, rfl, f4', hlp, ?_⟩
      obtain ⟨H5, e5⟩ : ∃ H5, H5 = upd H4 f (.lst (refs ps ++ [V.ref p])) := ⟨_, rfl⟩
      rw [← e5]
      have npf : p ≠ f := (ne_of_none f2 np).symm
      have npg : p ≠ g := g2.ne np
      have o5 : ∀ b o, b ≠ f → H4 b = some o → H5 b = some o := fun b o hb h => by rw [e5, upd_ne hb]; exact h
      have b5 : But g H H5 := fun b o hb h => o5 b o (ne_of_none h nf) (b4 b o hb h)
      have g5 : GenAt H5 g (n + 100 * i) := by
        obtain ⟨x, y, z', hx, hz⟩ := g2.same e34
        exact ⟨x, y, z', o5 _ _ nfg.symm hx, hz⟩
      refine ⟨_, rfl, g, _, _, rfl, g5, by omega, by decide, small_2900 (by decide), fun r H6 r0 r1 g6 b6 => ?_⟩
      obtain ⟨st, rfl⟩ : ∃ k : Nat, r = (k : Int) := ⟨r.toNat, by omega⟩
      have h6p : H6 p = some (.lst ((natI (onesN N m)).map V.int)) := b6 _ _ npg (o5 _ _ npf (s4 _ _ h3))
      have b56 := b5.trans b6
      refine ⟨_, _, rfl, rfl, ?_⟩
      refine ⟨_, rfl, _, rfl, p, rfl, ⟨_, .inl (.inl h6p)⟩, fun D nD => ?_⟩
      have hlen : (natI ((onesN N m).map (· + (1 + st)))).map V.int = ((onesN N m).map fun x => V.int ((x + (1 + st) : Nat) : Int)) := by
        unfold natI
        rw [List.map_map, List.map_map]
        rfl
      refine lc_mapL (K := K) (xs := (natI (onesN N m)).map V.int) ((natI ((onesN N m).map (· + (1 + st)))).map V.int) nD (.inl (.inl h6p)) (by rw [nat_len, nat_len, List.length_map]) (by rw [nat_len]; have := (rising_ones0 (n := N) (m := m) (by omega)).2.2; exact small1000' (by omega)) (fun x => rfl) ?_ ?_
      · intro k x y H' hx hy s Qt qt
        obtain ⟨u, hu, rfl⟩ := nat_at hx
        rw [hlen, List.getElem?_map, hu] at hy
        cases hy
        refine ⟨_, rfl, _, rfl, _, _, rfl, rfl, ?_⟩
        have z := qt H' (Same.refl _)
        dsimp only at z
        rw [show ((u + (1 + st) : Nat) : Int) = (u : Int) + (1 + (st : Int)) by omega] at z
        exact z
      · intro H7 s7 hD
        refine ⟨c, D, wd, W, _, rfl, (hC.but ncg b56).same s7, hD, rising_ones (by omega) (by omega), fun H8 s8 => ?_⟩
        rw [valP_far hK (1 + st) (by rw [← hM]; exact hi') z, decide_eq_true rfl]
        refine ⟨_, rfl, iteF ?_⟩
        have s68 := s7.trans s8
        refine ⟨_, _, _, _, _, _, _, _, ps ++ [(p, N)], rfl, b56.same s68, (g6.same s68).mono (by omega), s68 _ _ (b6 _ _ nfg (by rw [e5, upd_same]; simp [refs])), fun q hq => ?_, fun q hq => ?_, ?_⟩
        · rcases List.mem_append.mp hq with h | h
          · exact s68 _ _ (b6 _ _ (n2 q h).2 (o5 _ _ (n2 q h).1 (e34 _ _ (p2 q h))))
          · rw [List.mem_singleton.mp h]
            exact s68 _ _ h6p
        · rcases List.mem_append.mp hq with h | h
          · exact n2 q h
          · rw [List.mem_singleton.mp h]
            exact ⟨npf, npg⟩
        · rw [uns_succ, if_pos ⟨hN0, z⟩, List.map_append, e2]
          rfl
    · rw [decide_eq_false z]
      refine iteF ?_
      have e34 := s3.trans s4
      refine ⟨_, _, _, _, _, _, _, _, ps, rfl, b4, (g2.same e34).mono (by omega), e34 _ _ f2, p2.same e34, n2, ?_⟩
      rw [uns_succ, if_neg (fun y => z y.2), List.append_nil, e2]
  · rintro σ H2 ⟨v5, v6, v7, v8, v9, v10, v11, v12, ps, rfl, b2, g2, f2, p2, n2, e2⟩
    have eI : (((M : Nat) : Int) - 1).toNat + 1 = M := by
      have : 0 < M := by rw [hM]; exact Nat.two_pow_pos m
      omega
    rw [eI] at e2
    have hpsl : ps.length ≤ 256 := by
      have e : ps.length = (unsN wd W M).length := by rw [← e2, List.length_map]
      rw [e]
      unfold unsN
      exact Nat.le_trans (List.length_filter_le _ _) (by rw [List.length_range]; exact hp8)
    have rl : ∀ qs : List (Addr × Nat), qs.length ≤ 256 → (refs qs).length < sizeLine := fun qs h => by
      unfold refs
      rw [List.length_map]
      exact small1000' (by omega)
    have mps : ∀ q ∈ ps, q.2 < 2 ^ m ∧ 0 < q.2 ∧ rem wd W q.2 = 0 := fun q hq => by
      have h : q.2 ∈ unsN wd W M := by rw [← e2]; exact List.mem_map_of_mem hq
      rw [← hM]
      exact uns_mem.mp h
    -- small
    refine ⟨_, rfl, f, rfl, ⟨_, .inl (.inl f2)⟩, fun D1 nD1 => ?_⟩
    refine lc_refs ps (fun q => decide ((((onesN q.2 m).length : Nat) : Int) < 5)) nD1 (.inl (.inl f2)) (rl ps hpsl) (fun x => rfl) (fun q hq H' s Qb qb => ?_) (fun q hq H' Qv h => ⟨_, rfl, h⟩) ?_
    · refine ⟨_, rfl, q.1, _, rfl, .inl (.inl (.inl (s _ _ (p2 q hq)))), _, _, rfl, rfl, _, rfl, ?_⟩
      rw [nat_len]
      exact qb _ (Same.refl _)
    intro H3 s3 h3
    obtain ⟨sm, hsm⟩ : ∃ sm, sm = ps.filter (fun q => decide ((((onesN q.2 m).length : Nat) : Int) < 5)) := ⟨_, rfl⟩
    rw [← hsm] at h3
    have msm : ∀ q, q ∈ sm ↔ q ∈ ps ∧ (onesN q.2 m).length < 5 := fun q => by
      rw [hsm, List.mem_filter, decide_eq_true_eq]
      exact ⟨fun h => ⟨h.1, by omega⟩, fun h => ⟨h.1, by omega⟩⟩
    have hsml : sm.length ≤ 256 := by rw [hsm]; exact Nat.le_trans (List.length_filter_le _ _) hpsl
    have psm : Prs H3 m sm := fun q hq => s3 _ _ (p2 q ((msm q).mp hq).1)
    -- least
    obtain ⟨ls, hls⟩ : ∃ ls, ls = sm.map fun q => (onesN q.2 m).length := ⟨_, rfl⟩
    have hlsl : ls.length ≤ 256 := by rw [hls, List.length_map]; exact hsml
    refine ⟨_, rfl, D1, rfl, ⟨_, .inl (.inl h3)⟩, fun D2 nD2 => ?_⟩
    refine lc_mapL (K := K) (xs := refs sm) ((natI ls).map V.int) nD2 (.inl (.inl h3)) (by rw [nat_len, hls]; unfold refs; rw [List.length_map, List.length_map]) (rl sm hsml) (fun x => rfl) ?_ ?_
    · intro k x y H' hx hy s Qt qt
      obtain ⟨q, hq, hm', rfl⟩ := refs_at hx
      obtain ⟨u, hu, rfl⟩ := nat_at hy
      rw [hls, List.getElem?_map, hq] at hu
      cases hu
      refine ⟨_, rfl, q.1, _, rfl, .inl (.inl (.inl (s _ _ (psm q hm')))), ?_⟩
      rw [nat_len]
      exact qt _ (Same.refl _)
    intro H4 s4 h4
    refine ⟨(show 1 ≤ sizeLine by decide), fun L1 nL1 => ?_⟩
    obtain ⟨H5, e5, s5, h5⟩ := fresh (.lst [V.int 5]) nL1
    rw [e5]
    refine ⟨D2, L1, _, _, rfl, rfl, s5 _ _ h4, h5, by rw [nat_len]; exact Nat.le_of_lt (small1000' (by show ls.length + 1 ≤ 10000; omega)), fun L2 nL2 => ?_⟩
    have e25 : (natI ls).map V.int ++ [V.int 5] = (natI (ls ++ [5])).map V.int := by simp [natI]
    rw [e25]
    obtain ⟨H6, e6, s6, h6⟩ := fresh (.lst ((natI (ls ++ [5])).map V.int)) nL2
    rw [e6]
    refine ⟨L2, natI (ls ++ [5]), rfl, .inl (.inl h6), by simp [natI], fun lI hlm hlmin => ?_⟩
    obtain ⟨l, hl, rfl⟩ : ∃ l : Nat, l ∈ ls ++ [5] ∧ lI = (l : Int) := by
      unfold natI at hlm
      obtain ⟨l, h1, h2⟩ := List.mem_map.mp hlm
      exact ⟨l, h1, h2.symm⟩
    have lmin : ∀ x ∈ ls ++ [5], l ≤ x := fun x hx => by
      have := hlmin (x : Int) (by unfold natI; exact List.mem_map_of_mem hx)
      omega
    have s36 := s4.trans (s5.trans s6)
    have p6 := psm.same s36
    have hD1 := s36 _ _ h3
    -- due
    refine ⟨_, rfl, D1, rfl, ⟨_, .inl (.inl hD1)⟩, fun D3 nD3 => ?_⟩
    refine lc_refs sm (fun q => decide (V.int (((onesN q.2 m).length : Nat) : Int) = V.int (l : Int))) nD3 (.inl (.inl hD1)) (rl sm hsml) (fun x => rfl) (fun q hq H' s Qb qb => ?_) (fun q hq H' Qv h => ⟨_, rfl, h⟩) ?_
    · refine ⟨_, rfl, q.1, _, rfl, .inl (.inl (.inl (s _ _ (p6 q hq)))), _, rfl, rfl, _, rfl, ?_⟩
      rw [nat_len]
      exact qb _ (Same.refl _)
    intro H7 s7 h7
    obtain ⟨lp, hlp⟩ : ∃ lp, lp = sm.filter (fun q => decide (V.int (((onesN q.2 m).length : Nat) : Int) = V.int (l : Int))) := ⟨_, rfl⟩
    rw [← hlp] at h7
    have mlp : ∀ q, q ∈ lp ↔ q ∈ sm ∧ (onesN q.2 m).length = l := fun q => by
      rw [hlp, List.mem_filter, decide_eq_true_eq]
      exact ⟨fun h => ⟨h.1, by have := V.int.inj h.2; omega⟩, fun h => ⟨h.1, by rw [h.2]⟩⟩
    have p7 := p6.same s7
    refine ⟨D3, lp.map (fun q => (V.ref q.1, natI (onesN q.2 m))), rfl, .inl (.inl (by rw [h7, List.map_map]; rfl)), fun z hz => ?_, fun qs p hperm hpw np => ?_⟩
    · obtain ⟨q, hq, rfl⟩ := List.mem_map.mp hz
      exact .lst (.inl (.inl (p7 q ((mlp q).mp hq).1))) (Pre.dp_ints _)
    obtain ⟨H8, e8, s8, h8⟩ := fresh (.lst (qs.map Prod.fst)) np
    rw [e8]
    refine ⟨_, rfl, p, _, rfl, .inl (.inl h8), fun S nS => ?_⟩
    have ecut : cutV (qs.map Prod.fst) none (some 1) = (qs.map Prod.fst).take 1 := cut_take _ 1
    rw [ecut]
    obtain ⟨H9, e9, s9, h9⟩ := fresh (.lst ((qs.map Prod.fst).take 1)) nS
    rw [e9]
    refine ⟨(show 2 ≤ sizeLine by decide), fun L3 nL3 => ?_⟩
    obtain ⟨H10, e10, s10, h10⟩ := fresh (.lst [V.non, V.ref S]) nL3
    rw [e10]
    refine ⟨_, rfl, (show 0 ≤ sizeLine by decide), fun E1 nE1 => ?_⟩
    obtain ⟨H11, e11, s11, h11⟩ := fresh (.lst []) nE1
    rw [e11]
    have s711 := s8.trans (s9.trans (s10.trans s11))
    have s611 := s7.trans s711
    have rows : ∀ {H'}, Same H11 H' → RowsIn H' D1 (sm.map fun q => natI (onesN q.2 m)) := fun s => (Prs.rows (p6.same s611) (s611 _ _ hD1)).same s
    have b11 : But g H H11 := b2.same (s3.trans (s36.trans s611))
    have g11 : GenAt H11 g (n + 30000) := (g2.same (s3.trans (s36.trans s611))).mono (by omega)
    have odd : ∀ {H12}, Same H11 H12 → True := fun _ => trivial
    refine ne_empty (rows (Same.refl _)) h11 ?_
    obtain ⟨r, hr⟩ := least_ex (n := m) hB
    have hd : d ≤ 2048 := by
      obtain ⟨d', hO', hd'⟩ := order_ex hK
      have e := order_uniq hO' hB.1
      have : 2 ^ wd ≤ 2 ^ 4 := Nat.pow_le_pow_right (by decide) hw
      omega
    have hC11 := hC.but ncg b11
    have hm18 : m ≤ 10 ^ 18 := by omega
    have s211 := s3.trans (s36.trans s611)
    cases r with
    | none =>
      have hno : sm = [] := List.eq_nil_iff_forall_not_mem.mpr fun q hq => by
        have h1 := (msm q).mp hq
        have h2 := mps q h1.1
        have := (least_len hK hB h2.2.1 h2.1 h2.2.2).1 hr
        omega
      have hr' : distF d t f4 m = none := hr
      have em : decide (sm.map (fun q => natI (onesN q.2 m)) = []) = true := decide_eq_true (by rw [hno]; rfl)
      rw [em]
      refine .inr ⟨_, rfl, L3, _, _, .non, rfl, rfl, .inl (.inl (s11 _ _ h10)), rfl, ?_⟩
      refine ⟨_, rfl, _, rfl, c, wd, W, m, d, t, f4, rfl, hC11, hB, hd, hm18, fun H12 s12 => ?_⟩
      rw [hr']
      refine ⟨_, rfl, (show 2 ≤ sizeLine by decide), fun L4 nL4 => ?_⟩
      obtain ⟨H13, e13, s13, h13⟩ := fresh (.lst [V.non, V.int (l : Int)]) nL4
      rw [e13]
      refine ⟨_, rfl, (show 0 ≤ sizeLine by decide), fun E2 nE2 => ?_⟩
      obtain ⟨H14, e14, s14, h14⟩ := fresh (.lst []) nE2
      rw [e14]
      have s1114 := s12.trans (s13.trans s14)
      refine ne_empty (rows s1114) h14 ?_
      rw [em]
      refine .inr ⟨_, rfl, L4, _, _, .non, rfl, rfl, .inl (.inl (s14 _ _ h13)), rfl, rfl, _, rfl, iteNF rfl ?_⟩
      refine ⟨_, rfl, _, rfl, c, wd, W, m, d, t, f4, rfl, hC11.same s1114, hB, hd, hm18, fun H15 v r s15 hr2 hv => ?_⟩
      cases least_uniq hK hB.1 hr2 hr
      have ev : v = V.non := hv
      subst ev
      have s1115 := s1114.trans s15
      refine ⟨_, rfl, (show 0 ≤ sizeLine by decide), fun E3 nE3 => ?_⟩
      obtain ⟨H16, e16, s16, h16⟩ := fresh (.lst []) nE3
      rw [e16]
      refine ne_empty (rows (s1115.trans s16)) h16 ?_
      rw [em]
      refine ⟨_, rfl, iteF ?_⟩
      refine iteF ?_
      refine ⟨_, rfl, (show 0 ≤ sizeLine by decide), fun E4 nE4 => ?_⟩
      obtain ⟨H17, e17, s17, h17⟩ := fresh (.lst []) nE4
      rw [e17]
      have s1117 := s1115.trans (s16.trans s17)
      refine eq_empty (rows s1117) h17 ?_
      rw [em]
      refine ⟨_, rfl, iteT ?_⟩
      refine ⟨_, rfl, rfl, _, rfl, iteNF rfl ?_⟩
      refine ⟨_, rfl, c, wd, W, rfl, hC11.same s1117, fun H20 s20 => ?_⟩
      have s1120 := s1117.trans s20
      have s220 := s211.trans s1120
      refine ⟨_, rfl, _, rfl, ?_⟩
      by_cases hpar : (onesN W (wd + 1)).length % 2 = 0
      · rw [decide_eq_true hpar]
        refine iteF ?_
        refine ⟨_, rfl, f, rfl, ⟨_, .inl (.inl (s220 _ _ f2))⟩, fun D9 nD9 => ?_⟩
        refine lc_refs ps (fun q => decide (V.int ((((onesN q.2 m).length : Nat) : Int) % 2) = V.int 1)) nD9 (.inl (.inl (s220 _ _ f2))) (rl ps hpsl) (fun x => rfl) (fun q hq H' s Qb qb => ?_) (fun q hq H' Qv h => ⟨_, rfl, h⟩) ?_
        · refine ⟨_, rfl, q.1, _, rfl, .inl (.inl (.inl (s _ _ (s220 _ _ (p2 q hq))))), _, _, rfl, rfl, (by show (0 : Int) < 2; decide), rfl, _, rfl, ?_⟩
          rw [nat_len]
          exact qb _ (Same.refl _)
        intro H21 s21 h21
        have en : ps.filter (fun q => decide (V.int ((((onesN q.2 m).length : Nat) : Int) % 2) = V.int 1)) = [] := List.filter_eq_nil_iff.mpr fun q hq z => by
          have h1 := mps q hq
          have h2 := par_even hK hpar h1.1 h1.2.2
          have h3 := V.int.inj (of_decide_eq_true z)
          omega
        rw [en] at h21
        refine ⟨(show 0 ≤ sizeLine by decide), fun E9 nE9 => ?_⟩
        obtain ⟨H22, e22, s22, h22⟩ := fresh (.lst []) nE9
        rw [e22]
        refine eq_empty (xs := []) ⟨[], s22 _ _ h21, rfl, fun i a r ha hr => by simp at ha⟩ h22 ?_
        have sx := s1120.trans (s21.trans s22)
        exact q _ (b11.same sx) (g11.same sx)
      · rw [decide_eq_false hpar]
        refine iteT ?_
        exact q _ (b11.same s1120) (g11.same s1120)
    | some xs =>
      obtain ⟨k1, k2, k3, k4⟩ := least_num hK hB hr
      have hsz := least_size hr
      have hx4 := (least_unseen_zero hK hB hr).2.2.1
      obtain ⟨q0, hq0, eq0⟩ : ∃ q ∈ ps, q.2 = numS xs := by
        have : numS xs ∈ ps.map Prod.snd := by rw [e2]; exact uns_mem.mpr ⟨by rw [hM]; exact k2, k1, k3⟩
        exact List.mem_map.mp this
      have eo : onesN q0.2 m = xs := by rw [eq0, k4]
      have hq0s : q0 ∈ sm := (msm q0).mpr ⟨hq0, by rw [eo]; omega⟩
      have em : decide (sm.map (fun q => natI (onesN q.2 m)) = []) = false := decide_eq_false (by
        intro z
        rw [List.map_eq_nil_iff] at z
        rw [z] at hq0s
        simp at hq0s)
      have el : l = xs.length := by
        have h1 : l ≤ xs.length := lmin _ (List.mem_append_left _ (by rw [hls]; exact List.mem_map.mpr ⟨q0, hq0s, by rw [eo]⟩))
        have h2 : xs.length ≤ l := by
          rcases List.mem_append.mp hl with h | h
          · rw [hls] at h
            obtain ⟨q, hq, rfl⟩ := List.mem_map.mp h
            have h3 := mps q ((msm q).mp hq).1
            exact (least_len hK hB h3.2.1 h3.1 h3.2.2).2 _ hsz
          · rw [List.mem_singleton.mp h]; omega
        omega
      -- the first of the sorted ones
      have hin : (V.ref q0.1, natI xs) ∈ qs := hperm.mem_iff.mpr (List.mem_map.mpr ⟨q0, (mlp q0).mpr ⟨hq0s, by rw [eo, el]⟩, by rw [eo]⟩)
      obtain ⟨a0, n0, qr, eqs⟩ : ∃ a0 n0 qr, qs = (V.ref a0, natI (onesN n0 m)) :: qr ∧ (a0, n0) ∈ lp := by
        cases hq : qs with
        | nil => rw [hq] at hin; simp at hin
        | cons z qr =>
          have : z ∈ lp.map (fun q => (V.ref q.1, natI (onesN q.2 m))) := hperm.mem_iff.mp (by rw [hq]; exact List.mem_cons_self)
          obtain ⟨q, hq', rfl⟩ := List.mem_map.mp this
          exact ⟨q.1, q.2, qr, rfl, hq'⟩
      obtain ⟨eqs, ml⟩ := eqs
      have h0 := (mlp _).mp ml
      have h0p := ((msm _).mp h0.1).1
      have h0m := mps _ h0p
      have efirst : natI (onesN n0 m) = natI xs := by
        have le1 : natI xs ≤ natI (onesN n0 m) := un_lex hK hB hr (ones_rise n0 m) (fun y hy => (ones_mem.mp hy).1) (by rw [valP_ones hK h0m.1]; exact h0m.2.2) (by rw [← el]; exact h0.2)
        have le2 : natI (onesN n0 m) ≤ natI xs := by
          rw [eqs] at hin hpw
          rcases List.mem_cons.mp hin with e | h
          · rw [(Prod.mk.inj e).2]; exact List.le_refl _
          · exact (List.pairwise_cons.mp hpw).1 _ h
        exact List.le_antisymm le2 le1
      have h9' : H9 S = some (.lst [V.ref a0]) := by rw [h9, eqs]; rfl
      have h9a : H9 a0 = some (.lst ((natI xs).map V.int)) := by
        rw [← efirst]
        exact s9 _ _ (s8 _ _ (p7 _ h0.1))
      rw [em]
      refine .inr ⟨_, rfl, L3, _, _, .ref S, rfl, rfl, .inl (.inl (s11 _ _ h10)), rfl, ?_⟩
      refine ⟨_, rfl, _, rfl, c, wd, W, m, d, t, f4, rfl, hC11, hB, hd, hm18, fun H12 s12 => ?_⟩
      rw [hsz, ← el]
      refine ⟨_, rfl, (show 2 ≤ sizeLine by decide), fun L4 nL4 => ?_⟩
      obtain ⟨H13, e13, s13, h13⟩ := fresh (.lst [V.non, V.int (l : Int)]) nL4
      rw [e13]
      refine ⟨_, rfl, (show 0 ≤ sizeLine by decide), fun E2 nE2 => ?_⟩
      obtain ⟨H14, e14, s14, h14⟩ := fresh (.lst []) nE2
      rw [e14]
      have s1114 := s12.trans (s13.trans s14)
      refine ne_empty (rows s1114) h14 ?_
      rw [em]
      refine .inr ⟨_, rfl, L4, _, _, .int (l : Int), rfl, rfl, .inl (.inl (s14 _ _ h13)), rfl, rfl, _, rfl, iteNF rfl ?_⟩
      refine ⟨_, rfl, _, rfl, c, wd, W, m, d, t, f4, rfl, hC11.same s1114, hB, hd, hm18, fun H15 v r s15 hr2 hv => ?_⟩
      cases least_uniq hK hB.1 hr2 hr
      obtain ⟨tp, rfl, _, htp⟩ := hv
      have s1115 := s1114.trans s15
      refine ⟨_, rfl, (show 0 ≤ sizeLine by decide), fun E3 nE3 => ?_⟩
      obtain ⟨H16, e16, s16, h16⟩ := fresh (.lst []) nE3
      rw [e16]
      refine ne_empty (rows (s1115.trans s16)) h16 ?_
      rw [em]
      refine ⟨_, rfl, iteT ?_⟩
      refine ⟨_, rfl, (show 1 ≤ sizeLine by decide), fun E5 nE5 => ?_⟩
      obtain ⟨H18, e18, s18, h18⟩ := fresh (.lst [V.ref tp]) nE5
      rw [e18]
      have s1118 := s1115.trans (s16.trans s18)
      have rr : ∀ {H' : Hp} {pp aa : Addr}, H' pp = some (.lst [V.ref aa]) → H' aa = some (.lst ((natI xs).map V.int)) → RowsIn H' pp [natI xs] := fun {H' pp aa} h1 h2 => ⟨[aa], h1, rfl, fun i a r ha hr => by
        match i, ha, hr with
        | 0, ha, hr => cases ha; cases hr; exact h2
        | j + 1, ha, _ => simp at ha⟩
      have s918 := s10.trans (s11.trans s1118)
      refine ⟨_, rfl, ne_rows (rr h18 (s18 _ _ (s16 _ _ htp))) (rr (s918 _ _ h9') (s918 _ _ h9a)) rfl ?_⟩
      refine ⟨_, rfl, iteF ?_⟩
      refine ⟨_, rfl, (show 0 ≤ sizeLine by decide), fun E4 nE4 => ?_⟩
      obtain ⟨H17, e17, s17, h17⟩ := fresh (.lst []) nE4
      rw [e17]
      have s1117 := s1118.trans s17
      refine eq_empty (rows s1117) h17 ?_
      rw [em]
      refine ⟨_, rfl, iteF ?_⟩
      refine ⟨_, rfl, c, wd, W, rfl, hC11.same s1117, fun H20 s20 => ?_⟩
      have s1120 := s1117.trans s20
      have s220 := s211.trans s1120
      refine ⟨_, rfl, _, rfl, ?_⟩
      by_cases hpar : (onesN W (wd + 1)).length % 2 = 0
      · rw [decide_eq_true hpar]
        refine iteF ?_
        refine ⟨_, rfl, f, rfl, ⟨_, .inl (.inl (s220 _ _ f2))⟩, fun D9 nD9 => ?_⟩
        refine lc_refs ps (fun q => decide (V.int ((((onesN q.2 m).length : Nat) : Int) % 2) = V.int 1)) nD9 (.inl (.inl (s220 _ _ f2))) (rl ps hpsl) (fun x => rfl) (fun q hq H' s Qb qb => ?_) (fun q hq H' Qv h => ⟨_, rfl, h⟩) ?_
        · refine ⟨_, rfl, q.1, _, rfl, .inl (.inl (.inl (s _ _ (s220 _ _ (p2 q hq))))), _, _, rfl, rfl, (by show (0 : Int) < 2; decide), rfl, _, rfl, ?_⟩
          rw [nat_len]
          exact qb _ (Same.refl _)
        intro H21 s21 h21
        have en : ps.filter (fun q => decide (V.int ((((onesN q.2 m).length : Nat) : Int) % 2) = V.int 1)) = [] := List.filter_eq_nil_iff.mpr fun q hq z => by
          have h1 := mps q hq
          have h2 := par_even hK hpar h1.1 h1.2.2
          have h3 := V.int.inj (of_decide_eq_true z)
          omega
        rw [en] at h21
        refine ⟨(show 0 ≤ sizeLine by decide), fun E9 nE9 => ?_⟩
        obtain ⟨H22, e22, s22, h22⟩ := fresh (.lst []) nE9
        rw [e22]
        refine eq_empty (xs := []) ⟨[], s22 _ _ h21, rfl, fun i a r ha hr => by simp at ha⟩ h22 ?_
        have sx := s1120.trans (s21.trans s22)
        exact q _ (b11.same sx) (g11.same sx)
      · rw [decide_eq_false hpar]
        refine iteT ?_
        exact q _ (b11.same s1120) (g11.same s1120)
end
end My

namespace My
open PySem PySem.Spec PyProof.Rows L2 Pre
theorem sel_nat (Pd : Nat → Bool) (g : Nat → Nat) : ∀ l : List Nat, (l.map fun i => if Pd i = true then some (V.int ((g i : Nat) : Int)) else none).filterMap id = (natI ((l.filter Pd).map g)).map V.int
  | [] => rfl
  | i :: l => by
    have ih := sel_nat Pd g l
    unfold natI at ih ⊢
    by_cases c : Pd i = true
    · rw [List.map_cons, if_pos c, List.filter_cons_of_pos c, List.map_cons, List.map_cons, List.map_cons, ← ih]
      rfl
    · rw [List.map_cons, if_neg c, List.filter_cons_of_neg c, ← ih]
      rfl
def rowN (wd W M : Nat) : List Nat := (List.range M).filter fun n => decide (V.int ((rem wd W n : Nat) : Int) = V.int 0)
theorem rowN_mem {wd W M n : Nat} : n ∈ rowN wd W M ↔ n < M ∧ rem wd W n = 0 := by
  unfold rowN
  rw [List.mem_filter, List.mem_range]
  have := dec_nat (rem wd W n) 0
  constructor
  · rintro ⟨h1, h2⟩
    exact ⟨h1, by have := V.int.inj (of_decide_eq_true h2); omega⟩
  · rintro ⟨h1, h2⟩
    exact ⟨h1, by rw [h2]; rfl⟩
theorem rowN_first {wd W M : Nat} (h : 0 < M) : (rowN wd W M)[0]? = some 0 := by
  obtain ⟨k, rfl⟩ : ∃ k, M = k + 1 := ⟨M - 1, by omega⟩
  unfold rowN
  rw [List.range_succ_eq_map, List.filter_cons_of_pos (by rw [rem_zero]; rfl)]
  rfl
theorem rowN_len (wd W M : Nat) : (rowN wd W M).length ≤ M := by
  unfold rowN
  exact Nat.le_trans (List.length_filter_le _ _) (by rw [List.length_range]; omega)
local macro_rules | `(tactic| walk_at "go") => `(tactic| repeat (first | (with_reducible first | refine iteT ?_ | refine iteF ?_ | refine iteNtt ?_ | refine iteNff ?_ | refine iteET (by omega) ?_ | refine iteEF (by omega) ?_ | refine iteENT (by omega) ?_ | refine iteENF (by omega) ?_ | refine iteDT (by omega) ?_ | refine iteDF (by omega) ?_ | refine iteNT (by omega) ?_ | refine iteNF (by omega) ?_) | refine ⟨_, rfl, ?_⟩ | refine ⟨_, _, rfl, rfl, ?_⟩ | refine ⟨_, _, rfl, ?_⟩ | refine ⟨rfl, ?_⟩ | refine .inl ⟨_, rfl, ?_⟩ | refine .inr ⟨_, rfl, ?_⟩))
local macro_rules | `(tactic| walk_at "b") => `(tactic| try dsimp (config := { proj := false, iota := false, eta := false, zeta := false }) only)
section
variable {P : Program} {w : World} {K : PySem.W.Frag} {mg : Str → Option Value} {base : Heap}
def sp_law_rows_right (C : Addr) (K : PySem.W.Frag) : Sp := fun vs H Q _ => ∃ (c : Addr) (wd W m : Nat), vs = [.ref c, .int W, .int m] ∧ CheckAt C H c wd W ∧ wd ≤ 4 ∧ m ≤ 8 ∧ ∀ H', Same H H' → Q (.bl true) H'
theorem G_law_rows_right (T : Top K mg) : FnOk P w K mg base CX0 5 T.f_law_rows_right T.fd_law_rows_right ["_law_check", "_law_whole", "_law_many"] (sp_law_rows_right T.C_Check K) := by
  refine T.F_law_rows_right.ok sc_law_rows_right (fun vs H Q E h => by obtain ⟨c, wd, W, m, rfl, _⟩ := h; rfl) (fun cdv A outer s H vs Q E hr h => ?_)
  obtain ⟨c, wd, W, m, rfl, hC, hw, hm, q⟩ := h
  refine ⟨_, PSs.nox (pss_cons (ps_setLc (i := 3) (own := [("_law_number", 7)]) (g := gName 7) (by rfl) sc_law_rows_right.nd rfl rfl (sw_true rfl rfl rfl (by decide +kernel)) (pi_range1 (by rfl) T.n_range (pa_cons (pe_op op_shl pe_int (pv 2)) pa_nil)) (blkOk_by (own := [("_law_number", 7)]) (N := N_law_rows_right) (sc := defScope s_law_rows_right) (by decide +kernel)) (fun _ _ _ _ _ => (pg_name (i := 7) sc_law_rows_right.nd rfl (by first | exact Or.inl rfl | exact Or.inr rfl))) (fun _ _ _ _ _ => (pts_one (pt_cmpR op_eq (pe_call (G_law_rest T) (hr.mono (by decide)) (by rfl) T.g_law_rest T.F_law_rest.kp T.b_law_rest .nil pass0 (pa_cons (pv 1) (pa_cons (pv 7) pa_nil))) pe_int (nomark _)))) (fun _ _ _ _ _ => (pv 7)))
  (pss_cons (ps_if (pt_cmpR (k_neD K rfl hr.units) (pe_lc (own := [("_law_number", 7)]) (g := gName 7) (by rfl) sc_law_rows_right.nd (k_piL K rfl (pv 3)) (blkOk_by (own := [("_law_number", 7)]) (N := N_law_rows_right) (sc := defScope s_law_rows_right) (by decide +kernel)) (fun _ _ _ _ _ => (pg_name (i := 7) sc_law_rows_right.nd rfl (by first | exact Or.inl rfl | exact Or.inr rfl))) (fun _ _ _ _ _ => (pts_one (pt_not (pt_val (pe_call (G_is_right T) (hr.mono (by decide)) (by rfl) T.g_is_right T.F_is_right.kp T.b_is_right .nil pass0 (pa_cons (pv 0) (pa_cons (pe_call (G_law_bits T) (hr.mono (by decide)) (by rfl) T.g_law_bits T.F_law_bits.kp T.b_law_bits .nil pass0 (pa_cons (pv 7) (pa_cons (pv 2) pa_nil))) pa_nil))))))) (fun _ _ _ _ _ => (pv 7))) (pe_lst pa_nil) (nomark _))
    (pss_one (ps_ret pe_bl))
    pss_nil)
  (pss_cons (ps_set (i := 4) sc_law_rows_right.nd rfl (by first | exact Or.inl rfl | exact Or.inr rfl) (pe_lst pa_nil))
  (pss_cons (ps_for PassesOwn.never rfl (k_piL K rfl (pe_slice (k_slL K rfl) (pv 3) po_none (po_some pe_int))) (pg_name (i := 5) sc_law_rows_right.nd rfl (by first | exact Or.inl rfl | exact Or.inr rfl))
    (pss_one (ps_set (i := 4) sc_law_rows_right.nd rfl (by first | exact Or.inl rfl | exact Or.inr rfl) (pe_op op_cat (pv 4) (pe_lc (own := [("_law_other", 8)]) (g := gName 8) (by rfl) sc_law_rows_right.nd (k_piL K rfl (pv 3)) (blkOk_by (own := [("_law_other", 8)]) (N := N_law_rows_right) (sc := defScope s_law_rows_right) (by decide +kernel)) (fun _ _ _ _ _ => (pg_name (i := 8) sc_law_rows_right.nd rfl (by first | exact Or.inl rfl | exact Or.inr rfl))) (fun _ _ _ _ _ => (pts_one (pt_cmpR op_ne (pv 5) (pv 8) (nomark _)))) (fun _ _ _ _ _ => (pe_callB (k_len K rfl) (by rfl) T.n_len (by decide +kernel) (pa_cons (pe_call (G_law_places T) (hr.mono (by decide)) (by rfl) T.g_law_places T.F_law_places.kp T.b_law_places .nil pass0 (pa_cons (pe_op op_xor (pv 5) (pv 8)) pa_nil)) pa_nil))))))))
  (pss_cons (ps_set (i := 6) sc_law_rows_right.nd rfl (by first | exact Or.inl rfl | exact Or.inr rfl) (pe_call (G_distance T) (hr.mono (by decide)) (by rfl) T.g_distance T.F_distance.kp T.b_distance .nil pass0 (pa_cons (pv 0) (pa_cons (pv 2) pa_nil))))
  (pss_cons (ps_if (pt_cmpR op_isN (pv 6) pe_non (nomark _))
    (pss_one (ps_ret (pe_or (pe_cmpR (k_eqD K rfl hr.units) (pv 4) (pe_lst pa_nil) (nomark _)) (pe_one (pe_cmpR op_gt (pe_callB (k_min K rfl rfl) (by rfl) T.n_min (by decide +kernel) (pa_cons (pv 4) pa_nil)) pe_int (nomark _))))))
    pss_nil)
  (pss_one (ps_ret (pe_and (pe_cmpR (k_neD K rfl hr.units) (pv 4) (pe_lst pa_nil) (nomark _)) (pe_one (pe_cmpR op_eq (pe_callB (k_min K rfl rfl) (by rfl) T.n_min (by decide +kernel) (pa_cons (pv 4) pa_nil)) (pv 6) (nomark _)))))))))))), ?_⟩
  have hK := hC.1
  obtain ⟨d, t, f4, hB⟩ := bounds_ex hK
  have hd : d ≤ 2048 := by
    obtain ⟨d', hO', hd'⟩ := order_ex hK
    have e := order_uniq hO' hB.1
    have : 2 ^ wd ≤ 2 ^ 4 := Nat.pow_le_pow_right (by decide) hw
    omega
  have hp8 : 2 ^ m ≤ 2 ^ 8 := Nat.pow_le_pow_right (by decide) hm
  have hM0 : 0 < 2 ^ m := Nat.two_pow_pos m
  obtain ⟨M, hM⟩ : ∃ M, M = 2 ^ m := ⟨_, rfl⟩
  rw [← hM] at hp8 hM0
  have eM : (1 : Int) * 2 ^ ((m : Int)).toNat = ((M : Nat) : Int) := by
    rw [hM, Int.one_mul, Int.toNat_natCast, Int.natCast_pow]
    rfl
  refine ⟨_, rfl, _, _, rfl, rfl, ⟨by omega, by omega, by decide⟩, ?_⟩
  walk_at "b"
  rw [eM]
  refine ⟨_, rfl, by omega, by omega, fun D nD => ?_⟩
  refine lc_selR (lo := 0) (n := ((M : Int)).toNat) ((List.range M).map fun i => if decide (V.int ((rem wd W i : Nat) : Int) = V.int 0) = true then some (V.int (i : Int)) else none) nD (by rw [List.length_map, List.length_range]; rfl) (small1000' (by omega)) (fun x => rfl) ?_ ?_
  · intro i o H' hi ho s Qt qt
    rw [Int.toNat_natCast] at hi
    rw [List.getElem?_map, List.getElem?_range hi] at ho
    cases ho
    rw [show (0 + (i : Int)) = (i : Int) by omega]
    refine ⟨_, rfl, _, rfl, wd, W, i, rfl, hK, by omega, Nat.lt_of_lt_of_le (show i < 2 ^ 9 by omega) (Nat.pow_le_pow_right (by decide) (by decide)), ?_⟩
    refine ⟨rfl, _, rfl, ?_⟩
    have z := qt H' (Same.refl _)
    dsimp only at z
    by_cases cb : decide (V.int ((rem wd W i : Nat) : Int) = V.int 0) = true
    · rw [if_pos cb] at z
      rw [cb]
      exact iteT ⟨_, rfl, z⟩
    · rw [if_neg cb] at z
      rw [Bool.not_eq_true] at cb
      rw [cb]
      exact iteF z
  intro H1 s1 h1
  rw [sel_nat (fun i => decide (V.int ((rem wd W i : Nat) : Int) = V.int 0)) (fun i => i)] at h1
  have er : ((List.range M).filter fun i => decide (V.int ((rem wd W i : Nat) : Int) = V.int 0)).map (fun i => i) = rowN wd W M := List.map_id' _
  rw [er] at h1
  have hrl := rowN_len wd W M
  have hz : ((natI (rowN wd W M)).map V.int).length < sizeLine := by rw [nat_len]; exact small1000' (by omega)
  -- all are right
  refine ⟨_, rfl, D, rfl, ⟨_, .inl (.inl h1)⟩, fun D2 nD2 => ?_⟩
  refine lc_selL (K := K) (xs := (natI (rowN wd W M)).map V.int) ((rowN wd W M).map fun _ => none) nD2 (.inl (.inl h1)) (by rw [List.length_map, nat_len]) hz (fun x => rfl) ?_ ?_
  · intro i x o H' hx ho s Qt qt
    obtain ⟨n, hn, rfl⟩ := nat_at hx
    rw [List.getElem?_map, hn] at ho
    cases ho
    have hnm := rowN_mem.mp (List.mem_of_getElem? hn)
    refine ⟨_, rfl, _, rfl, _, rfl, n, m, rfl, by omega, fun H2 s2 => ?_⟩
    refine ⟨c, wd, W, bitsB n m, rfl, (hC.same s1).same (s.trans s2), by rw [bitsB_len]; omega, fun H3 s3 => ?_⟩
    rw [restB_eq, numB_bits, Nat.mod_eq_of_lt (by rw [← hM]; exact hnm.1), hnm.2, decide_eq_true rfl]
    refine ⟨_, rfl, iteF ?_⟩
    exact qt _ (s2.trans s3)
  intro H2 s2 h2
  have en : ((rowN wd W M).map fun _ => (none : Option V)).filterMap id = ([] : List Int).map V.int := by
    induction rowN wd W M with
    | nil => rfl
    | cons x l ih => exact ih
  rw [en] at h2
  refine ⟨(show 0 ≤ sizeLine by decide), fun E1 nE1 => ?_⟩
  obtain ⟨H3, e3, s3, h3⟩ := fresh (.lst []) nE1
  rw [e3]
  refine ne_lst (ns := []) (.inl (.inl (s3 _ _ h2))) (.inl (.inl h3)) ⟨_, rfl, iteF ?_⟩
  -- apart
  refine ⟨(show 0 ≤ sizeLine by decide), fun A0 nA0 => ?_⟩
  obtain ⟨H4, e4, s4, h4⟩ := fresh (.lst []) nA0
  rw [e4]
  have s14 := s2.trans (s3.trans s4)
  have hD4 := s14 _ _ h1
  walk_at "b"
  obtain ⟨tk, htk⟩ : ∃ tk, tk = (rowN wd W M).take 9 := ⟨_, rfl⟩
  have ecut : cutV ((natI (rowN wd W M)).map V.int) none (some 9) = (natI tk).map V.int := by
    have := cut_take ((natI (rowN wd W M)).map V.int) 9
    rw [htk]
    refine this.trans ?_
    unfold natI
    rw [← List.map_take, ← List.map_take]
  have mtk : ∀ x ∈ tk, x < M ∧ rem wd W x = 0 := fun x hx => rowN_mem.mp (List.mem_of_mem_take (by rw [htk] at hx; exact hx))
  have ftk : tk[0]? = some 0 := by rw [htk, List.getElem?_take, if_pos (by decide), rowN_first hM0]
  have ltk : tk.length ≤ 9 := by rw [htk, List.length_take]; omega
  refine ⟨_, rfl, _, rfl, D, _, rfl, .inl (.inl hD4), fun R nR => ?_⟩
  rw [ecut]
  obtain ⟨H5, e5, s5, h5⟩ := fresh (.lst ((natI tk).map V.int)) nR
  rw [e5]
  have hD5 := s5 _ _ hD4
  refine ⟨R, rfl, ⟨_, .inl (.inl h5)⟩, for_list (K := K) (a := R) (xs := (natI tk).map V.int) (fun j σ H6 => ∃ v5 v6 v7 v8 A ap, σ = [some (.ref c), some (.int W), some (.int m), some (.ref D), some (.ref A), v5, v6, v7, v8] ∧ Same H5 H6 ∧ H6 A = some (.lst ((natI ap).map V.int)) ∧ (∀ x ∈ ap, ∃ n, 0 < n ∧ n < 2 ^ m ∧ rem wd W n = 0 ∧ x = (onesN n m).length) ∧ (0 < j → ∀ n, 0 < n → n < 2 ^ m → rem wd W n = 0 → (onesN n m).length ∈ ap) ∧ ap.length ≤ 256 * j) ⟨_, _, _, _, A0, [], rfl, Same.refl _, s5 _ _ h4, fun x h => by simp at h, fun h => absurd h (by omega), by simp⟩ (fun j σ H6 _ ⟨_, _, _, _, _, _, _, s, _⟩ => .inl (.inl (s _ _ h5))) ?_ ?_⟩
  · rintro j x σ H6 hx ⟨v5, v6, v7, v8, A, ap, rfl, s6, h6, F1, F2, F3⟩
    obtain ⟨o, ho, rfl⟩ := nat_at hx
    have hom := mtk o (List.mem_of_getElem? ho)
    have hj : j < 9 := by have := (List.getElem?_eq_some_iff.mp ho).1; omega
    have hD6 := s6 _ _ hD5
    refine ⟨_, rfl, _, rfl, D, rfl, ⟨_, .inl (.inl hD6)⟩, fun D3 nD3 => ?_⟩
    refine lc_selL (K := K) (xs := (natI (rowN wd W M)).map V.int) ((rowN wd W M).map fun (y : Nat) => if (!decide (V.int (o : Int) = V.int (y : Int))) = true then some (V.int (((onesN (o ^^^ y) m).length : Nat) : Int)) else none) nD3 (.inl (.inl hD6)) (by rw [List.length_map, nat_len]) hz (fun x => rfl) ?_ ?_
    · intro i x oo H' hx ho' s Qt qt
      obtain ⟨y, hy, rfl⟩ := nat_at hx
      rw [List.getElem?_map, hy] at ho'
      cases ho'
      have hym := rowN_mem.mp (List.mem_of_getElem? hy)
      have z := qt
      dsimp only at z
      refine ⟨_, rfl, _, rfl, rfl, _, rfl, ?_⟩
      by_cases cb : (!decide (V.int (o : Int) = V.int (y : Int))) = true
      · rw [if_pos cb] at z
        rw [cb]
        refine iteT ?_
        refine ⟨_, rfl, _, rfl, _, _, rfl, rfl, o ^^^ y, m, by show [V.int (Builtin.bitXor _ _)] = _; rw [bx], Nat.xor_lt_two_pow (by rw [← hM]; exact hom.1) (by rw [← hM]; exact hym.1), by omega, fun H7 p s7 np hp => ?_⟩
        refine ⟨p, _, rfl, .inl (.inl (.inl hp)), ?_⟩
        rw [nat_len]
        exact z _ s7
      · rw [if_neg cb] at z
        rw [Bool.not_eq_true] at cb
        rw [cb]
        exact iteF (z _ (Same.refl _))
    intro H7 s7 h7
    rw [sel_nat (fun (y : Nat) => !decide (V.int (o : Int) = V.int (y : Int))) (fun (y : Nat) => (onesN (o ^^^ y) m).length)] at h7
    obtain ⟨ad, had⟩ : ∃ ad, ad = ((rowN wd W M).filter fun (y : Nat) => !decide (V.int (o : Int) = V.int (y : Int))).map (fun (y : Nat) => (onesN (o ^^^ y) m).length) := ⟨_, rfl⟩
    rw [← had] at h7
    have mad : ∀ x, x ∈ ad ↔ ∃ y, (y < M ∧ rem wd W y = 0) ∧ o ≠ y ∧ (onesN (o ^^^ y) m).length = x := fun x => by
      rw [had, List.mem_map]
      constructor
      · rintro ⟨y, hy, e⟩
        have h := List.mem_filter.mp hy
        refine ⟨y, rowN_mem.mp h.1, fun z => ?_, e⟩
        have h2 := h.2
        rw [z] at h2
        simp at h2
      · rintro ⟨y, hy, hne, e⟩
        refine ⟨y, List.mem_filter.mpr ⟨rowN_mem.mpr hy, ?_⟩, e⟩
        rw [decide_eq_false (fun z => hne (by have := V.int.inj z; omega))]
        rfl
    have lad : ad.length ≤ 256 := by
      rw [had, List.length_map]
      exact Nat.le_trans (List.length_filter_le _ _) (by omega)
    refine ⟨A, D3, _, _, rfl, rfl, s7 _ _ h6, h7, by rw [nat_len, nat_len]; exact Nat.le_of_lt (small1000' (by omega)), fun A2 nA2 => ?_⟩
    have ecat : (natI ap).map V.int ++ (natI ad).map V.int = (natI (ap ++ ad)).map V.int := by simp [natI]
    rw [ecat]
    obtain ⟨H8, e8, s8, h8⟩ := fresh (.lst ((natI (ap ++ ad)).map V.int)) nA2
    rw [e8]
    refine ⟨_, _, _, _, A2, ap ++ ad, rfl, s6.trans (s7.trans s8), h8, fun x hx => ?_, fun _ n n0 nm z => ?_, by rw [List.length_append]; omega⟩
    · rcases List.mem_append.mp hx with h | h
      · exact F1 x h
      · obtain ⟨y, hy, hne, e⟩ := (mad x).mp h
        refine ⟨o ^^^ y, ?_, Nat.xor_lt_two_pow (by rw [← hM]; exact hom.1) (by rw [← hM]; exact hy.1), by rw [rem_xor hK, hom.2, hy.2]; rfl, e.symm⟩
        rcases Nat.eq_zero_or_pos (o ^^^ y) with k | k
        · exact absurd (xor_eq0.mp k) hne
        · exact k
    · rcases Nat.eq_zero_or_pos j with k | k
      · subst k
        rw [ftk] at ho
        cases ho
        exact List.mem_append_right _ ((mad _).mpr ⟨n, ⟨by rw [hM]; exact nm, z⟩, by omega, by rw [Nat.zero_xor]⟩)
      · exact List.mem_append_left _ (F2 k n n0 nm z)
  · rintro σ H6 ⟨v5, v6, v7, v8, A, ap, rfl, s6, h6, F1, F2, F3⟩
    have F2' := F2 (by
      rw [nat_len]
      cases htl : tk with
      | nil => rw [htl] at ftk; simp at ftk
      | cons a l => simp)
    have sA := s1.trans (s14.trans (s5.trans s6))
    refine ⟨_, rfl, _, rfl, c, wd, W, m, d, t, f4, rfl, hC.same sA, hB, hd, by omega, fun H7 s7 => ?_⟩
    have h7 := s7 _ _ h6
    have sB := sA.trans s7
    cases hv : distF d t f4 m with
    | none =>
      refine ⟨_, rfl, rfl, _, rfl, iteDT rfl ?_⟩
      refine ⟨_, rfl, (show 0 ≤ sizeLine by decide), fun E2 nE2 => ?_⟩
      obtain ⟨H8, e8, s8, h8⟩ := fresh (.lst []) nE2
      rw [e8]
      refine eqD_lst (ns := natI ap) (ms := []) (.inl (.inl (s8 _ _ h7))) (.inl (.inl h8)) ?_
      refine ⟨_, rfl, ?_⟩
      by_cases ea : natI ap = []
      · rw [decide_eq_true ea]
        exact iteT (q _ (sB.trans s8))
      · rw [decide_eq_false ea]
        refine iteF ?_
        refine ⟨_, rfl, A, natI ap, rfl, .inl (.inl (s8 _ _ h7)), List.length_pos_iff.mpr ea, fun mi hmi hmin => ⟨_, _, rfl, rfl, ?_⟩⟩
        obtain ⟨x, hx, rfl⟩ : ∃ x : Nat, x ∈ ap ∧ mi = (x : Int) := by
          unfold natI at hmi
          obtain ⟨x, h1, h2⟩ := List.mem_map.mp hmi
          exact ⟨x, h1, h2.symm⟩
        obtain ⟨n, n0, nm, z, e⟩ := F1 x hx
        have h5 := (least_len hK hB n0 nm z).1 hv
        show Q (V.bl (decide ((4 : Int) < (x : Int)))) _
        rw [decide_eq_true (by omega)]
        exact q _ (sB.trans s8)
    | some k =>
      refine ⟨_, rfl, rfl, _, rfl, iteDF (fun z => V.noConfusion z) ?_⟩
      refine ⟨_, rfl, (show 0 ≤ sizeLine by decide), fun E2 nE2 => ?_⟩
      obtain ⟨H8, e8, s8, h8⟩ := fresh (.lst []) nE2
      rw [e8]
      obtain ⟨r, hr⟩ := least_ex (n := m) hB
      have hk : k ∈ ap := by
        cases r with
        | none =>
          have hr' : distF d t f4 m = none := hr
          rw [hr'] at hv
          cases hv
        | some xs =>
          obtain ⟨k1, k2, k3, k4⟩ := least_num hK hB hr
          have hsz := least_size hr
          rw [hv] at hsz
          cases hsz
          have := F2' (numS xs) k1 k2 k3
          rw [k4] at this
          exact this
      have ea : natI ap ≠ [] := fun z => by
        have : ap = [] := by unfold natI at z; exact List.map_eq_nil_iff.mp z
        rw [this] at hk
        simp at hk
      refine neD_lst (ns := natI ap) (ms := []) (.inl (.inl (s8 _ _ h7))) (.inl (.inl h8)) ?_
      rw [decide_eq_false ea]
      refine ⟨_, rfl, iteT ?_⟩
      refine ⟨_, rfl, A, natI ap, rfl, .inl (.inl (s8 _ _ h7)), List.length_pos_iff.mpr ea, fun mi hmi hmin => ⟨_, rfl, rfl, ?_⟩⟩
      obtain ⟨x, hx, rfl⟩ : ∃ x : Nat, x ∈ ap ∧ mi = (x : Int) := by
        unfold natI at hmi
        obtain ⟨x, h1, h2⟩ := List.mem_map.mp hmi
        exact ⟨x, h1, h2.symm⟩
      obtain ⟨n, n0, nm, z, e⟩ := F1 x hx
      have h5 := (least_len hK hB n0 nm z).2 k hv
      have h6' := hmin (k : Int) (by unfold natI; exact List.mem_map.mpr ⟨k, hk, rfl⟩)
      have exk : x = k := by omega
      show Q (V.bl (decide (V.int (x : Int) = V.int (k : Int)))) _
      rw [decide_eq_true (by rw [exk])]
      exact q _ (sB.trans s8)
end
end My

namespace My
open PySem PySem.Spec PyProof.Rows L2 Pre
theorem two_ok (b c : Bool) : (PyData.list [.bool b, .bool c]).showable = true ∧ SeqAt.shaped (.list [.bool b, .bool c]) = true ∧ (PyData.shown (.list [.bool b, .bool c])).length ≤ sizeLine := by
  cases b <;> cases c <;> refine ⟨rfl, rfl, ?_⟩ <;> rw [sizeLine_eq] <;> decide +kernel
local macro_rules | `(tactic| walk_at "go") => `(tactic| repeat (first | (with_reducible first | refine iteT ?_ | refine iteF ?_ | refine iteNtt ?_ | refine iteNff ?_ | refine iteET (by omega) ?_ | refine iteEF (by omega) ?_ | refine iteENT (by omega) ?_ | refine iteENF (by omega) ?_ | refine iteDT (by omega) ?_ | refine iteDF (by omega) ?_ | refine iteNT (by omega) ?_ | refine iteNF (by omega) ?_) | refine ⟨_, rfl, ?_⟩ | refine ⟨_, _, rfl, rfl, ?_⟩ | refine ⟨_, _, rfl, ?_⟩ | refine ⟨rfl, ?_⟩ | refine .inl ⟨_, rfl, ?_⟩ | refine .inr ⟨_, rfl, ?_⟩))
local macro_rules | `(tactic| walk_at "b") => `(tactic| try dsimp (config := { proj := false, iota := false, eta := false, zeta := false }) only)
section
variable {P : Program} {w : World} {K : PySem.W.Frag} {mg : Str → Option Value} {base : Heap}
def sp_law (K : PySem.W.Frag) : Sp := fun vs H Q _ => ∃ (a : Addr) (ns : List Int), vs = [.ref a] ∧ SqL K H a (ns.map V.int) ∧ ns.length ≤ 63 ∧ ∀ H', Q (.bl true) H'
theorem G_law (T : Top K mg) : FnG P w K mg base CX0 8 T.f_law T.fd_law ["_law_script"] (sp_law K) := by
  refine FnG.body T.F_law sc_law (fun vs H Q E h => by obtain ⟨a, ns, rfl, _⟩ := h; rfl) (fun cdv A outer s H vs Q E gd hr h => ?_)
  obtain ⟨a, ns, rfl, hS, hn, q⟩ := h
  refine ⟨_, PSs.nox (pss_cons (ps_for PassesOwn.never rfl (pi_range1 (by rfl) T.n_range (pa_cons pe_int pa_nil)) (pg_name (i := 1) sc_law.nd rfl (by first | exact Or.inl rfl | exact Or.inr rfl))
    (pss_cons (ps_set (i := 2) sc_law.nd rfl (by first | exact Or.inl rfl | exact Or.inr rfl) (pe_call (G_law_generator T) (hr.mono (by decide)) (by rfl) T.g_law_generator T.F_law_generator.kp T.b_law_generator .nil pass0 (pa_cons (pv 0) (pa_cons (pv 1) pa_nil))))
  (pss_cons (ps_set (i := 3) sc_law.nd rfl (by first | exact Or.inl rfl | exact Or.inr rfl) (pe_op op_add pe_int (pe_call (G_law_random T) (hr.mono (by decide)) (by rfl) T.g_law_random T.F_law_random.kp T.b_law_random .nil pass0 (pa_cons (pv 2) (pa_cons pe_int pa_nil)))))
  (pss_cons (ps_set (i := 4) sc_law.nd rfl (by first | exact Or.inl rfl | exact Or.inr rfl) (pe_call (G_law_drawn T) (hr.mono (by decide)) (by rfl) T.g_law_drawn T.F_law_drawn.kp T.b_law_drawn .nil pass0 (pa_cons (pv 2) (pa_cons (pv 3) pa_nil))))
  (pss_cons (ps_par3 (by rfl) sc_law.nd (i := 6) (j := 7) (l := 8) rfl rfl rfl (by decide) (by decide) (by decide) rfl rfl rfl (pa_cons (pe_make T.mk_Check (G_Check___init__ T) (hr.mono (by decide)) (by rfl) T.gc_Check T.b_Check___init__ .nil pass0 (pa_cons (pv 3) (pa_cons (pv 4) pa_nil))) (pa_cons (pe_op op_add (pe_op op_shl pe_int (pv 3)) (pv 4)) (pa_cons (pe_op op_add pe_int (pe_call (G_law_random T) (hr.mono (by decide)) (by rfl) T.g_law_random T.F_law_random.kp T.b_law_random .nil pass0 (pa_cons (pv 2) (pa_cons pe_int pa_nil)))) pa_nil))) (by rfl))
  (pss_cons (ps_if (PW.pt (pw_or (pt_not (pt_val (pe_callG (G_law_sets_right T) gd (hr.mono (by decide)) (by rfl) T.g_law_sets_right T.F_law_sets_right.kp T.b_law_sets_right .nil pass0 (pa_cons (pv 2) (pa_cons (pv 6) (pa_cons (pv 7) (pa_cons (pv 8) pa_nil))))))) (pw_or1 (pt_not (pt_val (pe_call (G_law_rows_right T) (hr.mono (by decide)) (by rfl) T.g_law_rows_right T.F_law_rows_right.kp T.b_law_rows_right .nil pass0 (pa_cons (pv 6) (pa_cons (pv 7) (pa_cons (pv 8) pa_nil)))))))))
    (pss_one (ps_ret pe_bl))
    pss_nil)
  (pss_cons (ps_for PassesOwn.never rfl (k_piL K rfl (pe_lst (pa_cons pe_int (pa_cons pe_int (pa_cons pe_int pa_nil))))) (pg_name (i := 5) sc_law.nd rfl (by first | exact Or.inl rfl | exact Or.inr rfl))
    (pss_one (ps_if (pt_cmpR op_ne (pe_call (G_longest T) (hr.mono (by decide)) (by rfl) T.g_longest T.F_longest.kp T.b_longest .nil pass0 (pa_cons (pv 6) (pa_cons (pv 5) pa_nil))) (pe_call (G_law_longest T) (hr.mono (by decide)) (by rfl) T.g_law_longest T.F_law_longest.kp T.b_law_longest .nil pass0 (pa_cons (pv 7) (pa_cons (pv 5) pa_nil))) (nomark _))
    (pss_one (ps_ret pe_bl))
    pss_nil)))
  (pss_cons (ps_if (pt_cmpR op_ne (pe_callB (k_repr K rfl gd (hu65 hr)) (by rfl) T.n_repr (by decide +kernel) (pa_cons (pe_lst (pa_cons (pe_call (G_all_odd T) (hr.mono (by decide)) (by rfl) T.g_all_odd T.F_all_odd.kp T.b_all_odd .nil pass0 (pa_cons (pv 6) pa_nil)) (pa_cons (pe_call (G_unseen T) (hr.mono (by decide)) (by rfl) T.g_unseen T.F_unseen.kp T.b_unseen .nil pass0 (pa_cons (pv 6) (pa_cons (pe_lst pa_nil) pa_nil))) pa_nil))) pa_nil)) (pe_callB (k_repr K rfl gd (hu65 hr)) (by rfl) T.n_repr (by decide +kernel) (pa_cons (pe_lst (pa_cons (pe_cmpR op_eq (pe_op op_mod (pe_callB (k_len K rfl) (by rfl) T.n_len (by decide +kernel) (pa_cons (pe_call (G_law_places T) (hr.mono (by decide)) (by rfl) T.g_law_places T.F_law_places.kp T.b_law_places .nil pass0 (pa_cons (pv 7) pa_nil)) pa_nil)) pe_int) pe_int (nomark _)) (pa_cons pe_bl pa_nil))) pa_nil)) (nomark _))
    (pss_one (ps_ret pe_bl))
    pss_nil)
  (pss_one (ps_if (PW.pt (pw_or (pt_cmpR op_notN (pe_call (G_distance T) (hr.mono (by decide)) (by rfl) T.g_distance T.F_distance.kp T.b_distance .nil pass0 (pa_cons (pv 6) (pa_cons pe_int pa_nil))) pe_non (nomark _)) (pw_or1 (pt_cmpR op_notN (pe_call (G_least_unseen T) (hr.mono (by decide)) (by rfl) T.g_least_unseen T.F_least_unseen.kp T.b_least_unseen .nil pass0 (pa_cons (pv 6) (pa_cons pe_int pa_nil))) pe_non (nomark _)))))
    (pss_one (ps_ret pe_bl))
    pss_nil))))))))))
  (pss_one (ps_ret pe_bl))), ?_⟩
  refine ⟨_, rfl, by decide, by decide, ?_⟩
  refine for_range (lo := 0) (n := ((2 : Int)).toNat) (fun i σ H1 => ∃ v1 v2 v3 v4 v5 v6 v7 v8, σ = [some (.ref a), v1, v2, v3, v4, v5, v6, v7, v8] ∧ Same H H1) ⟨none, none, none, none, none, none, none, none, rfl, Same.refl _⟩ ?_ ?_
  · rintro i σ H1 hi ⟨v1, v2, v3, v4, v5, v6, v7, v8, rfl, s1⟩
    rw [show (0 : Int) + (i : Int) = i by omega]
    have hi3 : i < 2 := hi
    refine ⟨_, rfl, _, rfl, a, ns, i, rfl, s1.seq hS, fun H2 g s2 ng g2 => ?_⟩
    have s02 := s1.trans s2
    have nHg : H g = none := s1.free ng
    refine ⟨_, rfl, g, _, _, rfl, g2, by omega, by decide, small_2900 (by decide), fun r1 H3 r10 r11 g3 b3 => ?_⟩
    refine ⟨_, _, rfl, rfl, ?_⟩
    obtain ⟨wd, hwd⟩ : ∃ wd : Nat, 1 + r1 = (wd : Int) := ⟨(1 + r1).toNat, by omega⟩
    have w1 : 1 ≤ wd := by omega
    have w4 : wd ≤ 4 := by omega
    dsimp only
    rw [hwd]
    refine ⟨_, rfl, _, rfl, g, _, wd, rfl, g3, by omega, w1, by omega, fun l H4 l1 l2 g4 b4 => ?_⟩
    refine ⟨_, rfl, _, rfl, ?_⟩
    intro c dx nc ndx nec
    obtain ⟨H5, e5⟩ : ∃ H5, upd (upd H4 dx (.own c)) c (.ins T.C_Check dx []) = H5 := ⟨_, rfl⟩
    rw [e5]
    have s5 : Same H4 H5 := fun b o e => by
      rw [← e5, upd_ne (ne_of_none e nc), upd_ne (ne_of_none e ndx)]
      exact e
    refine ⟨c, dx, wd, l, rfl, by rw [← e5]; exact upd_same, w1, by omega, l1, l2, fun H6 kp hC6 => ⟨rfl, ?_⟩⟩
    have s6 : Same H4 H6 := fun b o e => kp b o (ne_of_none e nc) (s5 b o e)
    have g6 := g4.same s6
    have b26 : But g H2 H6 := (b3.trans b4).same s6
    have eW : (1 : Int) * 2 ^ ((wd : Int)).toNat + (l : Int) = ((2 ^ wd + l : Nat) : Int) := by
      rw [Int.one_mul, Int.toNat_natCast]
      have : ((2 ^ wd : Nat) : Int) = 2 ^ wd := by rw [Int.natCast_pow]; rfl
      omega
    refine ⟨_, rfl, _, _, rfl, rfl, ⟨by omega, by omega, by decide⟩, _, rfl, _, _, rfl, rfl, ?_⟩
    dsimp only
    rw [eW]
    obtain ⟨W, hW⟩ : ∃ W, W = 2 ^ wd + l := ⟨_, rfl⟩
    rw [← hW] at hC6 ⊢
    obtain ⟨xg, yg, zg, hg6, _⟩ := id g6
    have ncg : c ≠ g := hC6.ne hg6
    have hK := hC6.1
    refine ⟨_, rfl, g, _, _, rfl, g6, by omega, by decide, small_2900 (by decide), fun r2 H7 r20 r21 g7 b7 => ?_⟩
    obtain ⟨m, hm⟩ : ∃ m : Nat, 1 + r2 = (m : Int) := ⟨(1 + r2).toNat, by omega⟩
    have m8 : m ≤ 8 := by omega
    refine ⟨_, _, rfl, rfl, _, _, _, rfl, ?_⟩
    dsimp only
    rw [hm]
    have hC7 := hC6.but ncg b7
    have hord : ∀ d, IsOrder wd W d → d ≤ 2048 ∧ d < 2 ^ wd := fun d hd => by
      obtain ⟨d', hO', hd'⟩ := order_ex hK
      have e := order_uniq hO' hd
      have : 2 ^ wd ≤ 2 ^ 4 := Nat.pow_le_pow_right (by decide) w4
      exact ⟨by omega, by omega⟩
    refine ⟨_, rfl, _, rfl, _, rfl, _, rfl, g, c, wd, W, m, _, rfl, g7, by omega, hC7, w4, m8, fun H8 b8 g8 => ?_⟩
    refine ⟨_, rfl, iteF ?_⟩
    have hC8 := hC7.but ncg b8
    refine ⟨_, rfl, _, rfl, _, rfl, c, wd, W, m, rfl, hC8, w4, m8, fun H9 s9 => ?_⟩
    refine ⟨_, rfl, iteF ?_⟩
    have hC9 := hC8.same s9
    have b29 : But g H2 H9 := ((b26.trans b7).trans b8).same s9
    refine ⟨(show 3 ≤ sizeLine by decide), fun F nF => ?_⟩
    obtain ⟨H10, e10, s10, h10⟩ := fresh (.lst [V.int 3, V.int 4, V.int 5]) nF
    rw [e10]
    have hC10 := hC9.same s10
    walk_at "b"
    refine ⟨F, rfl, ⟨_, .inl (.inl h10)⟩, for_list (K := K) (a := F) (xs := [V.int 3, V.int 4, V.int 5]) (fun j σ H11 => ∃ v5, σ = [some (.ref a), some (.int i), some (.ref g), some (.int wd), some (.int l), v5, some (.ref c), some (.int W), some (.int m)] ∧ Same H10 H11) ⟨_, rfl, Same.refl _⟩ (fun j σ H11 _ ⟨_, _, s⟩ => .inl (.inl (s _ _ h10))) ?_ ?_⟩
    · rintro j x σ H11 hx ⟨v5, rfl, s11⟩
      obtain ⟨few, f3, f5, rfl⟩ : ∃ few : Nat, 3 ≤ few ∧ few ≤ 5 ∧ x = .int (few : Int) := by
        match j, hx with
        | 0, hx => cases hx; exact ⟨3, by decide, by decide, rfl⟩
        | 1, hx => cases hx; exact ⟨4, by decide, by decide, rfl⟩
        | 2, hx => cases hx; exact ⟨5, by decide, by decide, rfl⟩
        | j + 3, hx => simp at hx
      refine ⟨_, rfl, _, rfl, c, wd, W, few, rfl, hC10.same s11, fun d hd => (hord d hd).1, f3, f5, fun L H12 s12 hL => ?_⟩
      have hLb : L < 2 ^ wd + 1 := by
        rcases hL with ⟨_, h⟩ | ⟨_, d, h, h1⟩ | ⟨_, d, t, h, h1, h2⟩
        · have := (hord _ h).2; omega
        · have := (hord _ h).2; have := h1.le; omega
        · have := (hord _ h).2; have := h1.le; have := h2.le; omega
      refine ⟨_, rfl, _, rfl, wd, W, few, L, rfl, hK, w4, hL, hLb, fun H13 s13 => ?_⟩
      refine ⟨rfl, _, rfl, iteENF rfl ?_⟩
      exact ⟨_, rfl, s11.trans (s12.trans s13)⟩
    · rintro σ H11 ⟨v5, rfl, s11⟩
      have hC11 := hC10.same s11
      refine ⟨_, rfl, c, wd, W, rfl, hC11, fun H12 s12 => ?_⟩
      refine ⟨_, rfl, (show 0 ≤ sizeLine by decide), fun E1 nE1 => ?_⟩
      obtain ⟨H13, e13, s13, h13⟩ := fresh (.lst []) nE1
      rw [e13]
      have s1113 := s12.trans s13
      refine ⟨c, E1, wd, W, [], rfl, hC11.same s1113, h13, ⟨by simp, by simp, by simp⟩, fun H14 s14 => ?_⟩
      have ev : decide (valP wd W [] = 0) = true := decide_eq_true rfl
      rw [ev]
      refine ⟨(show 2 ≤ sizeLine by decide), fun P1 nP1 => ?_⟩
      obtain ⟨H15, e15, s15, h15⟩ := fresh (.lst [V.bl (decide ((onesN W (wd + 1)).length % 2 = 0)), V.bl true]) nP1
      rw [e15]
      obtain ⟨y1, y2, y3⟩ := two_ok (decide ((onesN W (wd + 1)).length % 2 = 0)) true
      refine ⟨_, _, rfl, .lst (.inl (.inl h15)) (.cons (.bl _) (.cons (.bl _) .nil)), y1, y2, y3, ?_⟩
      refine ⟨_, rfl, W, wd + 1, rfl, hK.hi, by omega, fun H16 pp s16 npp hpp => ?_⟩
      refine ⟨pp, _, rfl, .inl (.inl (.inl hpp)), _, _, rfl, rfl, (by show (0 : Int) < 2; decide), rfl, ?_⟩
      have ed : decide (V.int ((((natI (onesN W (wd + 1))).map V.int).length : Int) % 2) = V.int 0) = decide ((onesN W (wd + 1)).length % 2 = 0) := by
        rw [nat_len]
        have := dec_nat ((onesN W (wd + 1)).length % 2) 0
        rw [← this]
        congr 1
      rw [ed]
      refine ⟨(show 2 ≤ sizeLine by decide), fun P2 nP2 => ?_⟩
      obtain ⟨H17, e17, s17, h17⟩ := fresh (.lst [V.bl (decide ((onesN W (wd + 1)).length % 2 = 0)), V.bl true]) nP2
      rw [e17]
      refine ⟨_, _, rfl, .lst (.inl (.inl h17)) (.cons (.bl _) (.cons (.bl _) .nil)), y1, y2, y3, rfl, _, rfl, iteNF rfl ?_⟩
      have s1117 := s1113.trans (s14.trans (s15.trans (s16.trans s17)))
      obtain ⟨d, t, f4, hB⟩ := bounds_ex hK
      have hd := (hord d hB.1).1
      have e0 : distF d t f4 0 = none := by
        unfold distF
        simp
      refine ⟨_, rfl, c, wd, W, 0, d, t, f4, rfl, hC11.same s1117, hB, hd, by omega, fun H18 s18 => ?_⟩
      rw [e0]
      refine ⟨rfl, _, rfl, iteNF rfl ?_⟩
      refine ⟨_, rfl, c, wd, W, 0, d, t, f4, rfl, (hC11.same s1117).same s18, hB, hd, by omega, fun H19 v r s19 hr hv => ?_⟩
      have er : r = none := least_uniq hK hB.1 hr (show LeastUn wd W d t f4 0 none from e0)
      subst er
      have evn : v = V.non := hv
      subst evn
      refine ⟨rfl, _, rfl, iteNF rfl ?_⟩
      exact ⟨_, _, _, _, _, _, _, _, rfl, But.fresh s02 nHg (b29.same (s10.trans (s11.trans (s1117.trans (s18.trans s19)))))⟩
  · rintro σ H1 ⟨v1, v2, v3, v4, v5, v6, v7, v8, rfl, s1⟩
    exact q _
end
end My

open PySem PySem.W PySem.Calls PyProof.Rows
set_option maxRecDepth 100000 in
set_option maxHeartbeats 0 in
theorem PySem.Challenge.cw_wholesound_k61_unseen_by_all_holds : PySem.Challenge.rw_wholesound_k61_unseen_by_all.Holds := by
  w_on; o_law
  refine HandSHeadRun.head_any (r := OpenLaw.row PySem.Challenge.rw_wholesound_k61_unseen_by_all) (q := view (OpenLaw.row PySem.Challenge.rw_wholesound_k61_unseen_by_all).prog [52]) (H := My.hk) (ob := My.ob) (M := 8000) (loose := My.loose) (d := HandSHeadRun.topDef (OpenLaw.row PySem.Challenge.rw_wholesound_k61_unseen_by_all).prog 52) (kwd := []) My.ob_eq
    (by kernel_rfl) (fun s => by kernel_rfl) My.run (by kernel_rfl) (by kernel_rfl) (by kernel_rfl) (by rfl) (by first | assumption | decide +kernel) (by decide +kernel) ⟨rfl, rfl, rfl, rfl, rfl, by decide +kernel⟩ ?hw ?hc
  case hw => w_witness2
  case hc =>
    refine My.end_g (l := PySem.Challenge.rw_wholesound_k61_unseen_by_all) (n := 63) (k := 8) (x := "_law_script") rfl (by decide) (by kernel_rfl) ⟨rfl, by decide, by decide⟩ ?F
    intro w mg fa h Y G hmg0
    obtain ⟨K, KX, c⟩ := Y
    have hmg : mg ("law" : PySem.Str) = some (.ref fa) := by
      have e : (HandSHeadRun.topDef (OpenLaw.row PySem.Challenge.rw_wholesound_k61_unseen_by_all).prog 52).name = ("law" : PySem.Str) := by kernel_rfl
      rw [← e]
      exact hmg0
    have T : My.Top K mg := My.top_mk KX G c
    have e := hmg.symm.trans T.g_law
    cases e
    have b := L2.FunD.bindsA (ps := ["_law_script"]) T.F_law fun _ _ _ _ _ _ us hl => match us, hl with | [_], _ => rfl
    exact ⟨K, T.fd_law, My.sp_law K, KX, fun s v => b s [v] rfl, fun H a ns hl hS => ⟨a, ns, rfl, hS, hl, fun _ => rfl⟩, fun base _ _ => My.G_law T⟩


