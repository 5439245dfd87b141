import PyProof.Rows.All
import Wide.All
import OpenK.AllK
import Wide.FinOn
import KE.KStateDown
import Lean
import HandS.ForMost
import HandS.Exc
import HandS.Flow
import HandS.DictComp
import HandS.Style
import HandS.Wide
import HandS.WideBits
import HandS.IsInst
import HandS.Codes
import HandS.Walk
import HandS.Words
import HandS.WordsExc
import HandS.Defaults
import HandS.Head0
import HandS.Head1
import HandS.Head2
import HandS.HeadEnd
import HandS.HeadHook1
import HandS.HeadHook2
import HandS.SortInts
import PyProof.Rows.SortShellAny
import PyProof.InstNe
import KE.DataMinMax
import KE.SortData
import KE.IntBitsLaws
import KE.BitLaws
import HandS.Deep
import HandS.SetKeys
import PyProof.Rows.StrMul
import PySem.Challenge.RW_wholesound_k65_mends
set_option Elab.async false
set_option linter.all false
set_option maxRecDepth 100000
set_option maxHeartbeats 4000000
set_option exponentiation.threshold 100000
namespace Pre
open PySem PySem.Spec PyProof.Rows L2
/-! ### heaps -/
theorem same_upd {H : Hp} {p : Addr} {o : HO} (h : H p = none) : Same H (upd H p o) := fun b x e => by
  rw [upd_ne (ne_of_none e h)]
  exact e
/-- a fresh thing that is then changed is no change of what was -/
theorem same_over {H H' : Hp} {p : Addr} {o : HO} (n : H p = none) (s : Same H H') : Same H (upd H' p o) := fun b x e => by
  rw [upd_ne (ne_of_none e n)]
  exact s b x e
theorem Same.tup {K : PySem.W.Frag} {H H' : Hp} {a : Addr} {xs : List V} (e : Same H H') (h : SqT K H a xs) : SqT K H' a xs := by
  rcases h with (h | ⟨o, h⟩) | h
  · exact .inl (.inl (e _ _ h))
  · exact .inl (.inr ⟨o, e _ _ h⟩)
  · exact .inr h
mutual
theorem dp_same {K : PySem.W.Frag} {H H' : Hp} (s : Same H H') : ∀ (d : PyData) (v : V), Dp K H v d → Dp K H' v d
  | .none, _, h => by cases h; exact .non
  | .bool _, _, h => by cases h; exact .bl _
  | .int _, _, h => by cases h; exact .int _
  | .str _, _, h => by cases h; exact .str _
  | .list ds, _, h => by cases h with | lst a b => exact .lst (s.seq a) (dps_same s ds _ b)
  | .tuple ds, _, h => by cases h with | tup a b => exact .tup (Same.tup s a) (dps_same s ds _ b)
  | .dict _, _, h => nomatch h
theorem dps_same {K : PySem.W.Frag} {H H' : Hp} (s : Same H H') : ∀ (ds : List PyData) (vs : List V), DpAll K H vs ds → DpAll K H' vs ds
  | [], _, h => by cases h; exact .nil
  | d :: ds, _, h => by cases h with | cons a b => exact .cons (dp_same s d _ a) (dps_same s ds _ b)
end
theorem dp_ints {K : PySem.W.Frag} {H : Hp} : ∀ ns : List Int, DpAll K H (ns.map V.int) (ns.map PyData.int)
  | [] => .nil
  | n :: r => .cons (.int n) (dp_ints r)
theorem eqv_ints : ∀ ns ms : List Int, PyData.eqvAll (ns.map PyData.int) (ms.map PyData.int) = decide (ns = ms)
  | [], [] => rfl
  | [], _ :: _ => rfl
  | _ :: _, [] => rfl
  | n :: r, m :: q => by
    show (PyData.eqv (.int n) (.int m) && PyData.eqvAll (r.map PyData.int) (q.map PyData.int)) = decide (n :: r = m :: q)
    rw [eqv_ints r q]
    show ((n == m) && decide (r = q)) = decide (n :: r = m :: q)
    by_cases h : n = m
    · subst h; simp
    · simp [h]
theorem lay_ints : ∀ ns : List Int, PyData.canLayAll0 (ns.map PyData.int) = true
  | [] => rfl
  | n :: r => by
    show (PyData.canLay0 (.int n) && PyData.canLayAll0 (r.map PyData.int)) = true
    rw [lay_ints r]
    rfl
theorem depth_ints : ∀ ns : List Int, PyData.depthAll (ns.map PyData.int) = 0
  | [] => by simp [PyData.depthAll]
  | n :: r => by
    show PyData.depthAll (.int n :: r.map PyData.int) = 0
    rw [PyData.depthAll, depth_ints r]
    simp [PyData.depth]
theorem shaped_ints (ns : List Int) : SeqAt.shaped (.list (ns.map PyData.int)) = true := by
  unfold SeqAt.shaped
  rw [PyData.canLay0, lay_ints, PyData.depth, depth_ints]
  rfl
theorem shaped_tup (ns : List Int) : SeqAt.shaped (.tuple (ns.map PyData.int)) = true := by
  unfold SeqAt.shaped
  rw [PyData.canLay0, lay_ints, PyData.depth, depth_ints]
  rfl
/-! ### comparisons of lists and tuples of whole numbers that are told alike -/
theorem ne_tup {K : PySem.W.Frag} {H : Hp} {a b : Addr} {ns : List Int} {Q : V → Hp → Prop} (ha : SqT K H a (ns.map V.int)) (hb : SqT K H b (ns.map V.int)) (q : Q (.bl false) H) : rNeD K (.ref a) (.ref b) H Q := by
  refine ⟨.tuple (ns.map PyData.int), .tuple (ns.map PyData.int), .tup ha (dp_ints ns), .tup hb (dp_ints ns), shaped_tup ns, shaped_tup ns, ?_⟩
  rw [PyData.eqv, eqv_ints, decide_eq_true rfl]
  exact q
theorem eq_tup {K : PySem.W.Frag} {H : Hp} {a b : Addr} {ns : List Int} {Q : V → Hp → Prop} (ha : SqT K H a (ns.map V.int)) (hb : SqT K H b (ns.map V.int)) (q : Q (.bl true) H) : rEqD K (.ref a) (.ref b) H Q := by
  refine ⟨.tuple (ns.map PyData.int), .tuple (ns.map PyData.int), .tup ha (dp_ints ns), .tup hb (dp_ints ns), shaped_tup ns, shaped_tup ns, ?_⟩
  rw [PyData.eqv, eqv_ints, decide_eq_true rfl]
  exact q
/-- lists of whole numbers, compared -/
theorem eqD_lst {K : PySem.W.Frag} {H : Hp} {a b : Addr} {ns ms : List Int} {Q : V → Hp → Prop} (ha : SqL K H a (ns.map V.int)) (hb : SqL K H b (ms.map V.int)) (q : Q (.bl (decide (ns = ms))) H) : rEqD K (.ref a) (.ref b) H Q := by
  refine ⟨.list (ns.map PyData.int), .list (ms.map PyData.int), .lst ha (dp_ints ns), .lst hb (dp_ints ms), shaped_ints ns, shaped_ints ms, ?_⟩
  rw [PyData.eqv, eqv_ints]
  exact q
theorem neD_lst {K : PySem.W.Frag} {H : Hp} {a b : Addr} {ns ms : List Int} {Q : V → Hp → Prop} (ha : SqL K H a (ns.map V.int)) (hb : SqL K H b (ms.map V.int)) (q : Q (.bl (!decide (ns = ms))) H) : rNeD K (.ref a) (.ref b) H Q := by
  refine ⟨.list (ns.map PyData.int), .list (ms.map PyData.int), .lst ha (dp_ints ns), .lst hb (dp_ints ms), shaped_ints ns, shaped_ints ms, ?_⟩
  rw [PyData.eqv, eqv_ints]
  exact q
theorem ne_lst {K : PySem.W.Frag} {H : Hp} {a b : Addr} {ns : List Int} {Q : V → Hp → Prop} (ha : SqL K H a (ns.map V.int)) (hb : SqL K H b (ns.map V.int)) (q : Q (.bl false) H) : rNeD K (.ref a) (.ref b) H Q :=
  neD_lst ha hb (by rw [decide_eq_true rfl]; exact q)
theorem eq_lst {K : PySem.W.Frag} {H : Hp} {a b : Addr} {ns : List Int} {Q : V → Hp → Prop} (ha : SqL K H a (ns.map V.int)) (hb : SqL K H b (ns.map V.int)) (q : Q (.bl true) H) : rEqD K (.ref a) (.ref b) H Q :=
  eqD_lst ha hb (by rw [decide_eq_true rfl]; exact q)
/-! ### powers -/
def CPowW (i j : Int) : Prop := 0 ≤ j ∧ (Builtin.Int.intBits i : Int) * j ≤ 2 ^ 27
theorem op_powW {X : Cx} : OpR X (binaryOp .Pow) (rI CPowW fun i j => .int (i ^ j.toNat)) := opI fun _ _ _ _ _ _ _ hc q => pow_int hc.1 hc.2 q
/-! ### comprehensions whose parts leave what is tracked as it is: sel tells of each item what comes of it -/
theorem take_fm {α : Type} {l : List (Option α)} {i : Nat} {o : Option α} (h : l[i]? = some o) : (l.take (i + 1)).filterMap id = (l.take i).filterMap id ++ o.toList := by
  rw [List.take_add_one, h, List.filterMap_append]
  cases o <;> rfl
theorem fm_len {α : Type} (l : List (Option α)) (i : Nat) : ((l.take i).filterMap id).length ≤ l.length :=
  Nat.le_trans (List.length_filterMap_le _ _) (by rw [List.length_take]; omega)
theorem lc_selL {K : PySem.W.Frag} {a : Addr} {xs : List V} {j : Nat} {tt : TT} {te : TE} {vs : List Nat} {σ : L2.St} {H1 : Hp} {D : Addr} {Qd : Hp → Prop} (sel : List (Option V)) (nD : H1 D = none) (hS : SqL K H1 a xs) (hlen : sel.length = xs.length) (hz : xs.length < sizeLine)
    (hw : ∀ x, wipe ((wipe σ vs).set j (some x)) vs = wipe σ vs)
    (hs : ∀ (i : Nat) (x : V) (o : Option V) (H' : Hp), xs[i]? = some x → sel[i]? = some o → Same H1 H' → ∀ Qt : Option V → Hp → Prop, (∀ H'', Same H' H'' → Qt o H'') →
      tt ((wipe σ vs).set j (some x)) H' fun b H3 => if b = true then te ((wipe σ vs).set j (some x)) H3 fun y H4 => Qt (some y) H4 else Qt none H3)
    (hd : ∀ H', Same H1 H' → H' D = some (.lst (sel.filterMap id)) → Qd H') :
    ∃ W : Nat → Nat → Hp → Prop, (∃ m, W 0 m (upd H1 D (.lst []))) ∧ ∀ i m H, W i m H →
      ((Itl K a).stop i H ∧ Qd H) ∨ ((Itl K a).go i H ∧ ∃ Nx : Hp → Prop, (∀ H', Nx H' → ∃ m', m' < m ∧ W (i + 1) m' H') ∧ ∀ x H', (Itl K a).yld i H x H' → gName j x (wipe σ vs) H' fun σ2 H2 => wipe σ2 vs = wipe σ vs ∧ tt σ2 H2 fun b H3 =>
        if b = true then te σ2 H3 fun y H4 => ∃ acc, H4 D = some (.lst acc) ∧ acc.length < sizeLine ∧ Nx (upd H4 D (.lst (acc ++ [y]))) else Nx H3) := by
  refine lc_list (K := K) (a := a) (xs := xs) (fun i H => Same H1 H ∧ H D = some (.lst ((sel.take i).filterMap id))) ⟨same_upd nD, upd_same⟩ (fun i H _ p => p.1.seq hS) ?_ ?_
  · rintro i x H hx ⟨s, hD⟩
    refine ⟨hw x, ?_⟩
    have hi : i < sel.length := by rw [hlen]; exact (List.getElem?_eq_some_iff.mp hx).1
    have ho : sel[i]? = some sel[i] := List.getElem?_eq_getElem hi
    have hl : ((sel.take i).filterMap id).length < sizeLine := Nat.lt_of_le_of_lt (fm_len sel i) (by omega)
    refine hs i x sel[i] H hx ho s (fun o H4 => match o with
      | some y => ∃ acc, H4 D = some (.lst acc) ∧ acc.length < sizeLine ∧ (Same H1 (upd H4 D (.lst (acc ++ [y]))) ∧ (upd H4 D (.lst (acc ++ [y]))) D = some (.lst ((sel.take (i + 1)).filterMap id)))
      | none => Same H1 H4 ∧ H4 D = some (.lst ((sel.take (i + 1)).filterMap id))) fun H4 s4 => ?_
    generalize sel[i] = o at ho ⊢
    cases o with
    | some y =>
      refine ⟨_, s4 _ _ hD, hl, same_over nD (s.trans s4), ?_⟩
      rw [upd_same, take_fm ho]
      rfl
    | none =>
      refine ⟨s.trans s4, ?_⟩
      rw [take_fm ho, s4 _ _ hD]
      simp
  · rintro H ⟨s, hD⟩
    refine hd H s ?_
    rw [hD, ← hlen, List.take_length]
/-- the items of a range -/
def rgV (lo : Int) (n : Nat) : List V := (List.range n).map fun (i : Nat) => V.int (lo + (i : Int))
theorem lc_selR {lo : Int} {n : Nat} {j : Nat} {tt : TT} {te : TE} {vs : List Nat} {σ : L2.St} {H1 : Hp} {D : Addr} {Qd : Hp → Prop} (sel : List (Option V)) (nD : H1 D = none) (hlen : sel.length = n) (hz : n < sizeLine)
    (hw : ∀ x, wipe ((wipe σ vs).set j (some x)) vs = wipe σ vs)
    (hs : ∀ (i : Nat) (o : Option V) (H' : Hp), i < n → sel[i]? = some o → Same H1 H' → ∀ Qt : Option V → Hp → Prop, (∀ H'', Same H' H'' → Qt o H'') →
      tt ((wipe σ vs).set j (some (.int (lo + (i : Int))))) H' fun b H3 => if b = true then te ((wipe σ vs).set j (some (.int (lo + (i : Int))))) H3 fun y H4 => Qt (some y) H4 else Qt none H3)
    (hd : ∀ H', Same H1 H' → H' D = some (.lst (sel.filterMap id)) → Qd H') :
    ∃ W : Nat → Nat → Hp → Prop, (∃ m, W 0 m (upd H1 D (.lst []))) ∧ ∀ i m H, W i m H →
      ((Itr lo n).stop i H ∧ Qd H) ∨ ((Itr lo n).go i H ∧ ∃ Nx : Hp → Prop, (∀ H', Nx H' → ∃ m', m' < m ∧ W (i + 1) m' H') ∧ ∀ x H', (Itr lo n).yld i H x H' → gName j x (wipe σ vs) H' fun σ2 H2 => wipe σ2 vs = wipe σ vs ∧ tt σ2 H2 fun b H3 =>
        if b = true then te σ2 H3 fun y H4 => ∃ acc, H4 D = some (.lst acc) ∧ acc.length < sizeLine ∧ Nx (upd H4 D (.lst (acc ++ [y]))) else Nx H3) := by
  refine lc_range (lo := lo) (n := n) (fun i H => Same H1 H ∧ H D = some (.lst ((sel.take i).filterMap id))) ⟨same_upd nD, upd_same⟩ ?_ ?_
  · rintro i H hi' ⟨s, hD⟩
    refine ⟨hw _, ?_⟩
    have hi : i < sel.length := by rw [hlen]; exact hi'
    have ho : sel[i]? = some sel[i] := List.getElem?_eq_getElem hi
    have hl : ((sel.take i).filterMap id).length < sizeLine := Nat.lt_of_le_of_lt (fm_len sel i) (by omega)
    refine hs i sel[i] H hi' ho s (fun o H4 => match o with
      | some y => ∃ acc, H4 D = some (.lst acc) ∧ acc.length < sizeLine ∧ (Same H1 (upd H4 D (.lst (acc ++ [y]))) ∧ (upd H4 D (.lst (acc ++ [y]))) D = some (.lst ((sel.take (i + 1)).filterMap id)))
      | none => Same H1 H4 ∧ H4 D = some (.lst ((sel.take (i + 1)).filterMap id))) fun H4 s4 => ?_
    generalize sel[i] = o at ho ⊢
    cases o with
    | some y =>
      refine ⟨_, s4 _ _ hD, hl, same_over nD (s.trans s4), ?_⟩
      rw [upd_same, take_fm ho]
      rfl
    | none =>
      refine ⟨s.trans s4, ?_⟩
      rw [take_fm ho, s4 _ _ hD]
      simp
  · rintro H ⟨s, hD⟩
    refine hd H s ?_
    rw [hD, ← hlen, List.take_length]
theorem fm_some {α : Type} (ys : List α) : (ys.map some).filterMap id = ys := by
  rw [List.filterMap_map]
  show List.filterMap (fun y => some y) ys = ys
  exact List.filterMap_some
/-- no test: ys tells what comes of each item -/
theorem lc_mapL {K : PySem.W.Frag} {a : Addr} {xs : List V} {j : Nat} {te : TE} {vs : List Nat} {σ : L2.St} {H1 : Hp} {D : Addr} {Qd : Hp → Prop} (ys : List V) (nD : H1 D = none) (hS : SqL K H1 a xs) (hlen : ys.length = xs.length) (hz : xs.length < sizeLine)
    (hw : ∀ x, wipe ((wipe σ vs).set j (some x)) vs = wipe σ vs)
    (hs : ∀ (i : Nat) (x y : V) (H' : Hp), xs[i]? = some x → ys[i]? = some y → Same H1 H' → ∀ Qt : V → Hp → Prop, (∀ H'', Same H' H'' → Qt y H'') → te ((wipe σ vs).set j (some x)) H' Qt)
    (hd : ∀ H', Same H1 H' → H' D = some (.lst ys) → Qd H') :
    ∃ W : Nat → Nat → Hp → Prop, (∃ m, W 0 m (upd H1 D (.lst []))) ∧ ∀ i m H, W i m H →
      ((Itl K a).stop i H ∧ Qd H) ∨ ((Itl K a).go i H ∧ ∃ Nx : Hp → Prop, (∀ H', Nx H' → ∃ m', m' < m ∧ W (i + 1) m' H') ∧ ∀ x H', (Itl K a).yld i H x H' → gName j x (wipe σ vs) H' fun σ2 H2 => wipe σ2 vs = wipe σ vs ∧ tYes σ2 H2 fun b H3 =>
        if b = true then te σ2 H3 fun y H4 => ∃ acc, H4 D = some (.lst acc) ∧ acc.length < sizeLine ∧ Nx (upd H4 D (.lst (acc ++ [y]))) else Nx H3) := by
  refine lc_selL (K := K) (a := a) (xs := xs) (tt := tYes) (ys.map some) nD hS (by rw [List.length_map]; exact hlen) hz hw ?_ ?_
  · intro i x o H' hx ho s Qt qt
    rw [List.getElem?_map] at ho
    obtain ⟨y, hy, rfl⟩ := Option.map_eq_some_iff.mp ho
    show if true = true then te ((wipe σ vs).set j (some x)) H' (fun y H4 => Qt (some y) H4) else Qt none H'
    exact iteT (hs i x y H' hx hy s (fun y H4 => Qt (some y) H4) qt)
  · intro H' s hD
    rw [fm_some] at hD
    exact hd H' s hD
theorem lc_mapR {lo : Int} {n : Nat} {j : Nat} {te : TE} {vs : List Nat} {σ : L2.St} {H1 : Hp} {D : Addr} {Qd : Hp → Prop} (ys : List V) (nD : H1 D = none) (hlen : ys.length = n) (hz : n < sizeLine)
    (hw : ∀ x, wipe ((wipe σ vs).set j (some x)) vs = wipe σ vs)
    (hs : ∀ (i : Nat) (y : V) (H' : Hp), i < n → ys[i]? = some y → Same H1 H' → ∀ Qt : V → Hp → Prop, (∀ H'', Same H' H'' → Qt y H'') → te ((wipe σ vs).set j (some (.int (lo + (i : Int))))) H' Qt)
    (hd : ∀ H', Same H1 H' → H' D = some (.lst ys) → Qd H') :
    ∃ W : Nat → Nat → Hp → Prop, (∃ m, W 0 m (upd H1 D (.lst []))) ∧ ∀ i m H, W i m H →
      ((Itr lo n).stop i H ∧ Qd H) ∨ ((Itr lo n).go i H ∧ ∃ Nx : Hp → Prop, (∀ H', Nx H' → ∃ m', m' < m ∧ W (i + 1) m' H') ∧ ∀ x H', (Itr lo n).yld i H x H' → gName j x (wipe σ vs) H' fun σ2 H2 => wipe σ2 vs = wipe σ vs ∧ tYes σ2 H2 fun b H3 =>
        if b = true then te σ2 H3 fun y H4 => ∃ acc, H4 D = some (.lst acc) ∧ acc.length < sizeLine ∧ Nx (upd H4 D (.lst (acc ++ [y]))) else Nx H3) := by
  refine lc_selR (lo := lo) (n := n) (tt := tYes) (ys.map some) nD (by rw [List.length_map]; exact hlen) hz hw ?_ ?_
  · intro i o H' hi ho s Qt qt
    rw [List.getElem?_map] at ho
    obtain ⟨y, hy, rfl⟩ := Option.map_eq_some_iff.mp ho
    show if true = true then te ((wipe σ vs).set j (some (.int (lo + (i : Int))))) H' (fun y H4 => Qt (some y) H4) else Qt none H'
    exact iteT (hs i y H' hi hy s (fun y H4 => Qt (some y) H4) qt)
  · intro H' s hD
    rw [fm_some] at hD
    exact hd H' s hD
/-- an item of a list of whole numbers -/
theorem int_at {ns : List Int} {i : Nat} {x : V} (h : (ns.map V.int)[i]? = some x) : ∃ n, ns[i]? = some n ∧ x = .int n := by
  rw [List.getElem?_map] at h
  obtain ⟨n, hn, e⟩ := Option.map_eq_some_iff.mp h
  exact ⟨n, hn, e.symm⟩
/-! ### rules with the written part named (within a comprehension Lean doesn't find it) -/
section
variable {X : Cx}
theorem k_len (K : PySem.W.Frag) (h : X.K = K) : CallR X (.builtin "len") (fun xs H Q => ∃ p ys, xs = [.ref p] ∧ (SqL K H p ys ∨ SqT K H p ys) ∧ Q (.int ys.length) H) := by subst h; exact call_len_seq
theorem k_sum (K : PySem.W.Frag) (h : X.K = K) (hc : X.calm = true) : CallR X (.builtin "sum") (rSum K) := by subst h; exact cr_sum hc
theorem k_max (K : PySem.W.Frag) (h : X.K = K) (hc : X.calm = true) : CallR X (.builtin "max") (rMax K) := by subst h; exact cr_max hc
theorem k_min (K : PySem.W.Frag) (h : X.K = K) (hc : X.calm = true) : CallR X (.builtin "min") (rMin K) := by subst h; exact cr_min hc
theorem k_isi (K : PySem.W.Frag) (h : X.K = K) : CallR X (.builtin "isinstance") (rIsi K) := by subst h; exact call_isi
theorem k_listOf (K : PySem.W.Frag) (h : X.K = K) : CallR X (.type "list") (fun xs H Q => ∃ p ys, xs = [.ref p] ∧ (SqL K H p ys ∨ SqT K H p ys) ∧ ∀ l, H l = none → Q (.ref l) (upd H l (.lst ys))) := by subst h; exact call_list_of
theorem k_tupleOf (K : PySem.W.Frag) (h : X.K = K) : CallR X (.type "tuple") (fun xs H Q => ∃ p ys, xs = [.ref p] ∧ ((SqL K H p ys ∧ ∀ l, H l = none → Q (.ref l) (upd H l (.tup ys))) ∨ (SqT K H p ys ∧ Q (.ref p) H))) := by subst h; exact call_tuple_of
theorem k_ixL (K : PySem.W.Frag) (h : X.K = K) : IxR X (rIxL K) := by subst h; exact ix_list
theorem k_ixT (K : PySem.W.Frag) (h : X.K = K) : IxR X (rIxT K) := by subst h; exact ix_tup
theorem k_slL (K : PySem.W.Frag) (h : X.K = K) : SlR X (rSlL K) := by subst h; exact sl_list
theorem k_slT (K : PySem.W.Frag) (h : X.K = K) : SlR X (rSlT K) := by subst h; exact sl_tup
theorem k_eqD (K : PySem.W.Frag) (h : X.K = K) (hu : X.A.units + 64 < cLine) : OpR X (compareOp .Eq) (rEqD K) := by subst h; exact op_eqD hu
theorem k_neD (K : PySem.W.Frag) (h : X.K = K) (hu : X.A.units + 64 < cLine) : OpR X (compareOp .NotEq) (rNeD K) := by subst h; exact op_neD hu
theorem k_in (K : PySem.W.Frag) (h : X.K = K) : OpR X (compareOp .In) (rIn K false) := by subst h; exact op_in_seq
theorem k_notIn (K : PySem.W.Frag) (h : X.K = K) : OpR X (compareOp .NotIn) (rIn K true) := by subst h; exact op_notIn_seq
theorem k_piL (K : PySem.W.Frag) (h : X.K = K) {tg l : Expr} {tl : TE} (hl : PE X l tl) : PI X tg l (iList K tl) := by subst h; exact pi_list hl
theorem k_piT (K : PySem.W.Frag) (h : X.K = K) {tg l : Expr} {tl : TE} (hl : PE X l tl) : PI X tg l (iTup K tl) := by subst h; exact pi_tup hl
theorem k_piE (K : PySem.W.Frag) (h : X.K = K) {e : Expr} {ta : TA} {p pos tpos : Pos} {elts : List Expr} {kk : Nat} (hg : Gl X "enumerate") (hm : X.mg "enumerate" = none) (ha : PA X [e] ta) (hs : starEach [e] X.env = [(false, eval e X.env)] := by rfl) : PI X (.Tuple elts kk tpos) (.Call (.Name "enumerate" p) [e] [] pos) (iEnum K ta) := by subst h; exact pi_enum hg hm ha hs
theorem k_pgT (K : PySem.W.Frag) (h : X.K = K) {es : List Expr} {k : Nat} {t : TGs} {n : Nat} {pos : Pos} (hc : X.calm = true) (hp : PGs X es t) (hn : (assignEach es X.env).length = n := by rfl) (hst : (assignEach es X.env).findIdx? (·.1) = none := by rfl) : PG X (.Tuple es k pos) (gTup K n t) := by subst h; exact pg_tup hc hp hn hst
theorem k_index (K : PySem.W.Frag) (h : X.K = K) : MtR X "list.index" (rIndex K) := by subst h; exact mt_index
end
/-! ### small things -/
theorem fresh {H : Hp} {p : Addr} (o : HO) (np : H p = none) : ∃ H', upd H p o = H' ∧ Same H H' ∧ H' p = some o := ⟨_, rfl, same_upd np, upd_same⟩
theorem cut_take (xs : List V) (k : Nat) : cutV xs none (some (k : Int)) = xs.take k := by
  unfold cutV
  rw [HT.sIx_nat, HT.sIx_none, List.drop_zero, Nat.sub_zero]
  rcases Nat.le_total k xs.length with h | h
  · rw [Nat.min_eq_left h]
  · rw [Nat.min_eq_right h, List.take_of_length_le h, List.take_length]
theorem cut_drop (xs : List V) (k : Nat) : cutV xs (some (k : Int)) none = xs.drop k := by
  unfold cutV
  rw [HT.sIx_nat, HT.sIx_none]
  rcases Nat.le_total k xs.length with h | h
  · rw [Nat.min_eq_left h, List.take_of_length_le (by rw [List.length_drop]; exact Nat.le_refl _)]
  · rw [Nat.min_eq_right h, List.drop_length, List.drop_of_length_le h, List.take_nil]
theorem rep_ints (k : Nat) (ks : List Int) : (List.replicate k (ks.map V.int)).flatten = ((List.replicate k ks).flatten).map V.int := by
  rw [List.map_flatten, List.map_replicate]
theorem rep_len {α : Type} (k : Nat) (ks : List α) : ((List.replicate k ks).flatten).length = k * ks.length := by
  induction k with
  | zero => simp
  | succ k ih => rw [List.replicate_succ, List.flatten_cons, List.length_append, ih, Nat.succ_mul]; omega
theorem rep_mem {α : Type} {k : Nat} {ks : List α} {x : α} (h : x ∈ (List.replicate k ks).flatten) : x ∈ ks := by
  obtain ⟨l, hl, hx⟩ := List.mem_flatten.mp h
  rw [(List.mem_replicate.mp hl).2] at hx
  exact hx
/-! ### comprehensions that make new things: R tells what is known of the i-th; D is no part of it -/
def Off (D : Addr) (H H' : Hp) : Prop := ∀ b o, b ≠ D → H b = some o → H' b = some o
def RelPv (R : Nat → V → Hp → Prop) (H1 : Hp) (D : Addr) (i : Nat) (H : Hp) : Prop := ∃ ys : List V, Same H1 H ∧ H D = some (.lst ys) ∧ ys.length = i ∧ ∀ (k : Nat) (y : V), ys[k]? = some y → R k y H
theorem lc_relR {lo : Int} {n : Nat} {j : Nat} {te : TE} {vs : List Nat} {σ : L2.St} {H1 : Hp} {D : Addr} {Qd : Hp → Prop} (R : Nat → V → Hp → Prop) (nD : H1 D = none) (hz : n < sizeLine)
    (mono : ∀ i y H H', Off D H H' → R i y H → R i y H')
    (hw : ∀ x, wipe ((wipe σ vs).set j (some x)) vs = wipe σ vs)
    (hs : ∀ (i : Nat) (H' : Hp) (xs : List V), i < n → Same H1 H' → H' D = some (.lst xs) → ∀ Qt : V → Hp → Prop, (∀ y H'', Same H' H'' → R i y H'' → Qt y H'') → te ((wipe σ vs).set j (some (.int (lo + (i : Int))))) H' Qt)
    (hd : ∀ H' ys, Same H1 H' → H' D = some (.lst ys) → ys.length = n → (∀ (i : Nat) (y : V), ys[i]? = some y → R i y H') → Qd H') :
    ∃ W : Nat → Nat → Hp → Prop, (∃ m, W 0 m (upd H1 D (.lst []))) ∧ ∀ i m H, W i m H →
      ((Itr lo n).stop i H ∧ Qd H) ∨ ((Itr lo n).go i H ∧ ∃ Nx : Hp → Prop, (∀ H', Nx H' → ∃ m', m' < m ∧ W (i + 1) m' H') ∧ ∀ x H', (Itr lo n).yld i H x H' → gName j x (wipe σ vs) H' fun σ2 H2 => wipe σ2 vs = wipe σ vs ∧ tYes σ2 H2 fun b H3 =>
        if b = true then te σ2 H3 fun y H4 => ∃ acc, H4 D = some (.lst acc) ∧ acc.length < sizeLine ∧ Nx (upd H4 D (.lst (acc ++ [y]))) else Nx H3) := by
  refine lc_range (lo := lo) (n := n) (RelPv R H1 D) ⟨[], same_upd nD, upd_same, rfl, fun k y h => by simp at h⟩ ?_ ?_
  · rintro i H hi ⟨ys, s, hD, hl, hR⟩
    refine ⟨hw _, ?_⟩
    show if true = true then te ((wipe σ vs).set j (some (.int (lo + (i : Int))))) H (fun y H4 => ∃ acc, H4 D = some (.lst acc) ∧ acc.length < sizeLine ∧ RelPv R H1 D (i + 1) (upd H4 D (.lst (acc ++ [y])))) else RelPv R H1 D (i + 1) H
    refine iteT (hs i H ys hi s hD _ fun y H4 s4 r4 => ?_)
    refine ⟨ys, s4 _ _ hD, by omega, ys ++ [y], same_over nD (s.trans s4), upd_same, by rw [List.length_append, hl]; rfl, fun k z hz => ?_⟩
    have off : Off D H4 (upd H4 D (.lst (ys ++ [y]))) := fun b o nb h => by rw [upd_ne nb]; exact h
    by_cases hk : k < ys.length
    · rw [List.getElem?_append_left hk] at hz
      exact mono k z H _ (fun b o nb h => off b o nb (s4 b o h)) (hR k z hz)
    · rw [List.getElem?_append_right (by omega)] at hz
      have hk2 : k - ys.length = 0 := by
        have h2 := (List.getElem?_eq_some_iff.mp hz).1
        rw [List.length_singleton] at h2
        omega
      rw [hk2] at hz
      cases hz
      have ek : k = i := by omega
      rw [ek]
      exact mono i y H4 _ off r4
  · rintro H ⟨ys, s, hD, hl, hR⟩
    exact hd H ys s hD hl hR
/-! ### ways that are told by whole numbers -/
theorem iteDT {p A B : Prop} [Decidable p] (hp : p) (h : A) : if decide p = true then A else B := by rw [decide_eq_true hp]; exact iteT h
theorem iteDF {p A B : Prop} [Decidable p] (hp : ¬ p) (h : B) : if decide p = true then A else B := by rw [decide_eq_false hp]; exact iteF h
theorem iteNT {p A B : Prop} [Decidable p] (hp : ¬ p) (h : A) : if (!decide p) = true then A else B := by rw [decide_eq_false hp]; exact iteT h
theorem iteNF {p A B : Prop} [Decidable p] (hp : p) (h : B) : if (!decide p) = true then A else B := by rw [decide_eq_true hp]; exact iteF h
theorem iteET {a b : Int} {A B : Prop} [Decidable (V.int a = V.int b)] (hp : a = b) (h : A) : if decide (V.int a = V.int b) = true then A else B := iteDT (congrArg V.int hp) h
theorem iteEF {a b : Int} {A B : Prop} [Decidable (V.int a = V.int b)] (hp : ¬ a = b) (h : B) : if decide (V.int a = V.int b) = true then A else B := iteDF (fun z => hp (V.int.inj z)) h
theorem iteENT {a b : Int} {A B : Prop} [Decidable (V.int a = V.int b)] (hp : ¬ a = b) (h : A) : if (!decide (V.int a = V.int b)) = true then A else B := iteNT (fun z => hp (V.int.inj z)) h
theorem iteENF {a b : Int} {A B : Prop} [Decidable (V.int a = V.int b)] (hp : a = b) (h : B) : if (!decide (V.int a = V.int b)) = true then A else B := iteNF (congrArg V.int hp) h
theorem iteNtt {A B : Prop} (h : B) : if (!true) = true then A else B := h
theorem iteNff {A B : Prop} (h : A) : if (!false) = true then A else B := h
/-- 1 or 0 of a comparison -/
theorem int_if {p : Prop} [Decidable p] : (if decide p = true then (1 : Int) else 0) = if p then 1 else 0 := by by_cases h : p <;> simp [h]
end Pre

namespace My
open PySem PySem.Spec PyProof.Rows L2
theorem nil_binds {K : PySem.W.Frag} {fd : FuncData} {ps : List Str} (h : ∃ ds, Vals [] ds ∧ Binds K fd ps ds) : Binds K fd ps [] := by
  obtain ⟨ds, v, b⟩ := h
  cases v
  exact b
def top (i : Nat) : Stmt := PySem.Challenge.pw_wholesound_k65_mends.main.body.getD i (.Pass ⟨0, 0, 0, 0⟩)
abbrev s_is_whole : Stmt := top 6
abbrev N_is_whole : List Str := ["value"]
theorem sc_is_whole : FnScope N_is_whole ["value"] (defScope s_is_whole) := ⟨rfl, rfl, rfl, by decide +kernel, rfl, by decide +kernel, by decide +kernel⟩
abbrev s_is_between : Stmt := top 7
abbrev N_is_between : List Str := ["value", "low", "high"]
theorem sc_is_between : FnScope N_is_between ["value", "low", "high"] (defScope s_is_between) := ⟨rfl, rfl, rfl, by decide +kernel, rfl, by decide +kernel, by decide +kernel⟩
abbrev s_is_bits : Stmt := top 8
abbrev N_is_bits : List Str := ["value", "sign"]
theorem sc_is_bits : FnScope N_is_bits ["value"] (defScope s_is_bits) := ⟨rfl, rfl, rfl, by decide +kernel, rfl, by decide +kernel, by decide +kernel⟩
abbrev s_bits_of : Stmt := top 9
abbrev N_bits_of : List Str := ["number", "many", "at"]
theorem sc_bits_of : FnScope N_bits_of ["number", "many"] (defScope s_bits_of) := ⟨rfl, rfl, rfl, by decide +kernel, rfl, by decide +kernel, by decide +kernel⟩
abbrev s_check_number : Stmt := top 10
abbrev N_check_number : List Str := ["number", "low", "high"]
theorem sc_check_number : FnScope N_check_number ["number", "low", "high"] (defScope s_check_number) := ⟨rfl, rfl, rfl, by decide +kernel, rfl, by decide +kernel, by decide +kernel⟩
abbrev s_check_bits : Stmt := top 11
abbrev N_check_bits : List Str := ["bits"]
theorem sc_check_bits : FnScope N_check_bits ["bits"] (defScope s_check_bits) := ⟨rfl, rfl, rfl, by decide +kernel, rfl, by decide +kernel, by decide +kernel⟩
abbrev s_sum_of : Stmt := top 15
abbrev N_sum_of : List Str := ["check"]
theorem sc_sum_of : FnScope N_sum_of ["check"] (defScope s_sum_of) := ⟨rfl, rfl, rfl, by decide +kernel, rfl, by decide +kernel, by decide +kernel⟩
abbrev s_check_check : Stmt := top 16
abbrev N_check_check : List Str := ["check"]
theorem sc_check_check : FnScope N_check_check ["check"] (defScope s_check_check) := ⟨rfl, rfl, rfl, by decide +kernel, rfl, by decide +kernel, by decide +kernel⟩
abbrev s_shifted : Stmt := top 17
abbrev N_shifted : List Str := ["check", "one"]
theorem sc_shifted : FnScope N_shifted ["check", "one"] (defScope s_shifted) := ⟨rfl, rfl, rfl, by decide +kernel, rfl, by decide +kernel, by decide +kernel⟩
abbrev s_rest_of : Stmt := top 18
abbrev N_rest_of : List Str := ["check", "bits", "found", "sign"]
theorem sc_rest_of : FnScope N_rest_of ["check", "bits"] (defScope s_rest_of) := ⟨rfl, rfl, rfl, by decide +kernel, rfl, by decide +kernel, by decide +kernel⟩
abbrev s_word : Stmt := top 19
abbrev N_word : List Str := ["check", "bits"]
theorem sc_word : FnScope N_word ["check", "bits"] (defScope s_word) := ⟨rfl, rfl, rfl, by decide +kernel, rfl, by decide +kernel, by decide +kernel⟩
abbrev s_sealed : Stmt := top 20
abbrev N_sealed : List Str := ["check", "bits"]
theorem sc_sealed : FnScope N_sealed ["check", "bits"] (defScope s_sealed) := ⟨rfl, rfl, rfl, by decide +kernel, rfl, by decide +kernel, by decide +kernel⟩
abbrev s_powers_of : Stmt := top 21
abbrev N_powers_of : List Str := ["check", "found", "now"]
theorem sc_powers_of : FnScope N_powers_of ["check"] (defScope s_powers_of) := ⟨rfl, rfl, rfl, by decide +kernel, rfl, by decide +kernel, by decide +kernel⟩
abbrev s_spots_of : Stmt := top 22
abbrev N_spots_of : List Str := ["powers", "place", "value"]
theorem sc_spots_of : FnScope N_spots_of ["powers"] (defScope s_spots_of) := ⟨rfl, rfl, rfl, by decide +kernel, rfl, by decide +kernel, by decide +kernel⟩
abbrev s_least_of_three : Stmt := top 23
abbrev N_least_of_three : List Str := ["powers", "spots", "place", "value"]
theorem sc_least_of_three : FnScope N_least_of_three ["powers", "spots"] (defScope s_least_of_three) := ⟨rfl, rfl, rfl, by decide +kernel, rfl, by decide +kernel, by decide +kernel⟩
abbrev s_least_of_four : Stmt := top 24
abbrev N_least_of_four : List Str := ["powers", "most", "pairs", "place", "other"]
theorem sc_least_of_four : FnScope N_least_of_four ["powers", "most"] (defScope s_least_of_four) := ⟨rfl, rfl, rfl, by decide +kernel, rfl, by decide +kernel, by decide +kernel⟩
abbrev s_longest_of : Stmt := top 25
abbrev N_longest_of : List Str := ["powers", "few", "found"]
theorem sc_longest_of : FnScope N_longest_of ["powers", "few"] (defScope s_longest_of) := ⟨rfl, rfl, rfl, by decide +kernel, rfl, by decide +kernel, by decide +kernel⟩
abbrev s_longest : Stmt := top 26
abbrev N_longest : List Str := ["check", "few"]
theorem sc_longest : FnScope N_longest ["check", "few"] (defScope s_longest) := ⟨rfl, rfl, rfl, by decide +kernel, rfl, by decide +kernel, by decide +kernel⟩
abbrev s_mends : Stmt := top 28
abbrev N_mends : List Str := ["check", "bits", "most", "place", "left", "found", "spots", "now", "powers", "one", "other"]
theorem sc_mends : FnScope N_mends ["check", "bits", "most"] (defScope s_mends) := ⟨rfl, rfl, rfl, by decide +kernel, rfl, by decide +kernel, by decide +kernel⟩
abbrev s_law_hash : Stmt := top 30
abbrev N_law_hash : List Str := ["_law_seed", "_law_index", "_law_mixed"]
theorem sc_law_hash : FnScope N_law_hash ["_law_seed", "_law_index"] (defScope s_law_hash) := ⟨rfl, rfl, rfl, by decide +kernel, rfl, by decide +kernel, by decide +kernel⟩
abbrev s_law_random : Stmt := top 31
abbrev N_law_random : List Str := ["_law_generator_here", "_law_bound", "_law_drawn_here", "_law_turn"]
theorem sc_law_random : FnScope N_law_random ["_law_generator_here", "_law_bound"] (defScope s_law_random) := ⟨rfl, rfl, rfl, by decide +kernel, rfl, by decide +kernel, by decide +kernel⟩
abbrev s_law_cell : Stmt := top 32
abbrev N_law_cell : List Str := ["_law_script", "_law_index"]
theorem sc_law_cell : FnScope N_law_cell ["_law_script", "_law_index"] (defScope s_law_cell) := ⟨rfl, rfl, rfl, by decide +kernel, rfl, by decide +kernel, by decide +kernel⟩
abbrev s_law_generator : Stmt := top 33
abbrev N_law_generator : List Str := ["_law_script", "_law_index", "_law_seed"]
theorem sc_law_generator : FnScope N_law_generator ["_law_script", "_law_index"] (defScope s_law_generator) := ⟨rfl, rfl, rfl, by decide +kernel, rfl, by decide +kernel, by decide +kernel⟩
abbrev s_law_rest : Stmt := top 34
abbrev N_law_rest : List Str := ["_law_whole", "_law_number_here", "_law_left"]
theorem sc_law_rest : FnScope N_law_rest ["_law_whole", "_law_number_here"] (defScope s_law_rest) := ⟨rfl, rfl, rfl, by decide +kernel, rfl, by decide +kernel, by decide +kernel⟩
abbrev s_law_number : Stmt := top 35
abbrev N_law_number : List Str := ["_law_bits_here", "_law_found", "_law_sign"]
theorem sc_law_number : FnScope N_law_number ["_law_bits_here"] (defScope s_law_number) := ⟨rfl, rfl, rfl, by decide +kernel, rfl, by decide +kernel, by decide +kernel⟩
abbrev s_law_bits : Stmt := top 36
abbrev N_law_bits : List Str := ["_law_number_here", "_law_many", "_law_found", "_law_place"]
theorem sc_law_bits : FnScope N_law_bits ["_law_number_here", "_law_many"] (defScope s_law_bits) := ⟨rfl, rfl, rfl, by decide +kernel, rfl, by decide +kernel, by decide +kernel⟩
abbrev s_law_drawn : Stmt := top 37
abbrev N_law_drawn : List Str := ["_law_generator_here", "_law_width"]
theorem sc_law_drawn : FnScope N_law_drawn ["_law_generator_here", "_law_width"] (defScope s_law_drawn) := ⟨rfl, rfl, rfl, by decide +kernel, rfl, by decide +kernel, by decide +kernel⟩
abbrev s_law_row : Stmt := top 38
abbrev N_law_row : List Str := ["_law_generator_here", "_law_many"]
theorem sc_law_row : FnScope N_law_row ["_law_generator_here", "_law_many"] (defScope s_law_row) := ⟨rfl, rfl, rfl, by decide +kernel, rfl, by decide +kernel, by decide +kernel⟩
abbrev s_law_mends : Stmt := top 39
abbrev N_law_mends : List Str := ["_law_whole", "_law_bits_here", "_law_most", "_law_one", "_law_number_here", "_law_found", "_law_other"]
theorem sc_law_mends : FnScope N_law_mends ["_law_whole", "_law_bits_here", "_law_most"] (defScope s_law_mends) := ⟨rfl, rfl, rfl, by decide +kernel, rfl, by decide +kernel, by decide +kernel⟩
abbrev s_law_right : Stmt := top 40
abbrev N_law_right : List Str := ["_law_check", "_law_whole", "_law_bits_here", "_law_most", "_law_due", "_law_told", "_law_one"]
theorem sc_law_right : FnScope N_law_right ["_law_check", "_law_whole", "_law_bits_here"] (defScope s_law_right) := ⟨rfl, rfl, rfl, by decide +kernel, rfl, by decide +kernel, by decide +kernel⟩
abbrev s_law : Stmt := top 41
abbrev N_law : List Str := ["_law_script", "_law_index", "_law_three", "_law_generator_here", "_law_width", "_law_low", "_law_bits_here", "_law_turn", "_law_bent", "_law_other", "_law_most", "_law_check", "_law_whole", "_law_number_here", "_law_turned", "_law_place"]
theorem sc_law : FnScope N_law ["_law_script"] (defScope s_law) := ⟨rfl, rfl, rfl, by decide +kernel, rfl, by decide +kernel, by decide +kernel⟩
abbrev s_Check___init__ : Stmt := inClass (top 14) 0
abbrev N_Check___init__ : List Str := ["self", "width", "low"]
theorem sc_Check___init__ : FnScope N_Check___init__ ["self", "width", "low"] (defScope s_Check___init__) := ⟨rfl, rfl, rfl, by decide +kernel, rfl, by decide +kernel, by decide +kernel⟩
/-- what the top has left -/
structure Top (K : PySem.W.Frag) (mg : Str → Option Value) where
  C_Check : Addr
  gc_Check : mg "Check" = some (.ref C_Check)
  cl_Check : Cls K C_Check
  ic_Check : C8.InsC K C_Check
  na_Check_size : NoAttr K C_Check "size"
  na_Check_tail : NoAttr K C_Check "tail"
  f_is_whole : Addr
  fd_is_whole : FuncData
  F_is_whole : FunD K "is_whole" "is_whole" (defArgs s_is_whole) (defBody s_is_whole) (defScope s_is_whole) [] [] f_is_whole fd_is_whole
  b_is_whole : Binds K fd_is_whole ["value"] []
  g_is_whole : mg "is_whole" = some (.ref f_is_whole)
  f_is_between : Addr
  fd_is_between : FuncData
  F_is_between : FunD K "is_between" "is_between" (defArgs s_is_between) (defBody s_is_between) (defScope s_is_between) [] [] f_is_between fd_is_between
  b_is_between : Binds K fd_is_between ["value", "low", "high"] []
  g_is_between : mg "is_between" = some (.ref f_is_between)
  f_is_bits : Addr
  fd_is_bits : FuncData
  F_is_bits : FunD K "is_bits" "is_bits" (defArgs s_is_bits) (defBody s_is_bits) (defScope s_is_bits) [] [] f_is_bits fd_is_bits
  b_is_bits : Binds K fd_is_bits ["value"] []
  g_is_bits : mg "is_bits" = some (.ref f_is_bits)
  f_bits_of : Addr
  fd_bits_of : FuncData
  F_bits_of : FunD K "bits_of" "bits_of" (defArgs s_bits_of) (defBody s_bits_of) (defScope s_bits_of) [] [] f_bits_of fd_bits_of
  b_bits_of : Binds K fd_bits_of ["number", "many"] []
  g_bits_of : mg "bits_of" = some (.ref f_bits_of)
  f_check_number : Addr
  fd_check_number : FuncData
  F_check_number : FunD K "check_number" "check_number" (defArgs s_check_number) (defBody s_check_number) (defScope s_check_number) [] [] f_check_number fd_check_number
  b_check_number : Binds K fd_check_number ["number", "low", "high"] []
  g_check_number : mg "check_number" = some (.ref f_check_number)
  f_check_bits : Addr
  fd_check_bits : FuncData
  F_check_bits : FunD K "check_bits" "check_bits" (defArgs s_check_bits) (defBody s_check_bits) (defScope s_check_bits) [] [] f_check_bits fd_check_bits
  b_check_bits : Binds K fd_check_bits ["bits"] []
  g_check_bits : mg "check_bits" = some (.ref f_check_bits)
  f_sum_of : Addr
  fd_sum_of : FuncData
  F_sum_of : FunD K "sum_of" "sum_of" (defArgs s_sum_of) (defBody s_sum_of) (defScope s_sum_of) [] [] f_sum_of fd_sum_of
  b_sum_of : Binds K fd_sum_of ["check"] []
  g_sum_of : mg "sum_of" = some (.ref f_sum_of)
  f_check_check : Addr
  fd_check_check : FuncData
  F_check_check : FunD K "check_check" "check_check" (defArgs s_check_check) (defBody s_check_check) (defScope s_check_check) [] [] f_check_check fd_check_check
  b_check_check : Binds K fd_check_check ["check"] []
  g_check_check : mg "check_check" = some (.ref f_check_check)
  f_shifted : Addr
  fd_shifted : FuncData
  F_shifted : FunD K "shifted" "shifted" (defArgs s_shifted) (defBody s_shifted) (defScope s_shifted) [] [] f_shifted fd_shifted
  b_shifted : Binds K fd_shifted ["check", "one"] []
  g_shifted : mg "shifted" = some (.ref f_shifted)
  f_rest_of : Addr
  fd_rest_of : FuncData
  F_rest_of : FunD K "rest_of" "rest_of" (defArgs s_rest_of) (defBody s_rest_of) (defScope s_rest_of) [] [] f_rest_of fd_rest_of
  b_rest_of : Binds K fd_rest_of ["check", "bits"] []
  g_rest_of : mg "rest_of" = some (.ref f_rest_of)
  f_word : Addr
  fd_word : FuncData
  F_word : FunD K "word" "word" (defArgs s_word) (defBody s_word) (defScope s_word) [] [] f_word fd_word
  b_word : Binds K fd_word ["check", "bits"] []
  g_word : mg "word" = some (.ref f_word)
  f_sealed : Addr
  fd_sealed : FuncData
  F_sealed : FunD K "sealed" "sealed" (defArgs s_sealed) (defBody s_sealed) (defScope s_sealed) [] [] f_sealed fd_sealed
  b_sealed : Binds K fd_sealed ["check", "bits"] []
  g_sealed : mg "sealed" = some (.ref f_sealed)
  f_powers_of : Addr
  fd_powers_of : FuncData
  F_powers_of : FunD K "powers_of" "powers_of" (defArgs s_powers_of) (defBody s_powers_of) (defScope s_powers_of) [] [] f_powers_of fd_powers_of
  b_powers_of : Binds K fd_powers_of ["check"] []
  g_powers_of : mg "powers_of" = some (.ref f_powers_of)
  f_spots_of : Addr
  fd_spots_of : FuncData
  F_spots_of : FunD K "spots_of" "spots_of" (defArgs s_spots_of) (defBody s_spots_of) (defScope s_spots_of) [] [] f_spots_of fd_spots_of
  b_spots_of : Binds K fd_spots_of ["powers"] []
  g_spots_of : mg "spots_of" = some (.ref f_spots_of)
  f_least_of_three : Addr
  fd_least_of_three : FuncData
  F_least_of_three : FunD K "least_of_three" "least_of_three" (defArgs s_least_of_three) (defBody s_least_of_three) (defScope s_least_of_three) [] [] f_least_of_three fd_least_of_three
  b_least_of_three : Binds K fd_least_of_three ["powers", "spots"] []
  g_least_of_three : mg "least_of_three" = some (.ref f_least_of_three)
  f_least_of_four : Addr
  fd_least_of_four : FuncData
  F_least_of_four : FunD K "least_of_four" "least_of_four" (defArgs s_least_of_four) (defBody s_least_of_four) (defScope s_least_of_four) [] [] f_least_of_four fd_least_of_four
  b_least_of_four : Binds K fd_least_of_four ["powers", "most"] []
  g_least_of_four : mg "least_of_four" = some (.ref f_least_of_four)
  f_longest_of : Addr
  fd_longest_of : FuncData
  F_longest_of : FunD K "longest_of" "longest_of" (defArgs s_longest_of) (defBody s_longest_of) (defScope s_longest_of) [] [] f_longest_of fd_longest_of
  b_longest_of : Binds K fd_longest_of ["powers", "few"] []
  g_longest_of : mg "longest_of" = some (.ref f_longest_of)
  f_longest : Addr
  fd_longest : FuncData
  F_longest : FunD K "longest" "longest" (defArgs s_longest) (defBody s_longest) (defScope s_longest) [] [] f_longest fd_longest
  b_longest : Binds K fd_longest ["check", "few"] []
  g_longest : mg "longest" = some (.ref f_longest)
  f_mends : Addr
  fd_mends : FuncData
  F_mends : FunD K "mends" "mends" (defArgs s_mends) (defBody s_mends) (defScope s_mends) [] [] f_mends fd_mends
  b_mends : Binds K fd_mends ["check", "bits", "most"] []
  g_mends : mg "mends" = some (.ref f_mends)
  f_law_hash : Addr
  fd_law_hash : FuncData
  F_law_hash : FunD K "_law_hash" "_law_hash" (defArgs s_law_hash) (defBody s_law_hash) (defScope s_law_hash) [] [] f_law_hash fd_law_hash
  b_law_hash : Binds K fd_law_hash ["_law_seed", "_law_index"] []
  g_law_hash : mg "_law_hash" = some (.ref f_law_hash)
  f_law_random : Addr
  fd_law_random : FuncData
  F_law_random : FunD K "_law_random" "_law_random" (defArgs s_law_random) (defBody s_law_random) (defScope s_law_random) [] [] f_law_random fd_law_random
  b_law_random : Binds K fd_law_random ["_law_generator_here", "_law_bound"] []
  g_law_random : mg "_law_random" = some (.ref f_law_random)
  f_law_cell : Addr
  fd_law_cell : FuncData
  F_law_cell : FunD K "_law_cell" "_law_cell" (defArgs s_law_cell) (defBody s_law_cell) (defScope s_law_cell) [] [] f_law_cell fd_law_cell
  b_law_cell : Binds K fd_law_cell ["_law_script", "_law_index"] []
  g_law_cell : mg "_law_cell" = some (.ref f_law_cell)
  f_law_generator : Addr
  fd_law_generator : FuncData
  F_law_generator : FunD K "_law_generator" "_law_generator" (defArgs s_law_generator) (defBody s_law_generator) (defScope s_law_generator) [] [] f_law_generator fd_law_generator
  b_law_generator : Binds K fd_law_generator ["_law_script", "_law_index"] []
  g_law_generator : mg "_law_generator" = some (.ref f_law_generator)
  f_law_rest : Addr
  fd_law_rest : FuncData
  F_law_rest : FunD K "_law_rest" "_law_rest" (defArgs s_law_rest) (defBody s_law_rest) (defScope s_law_rest) [] [] f_law_rest fd_law_rest
  b_law_rest : Binds K fd_law_rest ["_law_whole", "_law_number_here"] []
  g_law_rest : mg "_law_rest" = some (.ref f_law_rest)
  f_law_number : Addr
  fd_law_number : FuncData
  F_law_number : FunD K "_law_number" "_law_number" (defArgs s_law_number) (defBody s_law_number) (defScope s_law_number) [] [] f_law_number fd_law_number
  b_law_number : Binds K fd_law_number ["_law_bits_here"] []
  g_law_number : mg "_law_number" = some (.ref f_law_number)
  f_law_bits : Addr
  fd_law_bits : FuncData
  F_law_bits : FunD K "_law_bits" "_law_bits" (defArgs s_law_bits) (defBody s_law_bits) (defScope s_law_bits) [] [] f_law_bits fd_law_bits
  b_law_bits : Binds K fd_law_bits ["_law_number_here", "_law_many"] []
  g_law_bits : mg "_law_bits" = some (.ref f_law_bits)
  f_law_drawn : Addr
  fd_law_drawn : FuncData
  F_law_drawn : FunD K "_law_drawn" "_law_drawn" (defArgs s_law_drawn) (defBody s_law_drawn) (defScope s_law_drawn) [] [] f_law_drawn fd_law_drawn
  b_law_drawn : Binds K fd_law_drawn ["_law_generator_here", "_law_width"] []
  g_law_drawn : mg "_law_drawn" = some (.ref f_law_drawn)
  f_law_row : Addr
  fd_law_row : FuncData
  F_law_row : FunD K "_law_row" "_law_row" (defArgs s_law_row) (defBody s_law_row) (defScope s_law_row) [] [] f_law_row fd_law_row
  b_law_row : Binds K fd_law_row ["_law_generator_here", "_law_many"] []
  g_law_row : mg "_law_row" = some (.ref f_law_row)
  f_law_mends : Addr
  fd_law_mends : FuncData
  F_law_mends : FunD K "_law_mends" "_law_mends" (defArgs s_law_mends) (defBody s_law_mends) (defScope s_law_mends) [] [] f_law_mends fd_law_mends
  b_law_mends : Binds K fd_law_mends ["_law_whole", "_law_bits_here", "_law_most"] []
  g_law_mends : mg "_law_mends" = some (.ref f_law_mends)
  f_law_right : Addr
  fd_law_right : FuncData
  F_law_right : FunD K "_law_right" "_law_right" (defArgs s_law_right) (defBody s_law_right) (defScope s_law_right) [] [] f_law_right fd_law_right
  b_law_right : Binds K fd_law_right ["_law_check", "_law_whole", "_law_bits_here"] []
  g_law_right : mg "_law_right" = some (.ref f_law_right)
  f_law : Addr
  fd_law : FuncData
  F_law : FunD K "law" "law" (defArgs s_law) (defBody s_law) (defScope s_law) [] [] f_law fd_law
  b_law : Binds K fd_law ["_law_script"] []
  g_law : mg "law" = some (.ref f_law)
  f_Check___init__ : Addr
  fd_Check___init__ : FuncData
  F_Check___init__ : FunD K "__init__" "Check.__init__" (defArgs s_Check___init__) (defBody s_Check___init__) (defScope s_Check___init__) [] [] f_Check___init__ fd_Check___init__
  b_Check___init__ : Binds K fd_Check___init__ ["self", "width", "low"] []
  me_Check___init__ : Meth K C_Check "__init__" f_Check___init__
  mk_Check : Mk K C_Check f_Check___init__
  n_len : mg "len" = none
  n_sum : mg "sum" = none
  n_max : mg "max" = none
  n_min : mg "min" = none
  n_int : mg "int" = none
  n_bool : mg "bool" = none
  n_str : mg "str" = none
  n_range : mg "range" = none
  n_isinstance : mg "isinstance" = none
  n_enumerate : mg "enumerate" = none
  n_sorted : mg "sorted" = none
  t_MOST_WIDTH : Tok
  m_MOST_WIDTH : mg "MOST_WIDTH" = some (.int 16 t_MOST_WIDTH)
def d_is_whole : He.DefD := ⟨("is_whole", none), "is_whole", "is_whole", defArgs s_is_whole, defBody s_is_whole, defScope s_is_whole, [], []⟩
def d_is_between : He.DefD := ⟨("is_between", none), "is_between", "is_between", defArgs s_is_between, defBody s_is_between, defScope s_is_between, [], []⟩
def d_is_bits : He.DefD := ⟨("is_bits", none), "is_bits", "is_bits", defArgs s_is_bits, defBody s_is_bits, defScope s_is_bits, [], []⟩
def d_bits_of : He.DefD := ⟨("bits_of", none), "bits_of", "bits_of", defArgs s_bits_of, defBody s_bits_of, defScope s_bits_of, [], []⟩
def d_check_number : He.DefD := ⟨("check_number", none), "check_number", "check_number", defArgs s_check_number, defBody s_check_number, defScope s_check_number, [], []⟩
def d_check_bits : He.DefD := ⟨("check_bits", none), "check_bits", "check_bits", defArgs s_check_bits, defBody s_check_bits, defScope s_check_bits, [], []⟩
def d_sum_of : He.DefD := ⟨("sum_of", none), "sum_of", "sum_of", defArgs s_sum_of, defBody s_sum_of, defScope s_sum_of, [], []⟩
def d_check_check : He.DefD := ⟨("check_check", none), "check_check", "check_check", defArgs s_check_check, defBody s_check_check, defScope s_check_check, [], []⟩
def d_shifted : He.DefD := ⟨("shifted", none), "shifted", "shifted", defArgs s_shifted, defBody s_shifted, defScope s_shifted, [], []⟩
def d_rest_of : He.DefD := ⟨("rest_of", none), "rest_of", "rest_of", defArgs s_rest_of, defBody s_rest_of, defScope s_rest_of, [], []⟩
def d_word : He.DefD := ⟨("word", none), "word", "word", defArgs s_word, defBody s_word, defScope s_word, [], []⟩
def d_sealed : He.DefD := ⟨("sealed", none), "sealed", "sealed", defArgs s_sealed, defBody s_sealed, defScope s_sealed, [], []⟩
def d_powers_of : He.DefD := ⟨("powers_of", none), "powers_of", "powers_of", defArgs s_powers_of, defBody s_powers_of, defScope s_powers_of, [], []⟩
def d_spots_of : He.DefD := ⟨("spots_of", none), "spots_of", "spots_of", defArgs s_spots_of, defBody s_spots_of, defScope s_spots_of, [], []⟩
def d_least_of_three : He.DefD := ⟨("least_of_three", none), "least_of_three", "least_of_three", defArgs s_least_of_three, defBody s_least_of_three, defScope s_least_of_three, [], []⟩
def d_least_of_four : He.DefD := ⟨("least_of_four", none), "least_of_four", "least_of_four", defArgs s_least_of_four, defBody s_least_of_four, defScope s_least_of_four, [], []⟩
def d_longest_of : He.DefD := ⟨("longest_of", none), "longest_of", "longest_of", defArgs s_longest_of, defBody s_longest_of, defScope s_longest_of, [], []⟩
def d_longest : He.DefD := ⟨("longest", none), "longest", "longest", defArgs s_longest, defBody s_longest, defScope s_longest, [], []⟩
def d_mends : He.DefD := ⟨("mends", none), "mends", "mends", defArgs s_mends, defBody s_mends, defScope s_mends, [], []⟩
def d_law_hash : He.DefD := ⟨("_law_hash", none), "_law_hash", "_law_hash", defArgs s_law_hash, defBody s_law_hash, defScope s_law_hash, [], []⟩
def d_law_random : He.DefD := ⟨("_law_random", none), "_law_random", "_law_random", defArgs s_law_random, defBody s_law_random, defScope s_law_random, [], []⟩
def d_law_cell : He.DefD := ⟨("_law_cell", none), "_law_cell", "_law_cell", defArgs s_law_cell, defBody s_law_cell, defScope s_law_cell, [], []⟩
def d_law_generator : He.DefD := ⟨("_law_generator", none), "_law_generator", "_law_generator", defArgs s_law_generator, defBody s_law_generator, defScope s_law_generator, [], []⟩
def d_law_rest : He.DefD := ⟨("_law_rest", none), "_law_rest", "_law_rest", defArgs s_law_rest, defBody s_law_rest, defScope s_law_rest, [], []⟩
def d_law_number : He.DefD := ⟨("_law_number", none), "_law_number", "_law_number", defArgs s_law_number, defBody s_law_number, defScope s_law_number, [], []⟩
def d_law_bits : He.DefD := ⟨("_law_bits", none), "_law_bits", "_law_bits", defArgs s_law_bits, defBody s_law_bits, defScope s_law_bits, [], []⟩
def d_law_drawn : He.DefD := ⟨("_law_drawn", none), "_law_drawn", "_law_drawn", defArgs s_law_drawn, defBody s_law_drawn, defScope s_law_drawn, [], []⟩
def d_law_row : He.DefD := ⟨("_law_row", none), "_law_row", "_law_row", defArgs s_law_row, defBody s_law_row, defScope s_law_row, [], []⟩
def d_law_mends : He.DefD := ⟨("_law_mends", none), "_law_mends", "_law_mends", defArgs s_law_mends, defBody s_law_mends, defScope s_law_mends, [], []⟩
def d_law_right : He.DefD := ⟨("_law_right", none), "_law_right", "_law_right", defArgs s_law_right, defBody s_law_right, defScope s_law_right, [], []⟩
def d_law : He.DefD := ⟨("law", none), "law", "law", defArgs s_law, defBody s_law, defScope s_law, [], []⟩
def d_Check___init__ : He.DefD := ⟨("Check", some "__init__"), "__init__", "Check.__init__", defArgs s_Check___init__, defBody s_Check___init__, defScope s_Check___init__, [], []⟩
def fn : List He.DefD := [d_is_whole, d_is_between, d_is_bits, d_bits_of, d_check_number, d_check_bits, d_sum_of, d_check_check, d_shifted, d_rest_of, d_word, d_sealed, d_powers_of, d_spots_of, d_least_of_three, d_least_of_four, d_longest_of, d_longest, d_mends, d_law_hash, d_law_random, d_law_cell, d_law_generator, d_law_rest, d_law_number, d_law_bits, d_law_drawn, d_law_row, d_law_mends, d_law_right, d_law, d_Check___init__]
def fa0 : List He.Fa := [.glo "is_whole", .glo "is_between", .glo "is_bits", .glo "bits_of", .glo "check_number", .glo "check_bits", .glo "sum_of", .glo "check_check", .glo "shifted", .glo "rest_of", .glo "word", .glo "sealed", .glo "powers_of", .glo "spots_of", .glo "least_of_three", .glo "least_of_four", .glo "longest_of", .glo "longest", .glo "mends", .glo "_law_hash", .glo "_law_random", .glo "_law_cell", .glo "_law_generator", .glo "_law_rest", .glo "_law_number", .glo "_law_bits", .glo "_law_drawn", .glo "_law_row", .glo "_law_mends", .glo "_law_right"]
def fa1 : List He.Fa := [.glo "law", .free "len", .free "sum", .free "max", .free "min", .free "int", .free "bool", .free "str", .free "range", .free "isinstance", .free "enumerate", .free "sorted", .int "MOST_WIDTH" 16, .glo "Check", .cls "Check", .noat "Check" "size", .noat "Check" "tail", .mkr "Check", .meth "Check" "__init__"]
def fa : List He.Fa := fa0 ++ fa1
/-- isinstance of an own class -/
def insB (K : PySem.W.Frag) (x : Str) : Bool := decide (PySem.W.findIn K (.ref (He.ga K x)) "__class__" = some (some (.builtin "object.__class__"))) && (decide (PySem.W.specialIn K (.builtin "object.__class__") "__get__" = some (some (.builtin "getset_descriptor.__get__"))) && (decide (PySem.W.takesIn K (.builtin "object.__class__") = some true) && (decide (PySem.W.mroIn K (He.ga K x) (.type "object") = some true) && decide (PySem.W.kitOne K (.ref (He.ga K x)) (.ref (He.ga K x)) = some true))))
theorem insB_ok {K : PySem.W.Frag} {x : Str} (cl : Cls K (He.ga K x)) (h : insB K x = true) : C8.InsC K (He.ga K x) := by
  unfold insB at h
  simp only [Bool.and_eq_true, decide_eq_true_eq] at h
  exact ⟨cl, h.1, h.2.1, h.2.2.1, h.2.2.2.1, h.2.2.2.2⟩
def eqB (K : PySem.W.Frag) (x : Str) : Bool := decide (PySem.W.findIn K (.ref (He.ga K x)) "__ne__" = some (some (.builtin "object.__ne__"))) && (decide (PySem.W.subIn K (.ref (He.ga K x)) (.type "object") = some true) && (decide (PySem.W.subIn K (.type "list") (.ref (He.ga K x)) = some false) && decide (PySem.W.kitOne K (.type "list") (.ref (He.ga K x)) = some false)))
def eqs : List Str := []
def own : List Str := ["Check"]
def ex (K : PySem.W.Frag) : Bool := (own.all fun x => insB K x) && eqs.all fun x => eqB K x
abbrev R : PySem.W.OpenRow := PySem.W.OpenLaw.row PySem.Challenge.rw_wholesound_k65_mends
abbrev Al : Type := He.AlD × Bool
def obsG (g : Addr → Option Obj) : Al := (He.obsDG 5 fa fn g, ex (He.frG g (He.asD g 5)))
def Says (K : PySem.W.Frag) : Prop := He.SaysD fa fn K ∧ ex K = true
def hk : PySem.W.Hook where
  α := Al
  obs := fun s => obsG s.heap.get?
  val := fun _ => (He.valD fn, true)
  says := fun _ h => ∃ K : PySem.W.Frag, K.In h ∧ Says K
  of := fun _ _ e => ⟨_, He.frG_in, congrArg Prod.fst e, congrArg Prod.snd e⟩
  keeps := fun _ _ _ ⟨K, hK, c⟩ k => ⟨K, PySem.W.Frag.In.keeps hK k, c⟩
def ob (s : PySem.W.SharedT) : Al := obsG (HandSHeadRun.getT s)
theorem ob_eq (s : PySem.W.SharedT) : ob s = hk.obs s.abs := by
  have e : HandSHeadRun.getT s = s.abs.heap.get? := funext (HandSHeadRun.getT_eq s)
  show obsG (HandSHeadRun.getT s) = obsG s.abs.heap.get?
  rw [e]
def loose0 : List PySem.Str := ["SoundError", "InvalidNumber", "InvalidCheck", "InvalidBits", "is_whole", "is_between", "is_bits", "bits_of", "check_number", "check_bits", "MOST_WIDTH", "Check", "sum_of", "check_check", "shifted", "rest_of", "word", "sealed", "powers_of", "spots_of", "least_of_three", "least_of_four", "longest_of", "longest", "mends", "_law_hash", "_law_random", "_law_cell", "_law_generator", "_law_rest"]
def loose1 : List PySem.Str := ["_law_number", "_law_bits", "_law_drawn", "_law_row", "_law_mends", "_law_right"]
abbrev loose : List PySem.Str := loose0 ++ loose1
theorem run (w : World) : HandSHeadRun.RunEq R (PySem.W.view R.prog [41]) hk ob 8000 loose w := by
  intro os
  kernel_rfl
noncomputable def top_mk {K : PySem.W.Frag} {h : Heap} {mg : Str → Option Value} (X : K.In h) (G : h.Ns mainGlobals mg) (c : Says K) : Top K mg :=
  let p0 := c.1.def_ 0 (d := d_is_whole) rfl
  let p1 := c.1.def_ 1 (d := d_is_between) rfl
  let p2 := c.1.def_ 2 (d := d_is_bits) rfl
  let p3 := c.1.def_ 3 (d := d_bits_of) rfl
  let p4 := c.1.def_ 4 (d := d_check_number) rfl
  let p5 := c.1.def_ 5 (d := d_check_bits) rfl
  let p6 := c.1.def_ 6 (d := d_sum_of) rfl
  let p7 := c.1.def_ 7 (d := d_check_check) rfl
  let p8 := c.1.def_ 8 (d := d_shifted) rfl
  let p9 := c.1.def_ 9 (d := d_rest_of) rfl
  let p10 := c.1.def_ 10 (d := d_word) rfl
  let p11 := c.1.def_ 11 (d := d_sealed) rfl
  let p12 := c.1.def_ 12 (d := d_powers_of) rfl
  let p13 := c.1.def_ 13 (d := d_spots_of) rfl
  let p14 := c.1.def_ 14 (d := d_least_of_three) rfl
  let p15 := c.1.def_ 15 (d := d_least_of_four) rfl
  let p16 := c.1.def_ 16 (d := d_longest_of) rfl
  let p17 := c.1.def_ 17 (d := d_longest) rfl
  let p18 := c.1.def_ 18 (d := d_mends) rfl
  let p19 := c.1.def_ 19 (d := d_law_hash) rfl
  let p20 := c.1.def_ 20 (d := d_law_random) rfl
  let p21 := c.1.def_ 21 (d := d_law_cell) rfl
  let p22 := c.1.def_ 22 (d := d_law_generator) rfl
  let p23 := c.1.def_ 23 (d := d_law_rest) rfl
  let p24 := c.1.def_ 24 (d := d_law_number) rfl
  let p25 := c.1.def_ 25 (d := d_law_bits) rfl
  let p26 := c.1.def_ 26 (d := d_law_drawn) rfl
  let p27 := c.1.def_ 27 (d := d_law_row) rfl
  let p28 := c.1.def_ 28 (d := d_law_mends) rfl
  let p29 := c.1.def_ 29 (d := d_law_right) rfl
  let p30 := c.1.def_ 30 (d := d_law) rfl
  let p31 := c.1.def_ 31 (d := d_Check___init__) rfl
  let q0 := He.int_ok X G (c.1.fact 42 (f := .int "MOST_WIDTH" 16) rfl)
  { C_Check := _, gc_Check := He.glo_ok X G (c.1.fact 43 (f := .glo "Check") rfl), cl_Check := He.cls_ok (c.1.fact 44 (f := .cls "Check") rfl), ic_Check := insB_ok (x := "Check") (He.cls_ok (c.1.fact 44 (f := .cls "Check") rfl)) (List.all_eq_true.mp (Bool.and_eq_true_iff.mp c.2).1 "Check" (by decide +kernel)),
    na_Check_size := He.noat_ok (c.1.fact 45 (f := .noat "Check" "size") rfl),
    na_Check_tail := He.noat_ok (c.1.fact 46 (f := .noat "Check" "tail") rfl),
    f_is_whole := _, fd_is_whole := p0.choose, F_is_whole := p0.choose_spec, b_is_whole := p0.choose_spec.bindsN fun _ _ _ _ _ _ us hl => match us, hl with | [_], _ => rfl, g_is_whole := He.glo_ok X G (c.1.fact 0 (f := .glo "is_whole") rfl),
    f_is_between := _, fd_is_between := p1.choose, F_is_between := p1.choose_spec, b_is_between := p1.choose_spec.bindsN fun _ _ _ _ _ _ us hl => match us, hl with | [_, _, _], _ => rfl, g_is_between := He.glo_ok X G (c.1.fact 1 (f := .glo "is_between") rfl),
    f_is_bits := _, fd_is_bits := p2.choose, F_is_bits := p2.choose_spec, b_is_bits := p2.choose_spec.bindsN fun _ _ _ _ _ _ us hl => match us, hl with | [_], _ => rfl, g_is_bits := He.glo_ok X G (c.1.fact 2 (f := .glo "is_bits") rfl),
    f_bits_of := _, fd_bits_of := p3.choose, F_bits_of := p3.choose_spec, b_bits_of := p3.choose_spec.bindsN fun _ _ _ _ _ _ us hl => match us, hl with | [_, _], _ => rfl, g_bits_of := He.glo_ok X G (c.1.fact 3 (f := .glo "bits_of") rfl),
    f_check_number := _, fd_check_number := p4.choose, F_check_number := p4.choose_spec, b_check_number := p4.choose_spec.bindsN fun _ _ _ _ _ _ us hl => match us, hl with | [_, _, _], _ => rfl, g_check_number := He.glo_ok X G (c.1.fact 4 (f := .glo "check_number") rfl),
    f_check_bits := _, fd_check_bits := p5.choose, F_check_bits := p5.choose_spec, b_check_bits := p5.choose_spec.bindsN fun _ _ _ _ _ _ us hl => match us, hl with | [_], _ => rfl, g_check_bits := He.glo_ok X G (c.1.fact 5 (f := .glo "check_bits") rfl),
    f_sum_of := _, fd_sum_of := p6.choose, F_sum_of := p6.choose_spec, b_sum_of := p6.choose_spec.bindsN fun _ _ _ _ _ _ us hl => match us, hl with | [_], _ => rfl, g_sum_of := He.glo_ok X G (c.1.fact 6 (f := .glo "sum_of") rfl),
    f_check_check := _, fd_check_check := p7.choose, F_check_check := p7.choose_spec, b_check_check := p7.choose_spec.bindsN fun _ _ _ _ _ _ us hl => match us, hl with | [_], _ => rfl, g_check_check := He.glo_ok X G (c.1.fact 7 (f := .glo "check_check") rfl),
    f_shifted := _, fd_shifted := p8.choose, F_shifted := p8.choose_spec, b_shifted := p8.choose_spec.bindsN fun _ _ _ _ _ _ us hl => match us, hl with | [_, _], _ => rfl, g_shifted := He.glo_ok X G (c.1.fact 8 (f := .glo "shifted") rfl),
    f_rest_of := _, fd_rest_of := p9.choose, F_rest_of := p9.choose_spec, b_rest_of := p9.choose_spec.bindsN fun _ _ _ _ _ _ us hl => match us, hl with | [_, _], _ => rfl, g_rest_of := He.glo_ok X G (c.1.fact 9 (f := .glo "rest_of") rfl),
    f_word := _, fd_word := p10.choose, F_word := p10.choose_spec, b_word := p10.choose_spec.bindsN fun _ _ _ _ _ _ us hl => match us, hl with | [_, _], _ => rfl, g_word := He.glo_ok X G (c.1.fact 10 (f := .glo "word") rfl),
    f_sealed := _, fd_sealed := p11.choose, F_sealed := p11.choose_spec, b_sealed := p11.choose_spec.bindsN fun _ _ _ _ _ _ us hl => match us, hl with | [_, _], _ => rfl, g_sealed := He.glo_ok X G (c.1.fact 11 (f := .glo "sealed") rfl),
    f_powers_of := _, fd_powers_of := p12.choose, F_powers_of := p12.choose_spec, b_powers_of := p12.choose_spec.bindsN fun _ _ _ _ _ _ us hl => match us, hl with | [_], _ => rfl, g_powers_of := He.glo_ok X G (c.1.fact 12 (f := .glo "powers_of") rfl),
    f_spots_of := _, fd_spots_of := p13.choose, F_spots_of := p13.choose_spec, b_spots_of := p13.choose_spec.bindsN fun _ _ _ _ _ _ us hl => match us, hl with | [_], _ => rfl, g_spots_of := He.glo_ok X G (c.1.fact 13 (f := .glo "spots_of") rfl),
    f_least_of_three := _, fd_least_of_three := p14.choose, F_least_of_three := p14.choose_spec, b_least_of_three := p14.choose_spec.bindsN fun _ _ _ _ _ _ us hl => match us, hl with | [_, _], _ => rfl, g_least_of_three := He.glo_ok X G (c.1.fact 14 (f := .glo "least_of_three") rfl),
    f_least_of_four := _, fd_least_of_four := p15.choose, F_least_of_four := p15.choose_spec, b_least_of_four := p15.choose_spec.bindsN fun _ _ _ _ _ _ us hl => match us, hl with | [_, _], _ => rfl, g_least_of_four := He.glo_ok X G (c.1.fact 15 (f := .glo "least_of_four") rfl),
    f_longest_of := _, fd_longest_of := p16.choose, F_longest_of := p16.choose_spec, b_longest_of := p16.choose_spec.bindsN fun _ _ _ _ _ _ us hl => match us, hl with | [_, _], _ => rfl, g_longest_of := He.glo_ok X G (c.1.fact 16 (f := .glo "longest_of") rfl),
    f_longest := _, fd_longest := p17.choose, F_longest := p17.choose_spec, b_longest := p17.choose_spec.bindsN fun _ _ _ _ _ _ us hl => match us, hl with | [_, _], _ => rfl, g_longest := He.glo_ok X G (c.1.fact 17 (f := .glo "longest") rfl),
    f_mends := _, fd_mends := p18.choose, F_mends := p18.choose_spec, b_mends := p18.choose_spec.bindsN fun _ _ _ _ _ _ us hl => match us, hl with | [_, _, _], _ => rfl, g_mends := He.glo_ok X G (c.1.fact 18 (f := .glo "mends") rfl),
    f_law_hash := _, fd_law_hash := p19.choose, F_law_hash := p19.choose_spec, b_law_hash := p19.choose_spec.bindsN fun _ _ _ _ _ _ us hl => match us, hl with | [_, _], _ => rfl, g_law_hash := He.glo_ok X G (c.1.fact 19 (f := .glo "_law_hash") rfl),
    f_law_random := _, fd_law_random := p20.choose, F_law_random := p20.choose_spec, b_law_random := p20.choose_spec.bindsN fun _ _ _ _ _ _ us hl => match us, hl with | [_, _], _ => rfl, g_law_random := He.glo_ok X G (c.1.fact 20 (f := .glo "_law_random") rfl),
    f_law_cell := _, fd_law_cell := p21.choose, F_law_cell := p21.choose_spec, b_law_cell := p21.choose_spec.bindsN fun _ _ _ _ _ _ us hl => match us, hl with | [_, _], _ => rfl, g_law_cell := He.glo_ok X G (c.1.fact 21 (f := .glo "_law_cell") rfl),
    f_law_generator := _, fd_law_generator := p22.choose, F_law_generator := p22.choose_spec, b_law_generator := p22.choose_spec.bindsN fun _ _ _ _ _ _ us hl => match us, hl with | [_, _], _ => rfl, g_law_generator := He.glo_ok X G (c.1.fact 22 (f := .glo "_law_generator") rfl),
    f_law_rest := _, fd_law_rest := p23.choose, F_law_rest := p23.choose_spec, b_law_rest := p23.choose_spec.bindsN fun _ _ _ _ _ _ us hl => match us, hl with | [_, _], _ => rfl, g_law_rest := He.glo_ok X G (c.1.fact 23 (f := .glo "_law_rest") rfl),
    f_law_number := _, fd_law_number := p24.choose, F_law_number := p24.choose_spec, b_law_number := p24.choose_spec.bindsN fun _ _ _ _ _ _ us hl => match us, hl with | [_], _ => rfl, g_law_number := He.glo_ok X G (c.1.fact 24 (f := .glo "_law_number") rfl),
    f_law_bits := _, fd_law_bits := p25.choose, F_law_bits := p25.choose_spec, b_law_bits := p25.choose_spec.bindsN fun _ _ _ _ _ _ us hl => match us, hl with | [_, _], _ => rfl, g_law_bits := He.glo_ok X G (c.1.fact 25 (f := .glo "_law_bits") rfl),
    f_law_drawn := _, fd_law_drawn := p26.choose, F_law_drawn := p26.choose_spec, b_law_drawn := p26.choose_spec.bindsN fun _ _ _ _ _ _ us hl => match us, hl with | [_, _], _ => rfl, g_law_drawn := He.glo_ok X G (c.1.fact 26 (f := .glo "_law_drawn") rfl),
    f_law_row := _, fd_law_row := p27.choose, F_law_row := p27.choose_spec, b_law_row := p27.choose_spec.bindsN fun _ _ _ _ _ _ us hl => match us, hl with | [_, _], _ => rfl, g_law_row := He.glo_ok X G (c.1.fact 27 (f := .glo "_law_row") rfl),
    f_law_mends := _, fd_law_mends := p28.choose, F_law_mends := p28.choose_spec, b_law_mends := p28.choose_spec.bindsN fun _ _ _ _ _ _ us hl => match us, hl with | [_, _, _], _ => rfl, g_law_mends := He.glo_ok X G (c.1.fact 28 (f := .glo "_law_mends") rfl),
    f_law_right := _, fd_law_right := p29.choose, F_law_right := p29.choose_spec, b_law_right := p29.choose_spec.bindsN fun _ _ _ _ _ _ us hl => match us, hl with | [_, _, _], _ => rfl, g_law_right := He.glo_ok X G (c.1.fact 29 (f := .glo "_law_right") rfl),
    f_law := _, fd_law := p30.choose, F_law := p30.choose_spec, b_law := p30.choose_spec.bindsN fun _ _ _ _ _ _ us hl => match us, hl with | [_], _ => rfl, g_law := He.glo_ok X G (c.1.fact 30 (f := .glo "law") rfl),
    f_Check___init__ := _, fd_Check___init__ := p31.choose, F_Check___init__ := p31.choose_spec, b_Check___init__ := p31.choose_spec.bindsN fun _ _ _ _ _ _ us hl => match us, hl with | [_, _, _], _ => rfl, me_Check___init__ := He.meth_ok (c.1.fact 48 (f := .meth "Check" "__init__") rfl), mk_Check := He.mkr_ok (c.1.fact 47 (f := .mkr "Check") rfl),
    n_len := He.free_ok X G (c.1.fact 31 (f := .free "len") rfl),
    n_sum := He.free_ok X G (c.1.fact 32 (f := .free "sum") rfl),
    n_max := He.free_ok X G (c.1.fact 33 (f := .free "max") rfl),
    n_min := He.free_ok X G (c.1.fact 34 (f := .free "min") rfl),
    n_int := He.free_ok X G (c.1.fact 35 (f := .free "int") rfl),
    n_bool := He.free_ok X G (c.1.fact 36 (f := .free "bool") rfl),
    n_str := He.free_ok X G (c.1.fact 37 (f := .free "str") rfl),
    n_range := He.free_ok X G (c.1.fact 38 (f := .free "range") rfl),
    n_isinstance := He.free_ok X G (c.1.fact 39 (f := .free "isinstance") rfl),
    n_enumerate := He.free_ok X G (c.1.fact 40 (f := .free "enumerate") rfl),
    n_sorted := He.free_ok X G (c.1.fact 41 (f := .free "sorted") rfl),
    t_MOST_WIDTH := q0.choose, m_MOST_WIDTH := q0.choose_spec }
end My

namespace My
open PySem PySem.Spec PyProof.Rows L2 Pre
section
variable {P : Program} {w : World} {K : PySem.W.Frag} {mg : Str → Option Value} {base : Heap}
/-! ### is_whole, is_between, of whole numbers -/
def sp_is_whole : Sp := fun vs H Q _ => ∃ i : Int, vs = [.int i] ∧ Q (.bl true) H
theorem G_is_whole (T : Top K mg) : FnOk P w K mg base CX0 1 T.f_is_whole T.fd_is_whole ["value"] sp_is_whole := by
  refine T.F_is_whole.ok sc_is_whole (fun vs H Q E h => by obtain ⟨i, rfl, _⟩ := h; rfl) (fun cdv A outer s H vs Q E hr h => ?_)
  obtain ⟨i, rfl, q⟩ := h
  refine ⟨_, PSs.nox (pss_one (ps_ret (pe_and (pe_callB (k_isi K rfl) (by rfl) T.n_isinstance (by decide +kernel) (pa_cons (pv 0) (pa_cons (pe_bltn (v := .ty "int") (by rfl) T.n_int (by decide +kernel) rfl) pa_nil))) (pe_one (pe_not (pe_callB (k_isi K rfl) (by rfl) T.n_isinstance (by decide +kernel) (pa_cons (pv 0) (pa_cons (pe_bltn (v := .ty "bool") (by rfl) T.n_bool (by decide +kernel) rfl) pa_nil)))))))), ?_⟩
  refine ⟨_, rfl, _, _, _, _, true, rfl, .ty _, .base (.int i), kit_ty (by decide +kernel), true, rfl, iteT ?_⟩
  exact ⟨_, rfl, _, _, _, _, false, rfl, .ty _, .base (.int i), kit_ty (by decide +kernel), false, rfl, q⟩
/-- value a whole number, low one, high None or one -/
def sp_is_between : Sp := fun vs H Q _ => ∃ (i lo : Int) (hi : Option Int), vs = [.int i, .int lo, (match hi with | some j => .int j | none => .non)] ∧ Q (.bl (decide (lo ≤ i ∧ ∀ j, hi = some j → i ≤ j))) H
theorem G_is_between (T : Top K mg) : FnOk P w K mg base CX0 2 T.f_is_between T.fd_is_between ["value", "low", "high"] sp_is_between := by
  refine T.F_is_between.ok sc_is_between (fun vs H Q E h => by obtain ⟨i, lo, hi, rfl, _⟩ := h; rfl) (fun cdv A outer s H vs Q E hr h => ?_)
  obtain ⟨i, lo, hi, rfl, q⟩ := h
  refine ⟨_, PSs.nox (pss_one (ps_ret (pe_and (pe_call (G_is_whole T) (hr.mono (by decide)) (by rfl) T.g_is_whole T.F_is_whole.kp T.b_is_whole .nil pass0 (pa_cons (pv 0) pa_nil)) (pe_and (pe_cmpR op_le (pv 1) (pv 0) (nomark _)) (pe_one (pe_or (pe_cmpR op_isN (pv 2) pe_non (nomark _)) (pe_one (pe_cmpR op_le (pv 0) (pv 2) (nomark _))))))))), ?_⟩
  refine ⟨_, rfl, i, rfl, true, rfl, iteT ?_⟩
  refine ⟨_, rfl, _, rfl, _, _, rfl, rfl, _, rfl, ite2 (fun e => ?_) (fun e => ?_)⟩
  · have e1 : lo ≤ i := of_decide_eq_true e
    cases hi with
    | none =>
      refine ⟨_, rfl, rfl, _, rfl, iteT ?_⟩
      rw [decide_eq_true ⟨e1, fun j h => nomatch h⟩] at q
      exact q
    | some j =>
      refine ⟨_, rfl, rfl, _, rfl, iteF ⟨_, rfl, _, rfl, _, _, rfl, rfl, ?_⟩⟩
      have e2 : decide (lo ≤ i ∧ ∀ j', some j = some j' → i ≤ j') = decide (i ≤ j) := by
        by_cases h : i ≤ j
        · rw [decide_eq_true h, decide_eq_true]
          exact ⟨e1, fun j' e => by cases e; exact h⟩
        · rw [decide_eq_false h, decide_eq_false]
          exact fun z => h (z.2 j rfl)
      rw [e2] at q
      exact q
  · have e1 : ¬ lo ≤ i := fun h => e (decide_eq_true h)
    rw [decide_eq_false fun z => e1 z.1] at q
    exact q
end
end My

set_option exponentiation.threshold 100000
namespace My
open PySem PySem.Spec PyProof.Rows L2 Pre
section
variable {P : Program} {w : World} {K : PySem.W.Frag} {mg : Str → Option Value} {base : Heap}
/-! ### the law's draws -/
/-- a generator: its count is at most n -/
def GenAt (H : Hp) (g : Addr) (n : Nat) : Prop := ∃ x y z : Int, H g = some (.lst [.int x, .int y, .int z]) ∧ 0 ≤ z ∧ z ≤ (n : Int)
/-- all but one thing stand as they stood -/
def But (g : Addr) (H H' : Hp) : Prop := ∀ b o, b ≠ g → H b = some o → H' b = some o
theorem But.refl {g : Addr} {H : Hp} : But g H H := fun _ _ _ h => h
theorem But.trans {g : Addr} {H H1 H2 : Hp} (a : But g H H1) (b : But g H1 H2) : But g H H2 := fun c o n h => b c o n (a c o n h)
theorem But.same {g : Addr} {H H1 H2 : Hp} (a : But g H H1) (b : Same H1 H2) : But g H H2 := fun c o n h => b c o (a c o n h)
theorem But.of {g : Addr} {H H1 : Hp} (b : Same H H1) : But g H H1 := fun c o _ h => b c o h
theorem But.upd {g : Addr} {H H1 : Hp} {o : HO} (a : But g H H1) : But g H (upd H1 g o) := fun c u n h => by
  rw [upd_ne n]
  exact a c u n h
theorem But.free {g : Addr} {H H1 : Hp} (a : But g H H1) {p : Addr} (n : p ≠ g) (h : H1 p = none) : H p = none := by
  cases e : H p with
  | none => rfl
  | some o => rw [a p o n e] at h; cases h
/-- what is changed was not there at first -/
theorem But.fresh {g : Addr} {H H1 H2 : Hp} (s : Same H H1) (n : H g = none) (b : But g H1 H2) : Same H H2 := fun c o h => b c o (ne_of_none h n) (s c o h)
theorem GenAt.mono {H : Hp} {g : Addr} {n m : Nat} (h : GenAt H g n) (l : n ≤ m) : GenAt H g m := by
  obtain ⟨x, y, z, a, b, c⟩ := h
  exact ⟨x, y, z, a, b, by omega⟩
theorem GenAt.same {H H' : Hp} {g : Addr} {n : Nat} (h : GenAt H g n) (s : Same H H') : GenAt H' g n := by
  obtain ⟨x, y, z, a, b⟩ := h
  exact ⟨x, y, z, s _ _ a, b⟩
theorem GenAt.ne {H : Hp} {g : Addr} {n : Nat} {p : Addr} (h : GenAt H g n) (np : H p = none) : p ≠ g := by
  obtain ⟨x, y, z, a, _⟩ := h
  exact (ne_of_none a np).symm
theorem small_2900 {b : Int} (h : b ≤ 2 ^ 60) : b < 2 ^ 2900 := by omega
theorem pow_pos' (w : Nat) : (0 : Int) < 2 ^ w := Int.pow_pos (by decide)
theorem pow2_le {k m : Nat} (h : k ≤ m) : (2 : Int) ^ k ≤ 2 ^ m := by
  have e := Nat.pow_le_pow_right (show 0 < 2 by decide) h
  have e2 : ((2 ^ k : Nat) : Int) ≤ ((2 ^ m : Nat) : Int) := Int.ofNat_le.mpr e
  rw [Int.natCast_pow, Int.natCast_pow] at e2
  exact e2
def sp_law_cell (K : PySem.W.Frag) : Sp := fun vs H Q _ => ∃ (a : Addr) (ns : List Int) (i : Nat), vs = [.ref a, .int i] ∧ SqL K H a (ns.map V.int) ∧ ∀ (n : Int) H', Same H H' → Q (.int n) H'
theorem G_law_cell (T : Top K mg) : FnOk P w K mg base CX0 1 T.f_law_cell T.fd_law_cell ["_law_script", "_law_index"] (sp_law_cell K) := by
  refine T.F_law_cell.ok sc_law_cell (fun vs H Q E h => by obtain ⟨a, ns, i, rfl, _⟩ := h; rfl) (fun cdv A outer s H vs Q E hr h => ?_)
  obtain ⟨a, ns, i, rfl, hS, q⟩ := h
  refine ⟨_, PSs.nox (pss_cons (ps_if (pt_cmpR op_lt (pv 1) (pe_callB (k_len K rfl) (by rfl) T.n_len (by decide +kernel) (pa_cons (pv 0) pa_nil)) (nomark _))
    (pss_one (ps_ret (pe_ix (k_ixL K rfl) (pv 0) (pv 1) (fun _ _ => rfl))))
    pss_nil)
  (pss_one (ps_ret (pe_op op_mod (pe_callB (k_sum K rfl rfl) (by rfl) T.n_sum (by decide +kernel) (pa_cons (pe_slice (k_slL K rfl) (pv 0) po_none (po_some pe_int)) pa_nil)) pe_int)))), ?_⟩
  refine ⟨_, rfl, _, rfl, a, _, rfl, .inl hS, _, _, rfl, rfl, _, rfl, ite2 (fun e => ?_) (fun e => ?_)⟩
  · have e1 : (i : Int) < (((ns.map V.int).length : Nat) : Int) := of_decide_eq_true e
    rw [List.length_map] at e1
    have hi : i < ns.length := by omega
    refine ⟨_, rfl, _, rfl, a, _, _, .int ns[i], rfl, rfl, hS, atI_nat (by rw [List.getElem?_map, List.getElem?_eq_getElem hi]; rfl), ?_⟩
    exact q _ _ (Same.refl _)
  · refine ⟨_, rfl, _, rfl, a, _, rfl, hS, fun p np => ?_⟩
    have ec : ∃ ms : List Int, cutV (ns.map V.int) none (some 1) = ms.map V.int := by
      unfold cutV
      exact ⟨(ns.drop (HT.sIx (ns.map V.int).length 0 none)).take (HT.sIx (ns.map V.int).length (ns.map V.int).length (some 1) - HT.sIx (ns.map V.int).length 0 none), by rw [List.map_take, List.map_drop]⟩
    obtain ⟨ms, em⟩ := ec
    refine ⟨p, ms, rfl, .inl (.inl (by rw [upd_same, em])), _, _, rfl, rfl, (by show (0 : Int) < 1000003; decide), ?_⟩
    exact q _ _ (same_upd np)
theorem cmul_mod (x m j : Int) (h0 : 0 < m) (h1 : m ≤ 2 ^ 60) : CMul (x % m) j := by
  have a := Int.emod_nonneg x (show m ≠ 0 by omega)
  have b := Int.emod_lt_of_pos x h0
  exact .inl ⟨by omega, by omega⟩
def sp_law_hash : Sp := fun vs H Q _ => ∃ i j : Int, vs = [.int i, .int j] ∧ 0 ≤ j ∧ j < 2 ^ 60 ∧ ∀ n : Int, Q (.int n) H
theorem G_law_hash (T : Top K mg) : FnOk P w K mg base CX0 1 T.f_law_hash T.fd_law_hash ["_law_seed", "_law_index"] sp_law_hash := by
  refine T.F_law_hash.ok sc_law_hash (fun vs H Q E h => by obtain ⟨i, j, rfl, _⟩ := h; rfl) (fun cdv A outer s H vs Q E hr h => ?_)
  obtain ⟨i, j, rfl, h0, h1, q⟩ := h
  refine ⟨_, PSs.nox (pss_cons (ps_set (i := 2) sc_law_hash.nd rfl (by first | exact Or.inl rfl | exact Or.inr rfl) (pe_op op_mod (pe_callTy call_int1 (by rfl) T.n_int (by decide +kernel) (pa_cons (pe_op op_add (pe_op op_add (pe_op op_add (pe_op op_mul (pv 0) pe_int) (pe_op op_mul (pe_op op_mul pe_int (pv 1)) (pv 1))) (pe_op op_mul pe_int (pv 1))) pe_int) pa_nil)) pe_int))
  (pss_cons (ps_set (i := 2) sc_law_hash.nd rfl (by first | exact Or.inl rfl | exact Or.inr rfl) (pe_op op_mod (pe_callTy call_int1 (by rfl) T.n_int (by decide +kernel) (pa_cons (pe_op op_add (pe_op op_add (pe_op op_mul (pv 2) (pv 2)) (pe_op op_mul pe_int (pv 1))) pe_int) pa_nil)) pe_int))
  (pss_one (ps_ret (pe_op op_mod (pe_callTy call_int1 (by rfl) T.n_int (by decide +kernel) (pa_cons (pe_op op_mul (pv 2) pe_int) pa_nil)) pe_int))))), ?_⟩
  refine ⟨_, rfl, _, _, rfl, rfl, .inr ⟨by decide, by decide⟩, _, rfl, _, _, rfl, rfl, .inl ⟨by decide, by decide⟩, _, rfl, _, _, rfl, rfl, .inr ⟨by omega, by omega⟩, _, _, rfl, rfl, _, rfl, _, _, rfl, rfl, .inl ⟨by decide, by decide⟩, _, _, rfl, rfl, _, _, rfl, rfl,
    .inl ⟨_, rfl, _, _, rfl, rfl, (by show (0 : Int) < _; decide), ?_⟩⟩
  refine ⟨_, rfl, _, rfl, _, _, rfl, rfl, cmul_mod _ _ _ (by decide) (by decide), _, rfl, _, _, rfl, rfl, .inl ⟨by decide, by decide⟩, _, _, rfl, rfl, _, _, rfl, rfl, .inl ⟨_, rfl, _, _, rfl, rfl, (by show (0 : Int) < _; decide), ?_⟩⟩
  refine ⟨_, rfl, _, _, rfl, rfl, .inr ⟨by decide, by decide⟩, .inl ⟨_, rfl, _, _, rfl, rfl, (by show (0 : Int) < _; decide), ?_⟩⟩
  exact q _

def sp_law_generator (K : PySem.W.Frag) : Sp := fun vs H Q _ => ∃ (a : Addr) (ns : List Int) (i : Nat), vs = [.ref a, .int i] ∧ SqL K H a (ns.map V.int) ∧ ∀ H' g, Same H H' → H g = none → GenAt H' g (1000 * i) → Q (.ref g) H'
theorem G_law_generator (T : Top K mg) : FnOk P w K mg base CX0 2 T.f_law_generator T.fd_law_generator ["_law_script", "_law_index"] (sp_law_generator K) := by
  refine T.F_law_generator.ok sc_law_generator (fun vs H Q E h => by obtain ⟨a, ns, i, rfl, _⟩ := h; rfl) (fun cdv A outer s H vs Q E hr h => ?_)
  obtain ⟨a, ns, i, rfl, hS, q⟩ := h
  refine ⟨_, PSs.nox (pss_cons (ps_set (i := 2) sc_law_generator.nd rfl (by first | exact Or.inl rfl | exact Or.inr rfl) (pe_call (G_law_cell T) (hr.mono (by decide)) (by rfl) T.g_law_cell T.F_law_cell.kp T.b_law_cell .nil pass0 (pa_cons (pv 0) (pa_cons (pv 1) pa_nil))))
  (pss_one (ps_ret (pe_lst (pa_cons (pe_op op_mod (pe_callTy call_int1 (by rfl) T.n_int (by decide +kernel) (pa_cons (pe_callB (call_max2 rfl) (by rfl) T.n_max (by decide +kernel) (pa_cons (pe_op op_sub (pv 2) (pe_op op_powW pe_int pe_int)) (pa_cons pe_int pa_nil))) pa_nil)) (pe_op op_powW (pe_op op_powW pe_int pe_int) pe_int)) (pa_cons (pe_op op_mod (pe_callTy call_int1 (by rfl) T.n_int (by decide +kernel) (pa_cons (pv 2) pa_nil)) pe_int) (pa_cons (pe_op op_mul pe_int (pv 1)) pa_nil))))))), ?_⟩
  refine ⟨_, rfl, _, rfl, a, ns, i, rfl, hS, fun n H1 s1 => ?_⟩
  refine ⟨_, rfl, _, _, rfl, rfl, ⟨by decide, by decide +kernel⟩, _, _, rfl, rfl, _, _, rfl, .inl ⟨_, rfl, _, _, rfl, rfl, ⟨by decide, by decide +kernel⟩, _, _, rfl, rfl, ⟨by decide, by decide +kernel⟩, _, _, rfl, rfl, (by show (0 : Int) < _; decide +kernel), ?_⟩⟩
  refine ⟨_, rfl, .inl ⟨_, rfl, _, _, rfl, rfl, (by show (0 : Int) < _; decide), ?_⟩⟩
  refine ⟨_, rfl, _, _, rfl, rfl, .inl ⟨by decide, by decide⟩, (show 3 ≤ sizeLine by decide), fun g ng => ?_⟩
  exact q _ g (s1.trans (same_upd ng)) (s1.free ng) ⟨_, _, _, upd_same, by omega, by omega⟩
def sp_law_random : Sp := fun vs H Q _ => ∃ (g : Addr) (b : Int) (n : Nat), vs = [.ref g, .int b] ∧ GenAt H g n ∧ n ≤ 10 ^ 12 ∧ 0 < b ∧ b < 2 ^ 2900 ∧ ∀ (d : Int) H', 0 ≤ d → d < b → GenAt H' g (n + 100) → But g H H' → Q (.int d) H'
theorem G_law_random (T : Top K mg) : FnOk P w K mg base CX0 2 T.f_law_random T.fd_law_random ["_law_generator_here", "_law_bound"] sp_law_random := by
  refine T.F_law_random.ok sc_law_random (fun vs H Q E h => by obtain ⟨g, b, n, rfl, _⟩ := h; rfl) (fun cdv A outer s H vs Q E hr h => ?_)
  obtain ⟨g, b, n, rfl, ⟨x, y, z, hg, z0, z1⟩, hn, b0, b1, q⟩ := h
  refine ⟨_, PSs.nox (pss_cons (ps_if (pt_cmpR op_gt (pe_ix (k_ixL K rfl) (pv 0) pe_int (fun _ _ => rfl)) pe_int (nomark _))
    (pss_cons (ps_set (i := 2) sc_law_random.nd rfl (by first | exact Or.inl rfl | exact Or.inr rfl) (pe_op op_mod (pe_callTy call_int1 (by rfl) T.n_int (by decide +kernel) (pa_cons (pe_ix (k_ixL K rfl) (pv 0) pe_int (fun _ _ => rfl)) pa_nil)) (pv 1)))
  (pss_cons (ps_asg (pe_op op_fdivW (pe_ix (k_ixL K rfl) (pv 0) pe_int (fun _ _ => rfl)) (pv 1)) (pg_sub (pv 0) pe_int set_list))
  (pss_one (ps_ret (pv 2)))))
    pss_nil)
  (pss_cons (ps_set (i := 2) sc_law_random.nd rfl (by first | exact Or.inl rfl | exact Or.inr rfl) pe_int)
  (pss_cons (ps_for PassesOwn.never rfl (pi_range1 (by rfl) T.n_range (pa_cons (pe_op op_add pe_int (pe_op op_fdivW (pe_bits (pv 1)) pe_int)) pa_nil)) (pg_name (i := 3) sc_law_random.nd rfl (by first | exact Or.inl rfl | exact Or.inr rfl))
    (pss_cons (ps_asg (pe_op op_add (pe_ix (k_ixL K rfl) (pv 0) pe_int (fun _ _ => rfl)) pe_int) (pg_sub (pv 0) pe_int set_list))
  (pss_one (ps_set (i := 2) sc_law_random.nd rfl (by first | exact Or.inl rfl | exact Or.inr rfl) (pe_op op_add (pe_op op_mul (pv 2) pe_int) (pe_call (G_law_hash T) (hr.mono (by decide)) (by rfl) T.g_law_hash T.F_law_hash.kp T.b_law_hash .nil pass0 (pa_cons (pe_ix (k_ixL K rfl) (pv 0) pe_int (fun _ _ => rfl)) (pa_cons (pe_ix (k_ixL K rfl) (pv 0) pe_int (fun _ _ => rfl)) pa_nil))))))))
  (pss_one (ps_ret (pe_op op_mod (pe_callTy call_int1 (by rfl) T.n_int (by decide +kernel) (pa_cons (pv 2) pa_nil)) (pv 1))))))), ?_⟩
  have a0 : ∀ x y z : Int, atI [V.int x, .int y, .int z] 0 = some (.int x) := fun _ _ _ => rfl
  have a1 : ∀ x y z : Int, atI [V.int x, .int y, .int z] 1 = some (.int y) := fun _ _ _ => rfl
  have a2 : ∀ x y z : Int, atI [V.int x, .int y, .int z] 2 = some (.int z) := fun _ _ _ => rfl
  have hS : SqL K H g [.int x, .int y, .int z] := .inl (.inl hg)
  have nb : b.natAbs < 2 ^ 2900 := by
    have e : ((b.natAbs : Nat) : Int) < ((2 ^ 2900 : Nat) : Int) := by
      rw [Int.natCast_pow]
      omega
    exact Int.ofNat_lt.mp e
  refine ⟨_, rfl, g, _, 0, _, rfl, rfl, hS, a0 x y z, _, _, rfl, rfl, _, rfl, ite2 (fun e => ?_) (fun e => ?_)⟩
  · refine ⟨_, rfl, g, _, 0, _, rfl, rfl, hS, a0 x y z, .inl ⟨_, rfl, _, rfl, _, _, rfl, rfl, b0, ?_⟩⟩
    refine ⟨_, rfl, g, _, 0, _, rfl, rfl, hS, a0 x y z, _, rfl, _, _, rfl, rfl, wide_div b0 nb (by decide) (by decide), _, rfl, g, _, 0, 0, rfl, rfl, hg, rfl, _, rfl, ?_⟩
    exact q _ _ (Int.emod_nonneg _ (by omega)) (Int.emod_lt_of_pos _ b0) ⟨_, _, _, upd_same, z0, by omega⟩ (But.upd But.refl)
  · have hb : Builtin.Int.intBits b ≤ 2900 := PyProof.Rows.intBits_le nb
    have hq0 : (0 : Int) ≤ ((Builtin.Int.intBits b : Nat) : Int) / 30 := Int.ediv_nonneg (Int.natCast_nonneg _) (by decide)
    have hq1 : ((Builtin.Int.intBits b : Nat) : Int) / 30 ≤ 97 := by omega
    refine ⟨_, rfl, _, rfl, _, _, rfl, rfl, ⟨by decide, by decide +kernel⟩, _, _, rfl, rfl, _, rfl, by omega, by omega, ?_⟩
    refine for_range (lo := 0) (n := (1 + ((Builtin.Int.intBits b : Nat) : Int) / 30).toNat) (fun i σ H1 => ∃ (d z' : Int) (v : Option V), σ = [some (.ref g), some (.int b), some (.int d), v] ∧ H1 g = some (.lst [.int x, .int y, .int z']) ∧ 0 ≤ z' ∧ z' ≤ (n : Int) + (i : Int) ∧ But g H H1)
      ⟨0, z, none, rfl, hg, z0, by omega, But.refl⟩ ?_ ?_
    · rintro i σ H1 hi ⟨d, z', v, rfl, hg1, y0, y1, b1⟩
      have hS1 : SqL K H1 g [.int x, .int y, .int z'] := .inl (.inl hg1)
      refine ⟨_, rfl, g, _, 2, _, rfl, rfl, hS1, a2 x y z', _, _, rfl, rfl, _, rfl, g, _, 2, 2, rfl, rfl, hg1, rfl, ?_⟩
      have hS2 : SqL K (upd H1 g (.lst [.int x, .int y, .int (z' + 1)])) g [.int x, .int y, .int (z' + 1)] := .inl (.inl upd_same)
      refine ⟨_, rfl, _, _, rfl, rfl, .inr ⟨by decide, by decide⟩, _, rfl, g, _, 1, _, rfl, rfl, hS2, a1 _ _ _, _, rfl, g, _, 2, _, rfl, rfl, hS2, a2 _ _ _, _, _, rfl, by omega, by omega, fun r => ?_⟩
      exact ⟨_, _, rfl, rfl, _, z' + 1, _, rfl, upd_same, by omega, by omega, But.upd b1⟩
    · rintro σ H1 ⟨d, z', v, rfl, hg1, y0, y1, b1⟩
      refine ⟨_, rfl, .inl ⟨_, rfl, _, rfl, _, _, rfl, rfl, b0, ?_⟩⟩
      exact q _ _ (Int.emod_nonneg _ (by omega)) (Int.emod_lt_of_pos _ b0) ⟨_, _, _, hg1, y0, by omega⟩ b1
/-- a comprehension over a range that draws whole numbers -/
theorem lc_drawR {lo : Int} {n : Nat} {j : Nat} {te : TE} {vs : List Nat} {σ : L2.St} {H1 : Hp} {D : Addr} {Qd : Hp → Prop} (g : Addr) (m step : Nat) (P : Int → Prop) (nD : H1 D = none) (hG : GenAt H1 g m) (hz : n < sizeLine)
    (hw : ∀ x, wipe ((wipe σ vs).set j (some x)) vs = wipe σ vs)
    (hs : ∀ (i : Nat) (H' : Hp), i < n → But g H1 H' → GenAt H' g (m + step * i) → ∀ Qt : V → Hp → Prop, (∀ (y : Int) H'', P y → But g H' H'' → GenAt H'' g (m + step * (i + 1)) → Qt (.int y) H'') → te ((wipe σ vs).set j (some (.int (lo + (i : Int))))) H' Qt)
    (hd : ∀ H' (ys : List Int), But g H1 H' → GenAt H' g (m + step * n) → H' D = some (.lst (ys.map V.int)) → ys.length = n → (∀ y ∈ ys, P y) → Qd H') :
    ∃ W : Nat → Nat → Hp → Prop, (∃ m, W 0 m (upd H1 D (.lst []))) ∧ ∀ i m H, W i m H →
      ((Itr lo n).stop i H ∧ Qd H) ∨ ((Itr lo n).go i H ∧ ∃ Nx : Hp → Prop, (∀ H', Nx H' → ∃ m', m' < m ∧ W (i + 1) m' H') ∧ ∀ x H', (Itr lo n).yld i H x H' → gName j x (wipe σ vs) H' fun σ2 H2 => wipe σ2 vs = wipe σ vs ∧ tYes σ2 H2 fun b H3 =>
        if b = true then te σ2 H3 fun y H4 => ∃ acc, H4 D = some (.lst acc) ∧ acc.length < sizeLine ∧ Nx (upd H4 D (.lst (acc ++ [y]))) else Nx H3) := by
  have nDg : D ≠ g := hG.ne nD
  refine lc_range (lo := lo) (n := n) (fun i H => ∃ ys : List Int, But g H1 H ∧ GenAt H g (m + step * i) ∧ H D = some (.lst (ys.map V.int)) ∧ ys.length = i ∧ ∀ y ∈ ys, P y)
    ⟨[], But.of (same_upd nD), hG.same (same_upd nD), upd_same, rfl, (fun _ h => nomatch h)⟩ ?_ ?_
  · rintro i H hi ⟨ys, b, hg, hD, hl, hP⟩
    refine ⟨hw _, ?_⟩
    unfold tYes
    dsimp only
    rw [if_pos (show true = true from rfl)]
    refine hs i H hi b hg _ fun y H2 py b2 hg2 => ?_
    refine ⟨_, b2 _ _ nDg hD, by rw [List.length_map]; omega, ys ++ [y], ?_, ?_, ?_, ?_, ?_⟩
    · intro c o nc hc
      rw [upd_ne (ne_of_none hc nD)]
      exact b2 _ _ nc (b _ _ nc hc)
    · obtain ⟨x1, x2, x3, e1, e2⟩ := hg2
      exact ⟨x1, x2, x3, by rw [upd_ne nDg.symm]; exact e1, e2⟩
    · rw [upd_same, List.map_append]
      rfl
    · rw [List.length_append, hl]
      rfl
    · intro z hz
      rcases List.mem_append.mp hz with hz | hz
      · exact hP z hz
      · rw [List.mem_singleton.mp hz]
        exact py
  · rintro H ⟨ys, b, hg, hD, hl, hP⟩
    exact hd H ys b hg hD hl hP
end
end My

namespace My
open PySem PySem.Spec PyProof.Rows L2 Pre
/-- a comprehension over a list that makes new things: R tells what is known of the i-th -/
theorem lc_relL {K : PySem.W.Frag} {a : Addr} {xs : List V} {j : Nat} {te : TE} {vs : List Nat} {σ : L2.St} {H1 : Hp} {D : Addr} {Qd : Hp → Prop} (R : Nat → V → Hp → Prop) (nD : H1 D = none) (hS : SqL K H1 a xs) (hz : xs.length < sizeLine)
    (mono : ∀ (i : Nat) (y : V) (H H' : Hp), Pre.Off D H H' → R i y H → R i y H') (hw : ∀ x, wipe ((wipe σ vs).set j (some x)) vs = wipe σ vs)
    (hs : ∀ (i : Nat) (x : V) (H' : Hp) (zs : List V), xs[i]? = some x → Same H1 H' → H' D = some (.lst zs) → ∀ Qt : V → Hp → Prop, (∀ y H'', Same H' H'' → R i y H'' → Qt y H'') → te ((wipe σ vs).set j (some x)) H' Qt)
    (hd : ∀ H' ys, Same H1 H' → H' D = some (.lst ys) → ys.length = xs.length → (∀ (i : Nat) (y : V), ys[i]? = some y → R i y H') → Qd H') :
    ∃ W : Nat → Nat → Hp → Prop, (∃ m, W 0 m (upd H1 D (.lst []))) ∧ ∀ i m H, W i m H →
      ((Itl K a).stop i H ∧ Qd H) ∨ ((Itl K a).go i H ∧ ∃ Nx : Hp → Prop, (∀ H', Nx H' → ∃ m', m' < m ∧ W (i + 1) m' H') ∧ ∀ x H', (Itl K a).yld i H x H' → gName j x (wipe σ vs) H' fun σ2 H2 => wipe σ2 vs = wipe σ vs ∧ tYes σ2 H2 fun b H3 =>
        if b = true then te σ2 H3 fun y H4 => ∃ acc, H4 D = some (.lst acc) ∧ acc.length < sizeLine ∧ Nx (upd H4 D (.lst (acc ++ [y]))) else Nx H3) := by
  refine lc_list (K := K) (a := a) (xs := xs) (RelPv R H1 D) ⟨[], same_upd nD, upd_same, rfl, fun k y h => by simp at h⟩ (fun i H _ ⟨_, s, _⟩ => s.seq hS) ?_ ?_
  · rintro i x H hx ⟨ys, s, hD, hl, hR⟩
    have hi : i < xs.length := (List.getElem?_eq_some_iff.mp hx).1
    refine ⟨hw _, ?_⟩
    unfold tYes
    dsimp only
    rw [if_pos (show true = true from rfl)]
    refine hs i x H ys hx s hD _ fun y H4 s4 r4 => ?_
    refine ⟨ys, s4 _ _ hD, by omega, ys ++ [y], same_over nD (s.trans s4), upd_same, by rw [List.length_append, hl]; rfl, fun k z hz => ?_⟩
    have off : Pre.Off D H4 (upd H4 D (.lst (ys ++ [y]))) := fun b o nb h => by rw [upd_ne nb]; exact h
    by_cases hk : k < ys.length
    · rw [List.getElem?_append_left hk] at hz
      exact mono k z H _ (fun b o nb h => off b o nb (s4 b o h)) (hR k z hz)
    · rw [List.getElem?_append_right (by omega)] at hz
      have hk2 : k - ys.length = 0 := by
        have h2 := (List.getElem?_eq_some_iff.mp hz).1
        rw [List.length_singleton] at h2
        omega
      rw [hk2] at hz
      cases hz
      have ek : k = i := by omega
      rw [ek]
      exact mono i y H4 _ off r4
  · rintro H ⟨ys, s, hD, hl, hR⟩
    exact hd H ys s hD hl hR
/-- a list of lists of whole numbers -/
def RowsIn (H : Hp) (p : Addr) (rows : List (List Int)) : Prop := ∃ as : List Addr, H p = some (.lst (as.map V.ref)) ∧ as.length = rows.length ∧ ∀ (i : Nat) (a : Addr) (r : List Int), as[i]? = some a → rows[i]? = some r → H a = some (.lst (r.map V.int))
theorem RowsIn.same {H H' : Hp} {p : Addr} {rows : List (List Int)} (h : RowsIn H p rows) (s : Same H H') : RowsIn H' p rows := by
  obtain ⟨as, h1, h2, h3⟩ := h
  exact ⟨as, s _ _ h1, h2, fun i a r ha hr => s _ _ (h3 i a r ha hr)⟩
section
variable {X : Cx}
theorem huD {k : Nat} {A : Around} (r : Room k A) : A.units + 65 < cLine := by have := r.un; omega
theorem k_inD (K : PySem.W.Frag) (h : X.K = K) (hu : X.A.units + 65 < cLine) : OpR X (compareOp .In) (rInD K) := by subst h; exact op_inD hu
theorem k_notInD (K : PySem.W.Frag) (h : X.K = K) (hu : X.A.units + 65 < cLine) : OpR X (compareOp .NotIn) (rNotInD K) := by subst h; exact op_notInD hu
theorem k_indexD (K : PySem.W.Frag) (h : X.K = K) (hu : X.A.units + 65 < cLine) : MtR X "list.index" (rIndexD K) := by subst h; exact mt_indexD hu
end
/-- rows as data -/
def rowD (r : List Int) : PyData := .list (r.map PyData.int)
theorem rows_dp {K : PySem.W.Frag} {H : Hp} : ∀ {as : List Addr} {rows : List (List Int)}, as.length = rows.length → (∀ (i : Nat) (a : Addr) (r : List Int), as[i]? = some a → rows[i]? = some r → H a = some (.lst (r.map V.int))) → DpAll K H (as.map V.ref) (rows.map rowD)
  | [], [], _, _ => .nil
  | [], _ :: _, h, _ => by simp at h
  | _ :: _, [], h, _ => by simp at h
  | a :: as, r :: rows, h, k => .cons (.lst (.inl (.inl (k 0 a r rfl rfl))) (Pre.dp_ints r)) (rows_dp (by simpa using h) fun i t q ht hq => k (i + 1) t q (by simpa using ht) (by simpa using hq))
theorem rowD_eqv (r q : List Int) : PyData.eqv (rowD r) (rowD q) = decide (r = q) := by
  unfold rowD
  rw [PyData.eqv, eqv_ints]
theorem rows_shaped (rows : List (List Int)) : SeqAt.shaped (.list (rows.map rowD)) = true := by
  have h1 : ∀ l : List (List Int), PyData.canLayAll0 (l.map rowD) = true := fun l => by
    induction l with
    | nil => rfl
    | cons r l ih =>
      show (PyData.canLay0 (rowD r) && PyData.canLayAll0 (l.map rowD)) = true
      rw [ih]
      unfold rowD
      rw [PyData.canLay0, lay_ints]
      rfl
  have h2 : ∀ l : List (List Int), PyData.depthAll (l.map rowD) ≤ 1 := fun l => by
    induction l with
    | nil => simp [PyData.depthAll]
    | cons r l ih =>
      show PyData.depthAll (rowD r :: l.map rowD) ≤ 1
      rw [PyData.depthAll]
      unfold rowD at *
      rw [PyData.depth, depth_ints]
      omega
  show (PyData.canLay0 (.list (rows.map rowD)) && decide (PyData.depth (.list (rows.map rowD)) ≤ 64)) = true
  rw [Bool.and_eq_true]
  have := h2 rows
  exact ⟨by rw [PyData.canLay0]; exact h1 rows, decide_eq_true (by rw [PyData.depth]; omega)⟩
end My

namespace My
open PySem PySem.Spec PyProof.Rows L2 Pre
/-! ### min and max of a list of pairs of whole numbers -/
def pairD (p : Int × Int) : PyData := .tuple [.int p.1, .int p.2]
def ltP2 (p q : Int × Int) : Prop := p.1 < q.1 ∨ (p.1 = q.1 ∧ p.2 < q.2)
instance (p q : Int × Int) : Decidable (ltP2 p q) := by unfold ltP2; infer_instance
theorem pair_lt (p q : Int × Int) : PySem.W.dataLt (pairD p) (pairD q) = decide (ltP2 p q) := PySem.W.dataLt_ii p.1 p.2 q.1 q.2
theorem ltP2_trans {p q r : Int × Int} (h : ¬ ltP2 q p) (k : ¬ ltP2 r q) : ¬ ltP2 r p := by
  unfold ltP2 at *
  omega
def minP (p : Int × Int) (ps : List (Int × Int)) : Int × Int := ps.foldl (fun a y => if ltP2 y a then y else a) p
def maxP (p : Int × Int) (ps : List (Int × Int)) : Int × Int := ps.foldl (fun a y => if ltP2 a y then y else a) p
theorem minP_data : ∀ (ps : List (Int × Int)) (p : Int × Int), PySem.W.minD (pairD p) (ps.map pairD) = pairD (minP p ps)
  | [], _ => rfl
  | q :: ps, p => by
    show PySem.W.minD (if PySem.W.dataLt (pairD q) (pairD p) = true then pairD q else pairD p) (ps.map pairD) = pairD (minP (if ltP2 q p then q else p) ps)
    rw [pair_lt]
    by_cases h : ltP2 q p
    · rw [decide_eq_true h, if_pos rfl, if_pos h, minP_data ps q]
    · rw [decide_eq_false h, if_neg (by decide), if_neg h, minP_data ps p]
theorem maxP_data : ∀ (ps : List (Int × Int)) (p : Int × Int), PySem.W.maxD (pairD p) (ps.map pairD) = pairD (maxP p ps)
  | [], _ => rfl
  | q :: ps, p => by
    show PySem.W.maxD (if PySem.W.dataLt (pairD p) (pairD q) = true then pairD q else pairD p) (ps.map pairD) = pairD (maxP (if ltP2 p q then q else p) ps)
    rw [pair_lt]
    by_cases h : ltP2 p q
    · rw [decide_eq_true h, if_pos rfl, if_pos h, maxP_data ps q]
    · rw [decide_eq_false h, if_neg (by decide), if_neg h, maxP_data ps p]
theorem minP_spec : ∀ (ps : List (Int × Int)) (p : Int × Int), minP p ps ∈ p :: ps ∧ ∀ q ∈ p :: ps, ¬ ltP2 q (minP p ps)
  | [], p => ⟨List.mem_cons_self, fun q hq => by
      rw [List.mem_singleton.mp hq]
      show ¬ ltP2 p p
      unfold ltP2
      omega⟩
  | r :: ps, p => by
    show minP (if ltP2 r p then r else p) ps ∈ _ ∧ ∀ q ∈ p :: r :: ps, ¬ ltP2 q (minP (if ltP2 r p then r else p) ps)
    by_cases h : ltP2 r p
    · rw [if_pos h]
      obtain ⟨h1, h2⟩ := minP_spec ps r
      refine ⟨List.mem_cons_of_mem _ h1, fun q hq => ?_⟩
      rcases List.mem_cons.mp hq with rfl | hq
      · have := h2 r List.mem_cons_self
        exact fun z => this (by unfold ltP2 at *; omega)
      · exact h2 q hq
    · rw [if_neg h]
      obtain ⟨h1, h2⟩ := minP_spec ps p
      refine ⟨?_, fun q hq => ?_⟩
      · rcases List.mem_cons.mp h1 with e | e
        · rw [e]; exact List.mem_cons_self
        · exact List.mem_cons_of_mem _ (List.mem_cons_of_mem _ e)
      · rcases List.mem_cons.mp hq with rfl | hq
        · exact h2 q List.mem_cons_self
        · rcases List.mem_cons.mp hq with rfl | hq
          · have := h2 p List.mem_cons_self
            exact fun z => this (by unfold ltP2 at *; omega)
          · exact h2 q (List.mem_cons_of_mem _ hq)
theorem maxP_spec : ∀ (ps : List (Int × Int)) (p : Int × Int), maxP p ps ∈ p :: ps ∧ ∀ q ∈ p :: ps, ¬ ltP2 (maxP p ps) q
  | [], p => ⟨List.mem_cons_self, fun q hq => by
      rw [List.mem_singleton.mp hq]
      show ¬ ltP2 p p
      unfold ltP2
      omega⟩
  | r :: ps, p => by
    show maxP (if ltP2 p r then r else p) ps ∈ _ ∧ ∀ q ∈ p :: r :: ps, ¬ ltP2 (maxP (if ltP2 p r then r else p) ps) q
    by_cases h : ltP2 p r
    · rw [if_pos h]
      obtain ⟨h1, h2⟩ := maxP_spec ps r
      refine ⟨List.mem_cons_of_mem _ h1, fun q hq => ?_⟩
      rcases List.mem_cons.mp hq with rfl | hq
      · have := h2 r List.mem_cons_self
        exact fun z => this (by unfold ltP2 at *; omega)
      · exact h2 q hq
    · rw [if_neg h]
      obtain ⟨h1, h2⟩ := maxP_spec ps p
      refine ⟨?_, fun q hq => ?_⟩
      · rcases List.mem_cons.mp h1 with e | e
        · rw [e]; exact List.mem_cons_self
        · exact List.mem_cons_of_mem _ (List.mem_cons_of_mem _ e)
      · rcases List.mem_cons.mp hq with rfl | hq
        · exact h2 q List.mem_cons_self
        · rcases List.mem_cons.mp hq with rfl | hq
          · have := h2 p List.mem_cons_self
            exact fun z => this (by unfold ltP2 at *; omega)
          · exact h2 q (List.mem_cons_of_mem _ hq)
theorem pairs_alike (ps : List (Int × Int)) : PySem.W.AlikeAll (ps.map pairD) := by
  refine ⟨fun x hx y hy => ?_, fun x hx => ?_⟩
  · obtain ⟨p, _, rfl⟩ := List.mem_map.mp hx
    obtain ⟨q, _, rfl⟩ := List.mem_map.mp hy
    rfl
  · obtain ⟨p, _, rfl⟩ := List.mem_map.mp hx
    exact fun z => nomatch z
theorem pairs_lay : ∀ ps : List (Int × Int), PyData.canLayAll0 (ps.map pairD) = true
  | [] => rfl
  | p :: ps => by simp [PyData.canLayAll0, PyData.canLay0, pairD, pairs_lay ps]
theorem pairs_depth : ∀ ps : List (Int × Int), PyData.depthAll (ps.map pairD) ≤ 2
  | [] => by simp [PyData.depthAll]
  | p :: ps => by
    have := pairs_depth ps
    simp only [List.map_cons, PyData.depthAll, pairD, PyData.depth]
    omega
/-- a list of pairs, at a -/
def PairsAt (K : PySem.W.Frag) (H : Hp) (a : Addr) (ps : List (Int × Int)) : Prop := ∃ as : List Addr, SqL K H a (as.map V.ref) ∧ as.length = ps.length ∧ ∀ (i : Nat) (t : Addr) (p : Int × Int), as[i]? = some t → ps[i]? = some p → SqT K H t [.int p.1, .int p.2]
theorem pairs_dp {K : PySem.W.Frag} {H : Hp} : ∀ {as : List Addr} {ps : List (Int × Int)}, as.length = ps.length → (∀ (i : Nat) (t : Addr) (p : Int × Int), as[i]? = some t → ps[i]? = some p → SqT K H t [.int p.1, .int p.2]) → DpAll K H (as.map V.ref) (ps.map pairD)
  | [], [], _, _ => .nil
  | [], _ :: _, h, _ => by simp at h
  | _ :: _, [], h, _ => by simp at h
  | a :: as, p :: ps, h, k => .cons (.tup (k 0 a p rfl rfl) (.cons (.int _) (.cons (.int _) .nil))) (pairs_dp (by simpa using h) fun i t q ht hq => k (i + 1) t q (by simpa using ht) (by simpa using hq))
def rMnP (K : PySem.W.Frag) (best : Int × Int → List (Int × Int) → Int × Int) : List V → Hp → VK → Prop := fun xs H Q => ∃ (a : Addr) (p : Int × Int) (ps : List (Int × Int)), xs = [.ref a] ∧ PairsAt K H a (p :: ps) ∧ ∀ t, SqT K H t [.int (best p ps).1, .int (best p ps).2] → Q (.ref t) H
section
variable {X : Cx} {K : PySem.W.Frag}
theorem pick {H : Hp} {s : Shared} {as : List Addr} {ps : List (Int × Int)} {its : List Value} {i : Nat} {v : Value} {h' : Heap} {bs cs : List Addr} {b : Int × Int} (hl : as.length = ps.length)
    (hT : ∀ (i : Nat) (t : Addr) (p : Int × Int), as[i]? = some t → ps[i]? = some p → SqT K H t [.int p.1, .int p.2]) (rv : Vals (as.map V.ref) its) (hr : ReadsAll s.heap its (ps.map pairD) cs) (hv : its.toArray[i]? = some v) (rd : Reads h' v (pairD b) bs)
    (hk : ∀ b o, s.heap.get? b = some o → h'.get? b = some o) : ∃ t, v = .ref t ∧ SqT K H t [.int b.1, .int b.2] := by
  have hv' : its[i]? = some v := by simpa using hv
  have hil : i < its.length := (List.getElem?_eq_some_iff.mp hv').1
  have hvl := rv.length
  rw [List.length_map] at hvl
  obtain ⟨u, hu, ru⟩ := rv.get (show (as.map V.ref)[i]? = some (.ref (as[i]'(by omega))) by rw [List.getElem?_map, List.getElem?_eq_getElem (by omega)]; rfl)
  rw [hv'] at hu
  cases hu
  have hp : ps[i]? = some (ps[i]'(by omega)) := List.getElem?_eq_getElem (by omega)
  obtain ⟨ds, r1, _, _, _⟩ := PySem.W.readsAll_at hr i v hv'
  have e1 : (ps.map pairD).getD i .none = pairD (ps[i]'(by omega)) := by
    rw [List.getD_eq_getElem?_getD, List.getElem?_map, hp]
    rfl
  rw [e1] at r1
  have e2 := PySem.SeqAt.Reads.unique (pairD b) _ v _ _ (by simp [pairD, PyData.canLay0, PyData.canLayAll0]) rd (Reads.keeps hk r1)
  have e3 : b = ps[i]'(by omega) := by
    unfold pairD at e2
    injection e2 with e2
    injection e2 with e4 e5
    injection e5 with e5 _
    injection e4 with e4
    injection e5 with e5
    exact Prod.ext e4 e5
  refine ⟨as[i]'(by omega), ru, ?_⟩
  rw [e3]
  exact hT i _ _ (List.getElem?_eq_getElem (by omega)) hp
theorem k_minP (K : PySem.W.Frag) (h : X.K = K) (hc : X.calm = true) (hu : X.A.units + 65 < cLine) : CallR X (.builtin "min") (rMnP K minP) := by
  subst h
  intro pins s σ H xs us Q I r h
  obtain ⟨a, p, ps, rfl, ⟨as, hS, hl, hT⟩, q⟩ := h
  obtain ⟨its, rv, hL, _⟩ := I.list hS
  rw [Vals.ref1 r]
  obtain ⟨cs, hr⟩ := Dp.readsAll I _ _ its (pairs_dp hl hT) rv
  have hd := pairs_depth (p :: ps)
  refine PySem.W.min_list_data (I.ok.hd hc) hL.isList (show ReadsAll s.heap its.toArray.toList (pairD p :: ps.map pairD) cs by simpa using hr) (pairs_alike (p :: ps)) (by rw [List.map_cons] at hd; omega) fun i v h' tk bs hv rd hk => ?_
  rw [minP_data] at rd
  obtain ⟨t, rfl, ht⟩ := pick hl hT rv hr hv rd hk
  exact ⟨.ref t, H, I.kept hk, rfl, q t ht⟩
theorem k_maxP (K : PySem.W.Frag) (h : X.K = K) (hc : X.calm = true) (hu : X.A.units + 65 < cLine) : CallR X (.builtin "max") (rMnP K maxP) := by
  subst h
  intro pins s σ H xs us Q I r h
  obtain ⟨a, p, ps, rfl, ⟨as, hS, hl, hT⟩, q⟩ := h
  obtain ⟨its, rv, hL, _⟩ := I.list hS
  rw [Vals.ref1 r]
  obtain ⟨cs, hr⟩ := Dp.readsAll I _ _ its (pairs_dp hl hT) rv
  have hd := pairs_depth (p :: ps)
  refine PySem.W.max_list_data (I.ok.hd hc) hL.isList (show ReadsAll s.heap its.toArray.toList (pairD p :: ps.map pairD) cs by simpa using hr) (pairs_alike (p :: ps)) (by rw [List.map_cons] at hd; omega) fun i v h' tk bs hv rd hk => ?_
  rw [maxP_data] at rd
  obtain ⟨t, rfl, ht⟩ := pick hl hT rv hr hv rd hk
  exact ⟨.ref t, H, I.kept hk, rfl, q t ht⟩
theorem huM {k : Nat} {A : Around} (r : Room k A) : A.units + 65 < cLine := by have := r.un; omega
end
end My

namespace My
open PySem PySem.Spec PyProof.Rows L2 Pre
/-! ### data in a heap: what is told of a value by lists and tuples that stand there (none of them frozen) -/
mutual
inductive Dt (H : Hp) : V → PyData → Prop
  | non : Dt H .non .none
  | bl (b : Bool) : Dt H (.bl b) (.bool b)
  | int (n : Int) : Dt H (.int n) (.int n)
  | str (x : Str) : Dt H (.str x) (.str x)
  | lst {a : Addr} {xs : List V} {ds : List PyData} : H a = some (.lst xs) → DtA H xs ds → Dt H (.ref a) (.list ds)
  | tup {a : Addr} {xs : List V} {ds : List PyData} : H a = some (.tup xs) → DtA H xs ds → Dt H (.ref a) (.tuple ds)
inductive DtA (H : Hp) : List V → List PyData → Prop
  | nil : DtA H [] []
  | cons {v : V} {vs : List V} {d : PyData} {ds : List PyData} : Dt H v d → DtA H vs ds → DtA H (v :: vs) (d :: ds)
end
mutual
theorem Dt.same {H H' : Hp} (s : Same H H') : ∀ {d : PyData} {v : V}, Dt H v d → Dt H' v d
  | .none, _, h => by cases h; exact .non
  | .bool _, _, h => by cases h; exact .bl _
  | .int _, _, h => by cases h; exact .int _
  | .str _, _, h => by cases h; exact .str _
  | .list _, _, h => by cases h with | lst a b => exact .lst (s _ _ a) (DtA.same s b)
  | .tuple _, _, h => by cases h with | tup a b => exact .tup (s _ _ a) (DtA.same s b)
  | .dict _, _, h => nomatch h
theorem DtA.same {H H' : Hp} (s : Same H H') : ∀ {ds : List PyData} {vs : List V}, DtA H vs ds → DtA H' vs ds
  | [], _, h => by cases h; exact .nil
  | _ :: _, _, h => by cases h with | cons a b => exact .cons (Dt.same s a) (DtA.same s b)
end
mutual
theorem Dt.dp {K : PySem.W.Frag} {H : Hp} : ∀ {d : PyData} {v : V}, Dt H v d → Dp K H v d
  | .none, _, h => by cases h; exact .non
  | .bool _, _, h => by cases h; exact .bl _
  | .int _, _, h => by cases h; exact .int _
  | .str _, _, h => by cases h; exact .str _
  | .list _, _, h => by cases h with | lst a b => exact .lst (.inl (.inl a)) (DtA.dp b)
  | .tuple _, _, h => by cases h with | tup a b => exact .tup (.inl (.inl a)) (DtA.dp b)
  | .dict _, _, h => nomatch h
theorem DtA.dp {K : PySem.W.Frag} {H : Hp} : ∀ {ds : List PyData} {vs : List V}, DtA H vs ds → DpAll K H vs ds
  | [], _, h => by cases h; exact .nil
  | _ :: _, _, h => by cases h with | cons a b => exact .cons (Dt.dp a) (DtA.dp b)
end
theorem DtA.len {H : Hp} : ∀ {ds : List PyData} {vs : List V}, DtA H vs ds → vs.length = ds.length
  | [], _, h => by cases h; rfl
  | _ :: _, _, h => by cases h with | cons a b => rw [List.length_cons, List.length_cons, DtA.len b]
theorem DtA.app {H : Hp} : ∀ {ds : List PyData} {vs : List V} {es : List PyData} {us : List V}, DtA H vs ds → DtA H us es → DtA H (vs ++ us) (ds ++ es)
  | [], _, _, _, h, k => by cases h; exact k
  | _ :: _, _, _, _, h, k => by cases h with | cons a b => exact .cons a (DtA.app b k)
theorem DtA.get {H : Hp} : ∀ {ds : List PyData} {vs : List V} {i : Nat} {d : PyData}, DtA H vs ds → ds[i]? = some d → ∃ v, vs[i]? = some v ∧ Dt H v d
  | [], _, _, _, _, k => by simp at k
  | _ :: _, _, 0, _, h, k => by
    cases h with
    | cons a b => rw [List.getElem?_cons_zero] at k; cases k; exact ⟨_, rfl, a⟩
  | _ :: _, _, i + 1, _, h, k => by
    cases h with
    | cons a b => rw [List.getElem?_cons_succ] at k; rw [List.getElem?_cons_succ]; exact DtA.get b k
theorem DtA.got {H : Hp} {ds : List PyData} {vs : List V} {i : Nat} {v : V} (h : DtA H vs ds) (k : vs[i]? = some v) : ∃ d, ds[i]? = some d ∧ Dt H v d := by
  have hi := (List.getElem?_eq_some_iff.mp k).1
  have hl := h.len
  obtain ⟨u, hu, d⟩ := h.get (List.getElem?_eq_getElem (show i < ds.length by omega))
  rw [k] at hu
  cases hu
  exact ⟨_, List.getElem?_eq_getElem (by omega), d⟩
theorem DtA.take {H : Hp} : ∀ {ds : List PyData} {vs : List V} (n : Nat), DtA H vs ds → DtA H (vs.take n) (ds.take n)
  | _, _, 0, _ => .nil
  | [], _, _ + 1, h => by cases h; exact .nil
  | _ :: _, _, n + 1, h => by cases h with | cons a b => exact .cons a (DtA.take n b)
theorem DtA.drop {H : Hp} : ∀ {ds : List PyData} {vs : List V} (n : Nat), DtA H vs ds → DtA H (vs.drop n) (ds.drop n)
  | _, _, 0, h => h
  | [], _, _ + 1, h => by cases h; exact .nil
  | _ :: _, _, n + 1, h => by cases h with | cons a b => exact DtA.drop n b
theorem DtA.rev {H : Hp} : ∀ {ds : List PyData} {vs : List V}, DtA H vs ds → DtA H vs.reverse ds.reverse
  | [], _, h => by cases h; exact .nil
  | _ :: _, _, h => by
    cases h with
    | cons a b => rw [List.reverse_cons, List.reverse_cons]; exact DtA.app (DtA.rev b) (.cons a .nil)
theorem DtA.ints {H : Hp} : ∀ ns : List Int, DtA H (ns.map V.int) (ns.map PyData.int)
  | [] => .nil
  | n :: r => .cons (.int n) (DtA.ints r)
theorem DtA.intsE {H : Hp} : ∀ {ns : List Int} {vs : List V}, DtA H vs (ns.map PyData.int) → vs = ns.map V.int
  | [], _, h => by cases h; rfl
  | n :: r, _, h => by
    cases h with
    | cons a b => cases a; rw [DtA.intsE b]; rfl
/-- a list of whole numbers -/
theorem Dt.ints {H : Hp} {a : Addr} {ns : List Int} (h : H a = some (.lst (ns.map V.int))) : Dt H (.ref a) (rowD ns) := .lst h (DtA.ints ns)
theorem Dt.intsE {H : Hp} {v : V} {ns : List Int} (h : Dt H v (rowD ns)) : ∃ a, v = .ref a ∧ H a = some (.lst (ns.map V.int)) := by
  unfold rowD at h
  cases h with
  | lst a b => rw [DtA.intsE b] at a; exact ⟨_, rfl, a⟩
theorem Dt.listE {H : Hp} {v : V} {ds : List PyData} (h : Dt H v (.list ds)) : ∃ a xs, v = .ref a ∧ H a = some (.lst xs) ∧ DtA H xs ds := by
  cases h with
  | lst a b => exact ⟨_, _, rfl, a, b⟩
theorem Dt.tupE {H : Hp} {v : V} {ds : List PyData} (h : Dt H v (.tuple ds)) : ∃ a xs, v = .ref a ∧ H a = some (.tup xs) ∧ DtA H xs ds := by
  cases h with
  | tup a b => exact ⟨_, _, rfl, a, b⟩
/-! ### what is owned (and changes) is left out -/
def rs (S : List Addr) (H : Hp) : Hp := fun a => if a ∈ S then none else H a
theorem rs_nil (H : Hp) : rs [] H = H := by funext a; simp [rs]
theorem rs_in {S : List Addr} {H : Hp} {a : Addr} (h : a ∈ S) : rs S H a = none := if_pos h
theorem rs_out {S : List Addr} {H : Hp} {a : Addr} (h : a ∉ S) : rs S H a = H a := if_neg h
theorem rs_some {S : List Addr} {H : Hp} {a : Addr} {o : HO} (h : rs S H a = some o) : a ∉ S ∧ H a = some o := by
  by_cases m : a ∈ S
  · rw [rs_in m] at h; cases h
  · rw [rs_out m] at h; exact ⟨m, h⟩
theorem rs_le {S : List Addr} {H : Hp} : Same (rs S H) H := fun _ _ h => (rs_some h).2
theorem rs_same {S : List Addr} {H H' : Hp} (s : Same H H') : Same (rs S H) (rs S H') := fun b o h => by
  obtain ⟨m, e⟩ := rs_some h
  rw [rs_out m]
  exact s b o e
theorem rs_upd {S : List Addr} {H : Hp} {p : Addr} {o : HO} (h : p ∈ S) : rs S (L2.upd H p o) = rs S H := by
  funext a
  by_cases m : a ∈ S
  · rw [rs_in m, rs_in m]
  · rw [rs_out m, rs_out m, upd_ne (fun e => m (by rw [e]; exact h))]
/-- all of them stand -/
def Has (S : List Addr) (H : Hp) : Prop := ∀ a ∈ S, ∃ o, H a = some o
theorem Has.nil {H : Hp} : Has [] H := fun _ h => nomatch h
theorem Has.same {S : List Addr} {H H' : Hp} (h : Has S H) (s : Same H H') : Has S H' := fun a m => by
  obtain ⟨o, e⟩ := h a m
  exact ⟨o, s a o e⟩
theorem Has.cons {S : List Addr} {H : Hp} {p : Addr} {o : HO} (h : Has S H) (e : H p = some o) : Has (p :: S) H := fun a m => by
  rcases List.mem_cons.mp m with rfl | m
  · exact ⟨o, e⟩
  · exact h a m
theorem Has.upd {S : List Addr} {H : Hp} {p : Addr} {o : HO} (h : Has S H) : Has S (L2.upd H p o) := fun a m => by
  by_cases e : a = p
  · subst e; exact ⟨o, upd_same⟩
  · rw [upd_ne e]; exact h a m
theorem Has.out {S : List Addr} {H : Hp} {p : Addr} (h : Has S H) (n : H p = none) : p ∉ S := fun m => by
  obtain ⟨o, e⟩ := h p m
  rw [n] at e
  cases e
theorem GenAt.has {H : Hp} {g : Addr} {n : Nat} (h : GenAt H g n) : Has [g] H := by
  obtain ⟨x, y, z, e, _⟩ := h
  exact Has.nil.cons e
/-- all but what is owned stays -/
def Sta (S : List Addr) (H H' : Hp) : Prop := Same (rs S H) (rs S H')
theorem Sta.of {S : List Addr} {H H' : Hp} (s : Same H H') : Sta S H H' := rs_same s
theorem Sta.trans {S : List Addr} {H H1 H2 : Hp} (a : Sta S H H1) (b : Sta S H1 H2) : Sta S H H2 := fun c o h => b c o (a c o h)
theorem Sta.at_ {S : List Addr} {H H' : Hp} (s : Sta S H H') {a : Addr} {o : HO} (m : a ∉ S) (h : H a = some o) : H' a = some o := (rs_some (s a o (by rw [rs_out m]; exact h))).2
theorem Sta.upd {S : List Addr} {H : Hp} {p : Addr} {o : HO} (h : p ∈ S) : Sta S H (L2.upd H p o) := fun c u e => by rw [rs_upd h]; exact e
theorem Sta.more {S : List Addr} {H H' : Hp} {p : Addr} (s : Sta S H H') : Sta (p :: S) H H' := fun c o h => by
  obtain ⟨m, e⟩ := rs_some h
  have m2 : c ∉ S := fun z => m (List.mem_cons_of_mem _ z)
  rw [rs_out m]
  exact s.at_ m2 e
theorem But.sta {g : Addr} {H H' : Hp} (b : But g H H') : Sta [g] H H' := fun c o h => by
  obtain ⟨m, e⟩ := rs_some h
  rw [rs_out m]
  exact b c o (fun z => m (by rw [z]; exact List.mem_cons_self)) e
/-- what was there ahead of a new thing does not speak of it -/
theorem under {S : List Addr} {H H' : Hp} {p : Addr} (n : H p = none) (s : Same H H') : Same (rs S H) (rs (p :: S) H') := fun c o h => by
  obtain ⟨m, e⟩ := rs_some h
  rw [rs_out (fun z => by
    rcases List.mem_cons.mp z with rfl | z
    · rw [n] at e; cases e
    · exact m z)]
  exact s c o e
theorem over {S : List Addr} {H : Hp} {p : Addr} : Same (rs (p :: S) H) (rs S H) := fun c o h => by
  obtain ⟨m, e⟩ := rs_some h
  rw [rs_out (fun z => m (List.mem_cons_of_mem _ z))]
  exact e
/-! ### a new list, a new tuple, a sum of lists -/
theorem dt_new {S : List Addr} {H : Hp} {p : Addr} {xs : List V} {ds : List PyData} (hS : Has S H) (n : H p = none) (h : DtA (rs S H) xs ds) : Dt (rs S (upd H p (.lst xs))) (.ref p) (.list ds) :=
  .lst (by rw [rs_out (hS.out n)]; exact upd_same) (h.same (rs_same (same_upd n)))
theorem dt_newT {S : List Addr} {H : Hp} {p : Addr} {xs : List V} {ds : List PyData} (hS : Has S H) (n : H p = none) (h : DtA (rs S H) xs ds) : Dt (rs S (upd H p (.tup xs))) (.ref p) (.tuple ds) :=
  .tup (by rw [rs_out (hS.out n)]; exact upd_same) (h.same (rs_same (same_upd n)))
theorem d_lst {S : List Addr} {H : Hp} {xs : List V} {ds : List PyData} {Q : VK} (hS : Has S H) (h : DtA (rs S H) xs ds) (hz : xs.length ≤ sizeLine) (k : ∀ p H', Same H H' → H p = none → H' p = some (.lst xs) → Dt (rs S H') (.ref p) (.list ds) → Q (.ref p) H') : xs.length ≤ sizeLine ∧ ∀ p, H p = none → Q (.ref p) (upd H p (.lst xs)) :=
  ⟨hz, fun p n => k p _ (same_upd n) n upd_same (dt_new hS n h)⟩
theorem d_tup {S : List Addr} {H : Hp} {xs : List V} {ds : List PyData} {Q : VK} (hS : Has S H) (h : DtA (rs S H) xs ds) (hz : xs.length ≤ sizeLine) (k : ∀ p H', Same H H' → H p = none → H' p = some (.tup xs) → Dt (rs S H') (.ref p) (.tuple ds) → Q (.ref p) H') : xs.length ≤ sizeLine ∧ ∀ p, H p = none → Q (.ref p) (upd H p (.tup xs)) :=
  ⟨hz, fun p n => k p _ (same_upd n) n upd_same (dt_newT hS n h)⟩
theorem d_cat {S : List Addr} {H : Hp} {v w : V} {ds es : List PyData} {Q : VK} (hS : Has S H) (hv : Dt (rs S H) v (.list ds)) (hw : Dt (rs S H) w (.list es)) (hz : ds.length + es.length ≤ sizeLine) (k : ∀ p H', Same H H' → H p = none → Dt (rs S H') (.ref p) (.list (ds ++ es)) → Q (.ref p) H') : rCat v w H Q := by
  obtain ⟨a, xs, rfl, ha, hx⟩ := hv.listE
  obtain ⟨b, ys, rfl, hb, hy⟩ := hw.listE
  exact ⟨a, b, xs, ys, rfl, rfl, (rs_some ha).2, (rs_some hb).2, by rw [hx.len, hy.len]; exact hz, fun p n => k p _ (same_upd n) n (dt_new hS n (hx.app hy))⟩
theorem d_eq {K : PySem.W.Frag} {H : Hp} {v w : V} {d e : PyData} {Q : VK} (hv : Dt H v d) (hw : Dt H w e) (sd : SeqAt.shaped d = true) (se : SeqAt.shaped e = true) (q : Q (.bl (PyData.eqv d e)) H) : rEqD K v w H Q := ⟨d, e, hv.dp, hw.dp, sd, se, q⟩
theorem d_ne {K : PySem.W.Frag} {H : Hp} {v w : V} {d e : PyData} {Q : VK} (hv : Dt H v d) (hw : Dt H w e) (sd : SeqAt.shaped d = true) (se : SeqAt.shaped e = true) (q : Q (.bl (!PyData.eqv d e)) H) : rNeD K v w H Q := ⟨d, e, hv.dp, hw.dp, sd, se, q⟩
/-! ### comprehensions -/
/-- what comes of an item: nothing, or data -/
def Out (S : List Addr) (H : Hp) : Option PyData → Option V → Prop
  | some d, some v => Dt (rs S H) v d
  | none, none => True
  | _, _ => False
def accP (S : List Addr) (H1 : Hp) (D : Addr) (ds : List PyData) (H : Hp) : Prop := Same H1 H ∧ ∃ ys, H D = some (.lst ys) ∧ DtA (rs (D :: S) H) ys ds
theorem acc_step {S : List Addr} {H1 : Hp} {D : Addr} {sel : List (Option PyData)} {i : Nat} {o : Option PyData} {H H4 : Hp} (nD : H1 D = none) (ho : sel[i]? = some o) (hz : sel.length < sizeLine) (h : accP S H1 D ((sel.take i).filterMap id) H) (s4 : Same H H4) :
    ∀ y : Option V, Out (D :: S) H4 o y → match y with
      | some v => ∃ acc, H4 D = some (.lst acc) ∧ acc.length < sizeLine ∧ accP S H1 D ((sel.take (i + 1)).filterMap id) (upd H4 D (.lst (acc ++ [v])))
      | none => accP S H1 D ((sel.take (i + 1)).filterMap id) H4 := by
  obtain ⟨s, ys, hD, hy⟩ := h
  intro y hO
  rw [take_fm ho]
  cases o with
  | none =>
    cases y with
    | none => exact ⟨s.trans s4, ys, s4 _ _ hD, by simpa using hy.same (rs_same s4)⟩
    | some v => exact absurd hO (fun z => z)
  | some d =>
    cases y with
    | none => exact absurd hO (fun z => z)
    | some v =>
      refine ⟨ys, s4 _ _ hD, ?_, same_over nD (s.trans s4), ys ++ [v], upd_same, ?_⟩
      · rw [hy.len]
        exact Nat.lt_of_le_of_lt (fm_len sel i) hz
      · rw [rs_upd List.mem_cons_self]
        exact (hy.same (rs_same s4)).app (.cons hO .nil)
theorem acc_end {S : List Addr} {H1 : Hp} {D : Addr} {ds : List PyData} {H : Hp} (hS : Has S H1) (nD : H1 D = none) (h : accP S H1 D ds H) : Dt (rs S H) (.ref D) (.list ds) := by
  obtain ⟨s, ys, hD, hy⟩ := h
  exact .lst (by rw [rs_out (hS.out nD)]; exact hD) (hy.same over)
theorem lc_dR {lo : Int} {n : Nat} {j : Nat} {tt : TT} {te : TE} {vs : List Nat} {σ : L2.St} {H1 : Hp} {D : Addr} {Qd : Hp → Prop} {S : List Addr} (hS : Has S H1) (sel : List (Option PyData)) (nD : H1 D = none) (hlen : sel.length = n) (hz : n < sizeLine)
    (hw : ∀ x, wipe ((wipe σ vs).set j (some x)) vs = wipe σ vs)
    (hs : ∀ (i : Nat) (o : Option PyData) (H' : Hp), i < n → sel[i]? = some o → Same H1 H' → Has (D :: S) H' → ∀ Qt : Option V → Hp → Prop, (∀ y H'', Same H' H'' → Out (D :: S) H'' o y → Qt y H'') →
      tt ((wipe σ vs).set j (some (.int (lo + (i : Int))))) H' fun b H3 => if b = true then te ((wipe σ vs).set j (some (.int (lo + (i : Int))))) H3 fun y H4 => Qt (some y) H4 else Qt none H3)
    (hd : ∀ H', Same H1 H' → H' D ≠ none → Dt (rs S H') (.ref D) (.list (sel.filterMap id)) → Qd H') :
    ∃ W : Nat → Nat → Hp → Prop, (∃ m, W 0 m (upd H1 D (.lst []))) ∧ ∀ i m H, W i m H →
      ((Itr lo n).stop i H ∧ Qd H) ∨ ((Itr lo n).go i H ∧ ∃ Nx : Hp → Prop, (∀ H', Nx H' → ∃ m', m' < m ∧ W (i + 1) m' H') ∧ ∀ x H', (Itr lo n).yld i H x H' → gName j x (wipe σ vs) H' fun σ2 H2 => wipe σ2 vs = wipe σ vs ∧ tt σ2 H2 fun b H3 =>
        if b = true then te σ2 H3 fun y H4 => ∃ acc, H4 D = some (.lst acc) ∧ acc.length < sizeLine ∧ Nx (upd H4 D (.lst (acc ++ [y]))) else Nx H3) := by
  refine lc_range (lo := lo) (n := n) (fun i H => accP S H1 D ((sel.take i).filterMap id) H) ⟨same_upd nD, [], upd_same, .nil⟩ ?_ ?_
  · rintro i H hi h
    refine ⟨hw _, ?_⟩
    have ho : sel[i]? = some (sel[i]'(by omega)) := List.getElem?_eq_getElem (by omega)
    obtain ⟨s, ys, hD, hy⟩ := id h
    exact hs i _ H hi ho s ((hS.same s).cons hD) (fun o H4 => match o with
      | some y => ∃ acc, H4 D = some (.lst acc) ∧ acc.length < sizeLine ∧ accP S H1 D ((sel.take (i + 1)).filterMap id) (upd H4 D (.lst (acc ++ [y])))
      | none => accP S H1 D ((sel.take (i + 1)).filterMap id) H4) fun y H4 s4 hO => acc_step nD ho (by omega) h s4 y hO
  · rintro H h
    rw [← hlen, List.take_length] at h
    refine hd H h.1 ?_ (acc_end hS nD h)
    obtain ⟨_, ys, hD, _⟩ := h
    rw [hD]
    exact fun z => nomatch z
theorem lc_dL {K : PySem.W.Frag} {a : Addr} {xs : List V} {j : Nat} {tt : TT} {te : TE} {vs : List Nat} {σ : L2.St} {H1 : Hp} {D : Addr} {Qd : Hp → Prop} {S : List Addr} (hS : Has S H1) (sel : List (Option PyData)) (nD : H1 D = none) (hA : SqL K H1 a xs) (hlen : sel.length = xs.length) (hz : xs.length < sizeLine)
    (hw : ∀ x, wipe ((wipe σ vs).set j (some x)) vs = wipe σ vs)
    (hs : ∀ (i : Nat) (x : V) (o : Option PyData) (H' : Hp), xs[i]? = some x → sel[i]? = some o → Same H1 H' → Has (D :: S) H' → ∀ Qt : Option V → Hp → Prop, (∀ y H'', Same H' H'' → Out (D :: S) H'' o y → Qt y H'') →
      tt ((wipe σ vs).set j (some x)) H' fun b H3 => if b = true then te ((wipe σ vs).set j (some x)) H3 fun y H4 => Qt (some y) H4 else Qt none H3)
    (hd : ∀ H', Same H1 H' → H' D ≠ none → Dt (rs S H') (.ref D) (.list (sel.filterMap id)) → Qd H') :
    ∃ W : Nat → Nat → Hp → Prop, (∃ m, W 0 m (upd H1 D (.lst []))) ∧ ∀ i m H, W i m H →
      ((Itl K a).stop i H ∧ Qd H) ∨ ((Itl K a).go i H ∧ ∃ Nx : Hp → Prop, (∀ H', Nx H' → ∃ m', m' < m ∧ W (i + 1) m' H') ∧ ∀ x H', (Itl K a).yld i H x H' → gName j x (wipe σ vs) H' fun σ2 H2 => wipe σ2 vs = wipe σ vs ∧ tt σ2 H2 fun b H3 =>
        if b = true then te σ2 H3 fun y H4 => ∃ acc, H4 D = some (.lst acc) ∧ acc.length < sizeLine ∧ Nx (upd H4 D (.lst (acc ++ [y]))) else Nx H3) := by
  refine lc_list (K := K) (a := a) (xs := xs) (fun i H => accP S H1 D ((sel.take i).filterMap id) H) ⟨same_upd nD, [], upd_same, .nil⟩ (fun i H _ p => p.1.seq hA) ?_ ?_
  · rintro i x H hx h
    refine ⟨hw _, ?_⟩
    have hi := (List.getElem?_eq_some_iff.mp hx).1
    have ho : sel[i]? = some (sel[i]'(by omega)) := List.getElem?_eq_getElem (by omega)
    obtain ⟨s, ys, hD, hy⟩ := id h
    exact hs i x _ H hx ho s ((hS.same s).cons hD) (fun o H4 => match o with
      | some y => ∃ acc, H4 D = some (.lst acc) ∧ acc.length < sizeLine ∧ accP S H1 D ((sel.take (i + 1)).filterMap id) (upd H4 D (.lst (acc ++ [y])))
      | none => accP S H1 D ((sel.take (i + 1)).filterMap id) H4) fun y H4 s4 hO => acc_step nD ho (by omega) h s4 y hO
  · rintro H h
    rw [← hlen, List.take_length] at h
    refine hd H h.1 ?_ (acc_end hS nD h)
    obtain ⟨_, ys, hD, _⟩ := h
    rw [hD]
    exact fun z => nomatch z
/-- maps: each item's data -/
theorem sel_map {α : Type} (l : List α) (f : α → PyData) : (l.map fun x => some (f x)).filterMap id = l.map f := by
  induction l with
  | nil => rfl
  | cons x l ih =>
    show f x :: (l.map fun x => some (f x)).filterMap id = _
    rw [ih]
    rfl
/-- over any walk -/
theorem lc_dW {J : It} {n : Nat} {G : Hp → Prop} {Y : Nat → Hp → V → Hp → Prop} (w : Walk J n G Y) {g : TG} {tt : TT} {te : TE} {vs : List Nat} {σ : L2.St} {H1 : Hp} {D : Addr} {Qd : Hp → Prop} {S : List Addr} (hS : Has S H1) (sel : List (Option PyData)) (nD : H1 D = none) (hlen : sel.length = n) (hz : n < sizeLine)
    (hG : ∀ H', Same H1 H' → G H')
    (hs : ∀ (i : Nat) (o : Option PyData) (H0 : Hp) (x : V) (H' : Hp), i < n → sel[i]? = some o → Same H1 H0 → Has (D :: S) H0 → Y i H0 x H' → ∀ Qt : Option V → Hp → Prop, (∀ y H'', Same H0 H'' → Out (D :: S) H'' o y → Qt y H'') →
      g x (wipe σ vs) H' fun σ2 H2 => wipe σ2 vs = wipe σ vs ∧ tt σ2 H2 fun b H3 => if b = true then te σ2 H3 fun y H4 => Qt (some y) H4 else Qt none H3)
    (hd : ∀ H', Same H1 H' → H' D ≠ none → Dt (rs S H') (.ref D) (.list (sel.filterMap id)) → Qd H') :
    ∃ W : Nat → Nat → Hp → Prop, (∃ m, W 0 m (upd H1 D (.lst []))) ∧ ∀ i m H, W i m H →
      (J.stop i H ∧ Qd H) ∨ (J.go i H ∧ ∃ Nx : Hp → Prop, (∀ H', Nx H' → ∃ m', m' < m ∧ W (i + 1) m' H') ∧ ∀ x H', J.yld i H x H' → g x (wipe σ vs) H' fun σ2 H2 => wipe σ2 vs = wipe σ vs ∧ tt σ2 H2 fun b H3 =>
        if b = true then te σ2 H3 fun y H4 => ∃ acc, H4 D = some (.lst acc) ∧ acc.length < sizeLine ∧ Nx (upd H4 D (.lst (acc ++ [y]))) else Nx H3) := by
  refine lc_it w (fun i H => accP S H1 D ((sel.take i).filterMap id) H) ⟨same_upd nD, [], upd_same, .nil⟩ (fun i H _ p => hG H p.1) ?_ ?_
  · rintro i x H H' hi h y
    have ho : sel[i]? = some (sel[i]'(by omega)) := List.getElem?_eq_getElem (by omega)
    obtain ⟨s, ys, hD, hy⟩ := id h
    exact hs i _ H x H' hi ho s ((hS.same s).cons hD) y (fun o H4 => match o with
      | some y => ∃ acc, H4 D = some (.lst acc) ∧ acc.length < sizeLine ∧ accP S H1 D ((sel.take (i + 1)).filterMap id) (upd H4 D (.lst (acc ++ [y])))
      | none => accP S H1 D ((sel.take (i + 1)).filterMap id) H4) fun y H4 s4 hO => acc_step nD ho (by omega) h s4 y hO
  · rintro H h
    rw [← hlen, List.take_length] at h
    refine hd H h.1 ?_ (acc_end hS nD h)
    obtain ⟨_, ys, hD, _⟩ := h
    rw [hD]
    exact fun z => nomatch z
theorem dt_pairs {K : PySem.W.Frag} {H : Hp} {a : Addr} {ps : List (Int × Int)} (h : Dt H (.ref a) (.list (ps.map pairD))) : PairsAt K H a ps := by
  cases h with
  | lst ha hx =>
    rename_i xs
    have key : ∀ (ps : List (Int × Int)) (xs : List V), DtA H xs (ps.map pairD) → ∃ as : List Addr, xs = as.map V.ref ∧ as.length = ps.length ∧ ∀ (i : Nat) (t : Addr) (p : Int × Int), as[i]? = some t → ps[i]? = some p → SqT K H t [.int p.1, .int p.2] := fun ps => by
      induction ps with
      | nil => intro xs h; cases h; exact ⟨[], rfl, rfl, fun i t p ht => by simp at ht⟩
      | cons p ps ih =>
        intro xs h
        cases h with
        | cons b c =>
          obtain ⟨as, rfl, hl, k⟩ := ih _ c
          obtain ⟨t, ys, rfl, ht, hy⟩ := (show Dt H _ (.tuple [.int p.1, .int p.2]) from b).tupE
          rw [DtA.intsE (ns := [p.1, p.2]) hy] at ht
          refine ⟨t :: as, rfl, by rw [List.length_cons, List.length_cons, hl], fun i u q hu hq => ?_⟩
          cases i with
          | zero =>
            rw [List.getElem?_cons_zero] at hu hq
            cases hu
            cases hq
            exact .inl (.inl ht)
          | succ i =>
            rw [List.getElem?_cons_succ] at hu hq
            exact k i u q hu hq
    obtain ⟨as, rfl, hl, k⟩ := key ps xs hx
    exact ⟨as, .inl (.inl ha), hl, k⟩
end My

namespace My
open PySem PySem.Spec PyProof.Rows L2 Pre
/-! ### texts of bits -/
def sgn (b : Bool) : Nat := if b = true then 49 else 48
def bS (bs : List Bool) : Str := ⟨(bs.map sgn).toArray⟩
theorem bS_len (bs : List Bool) : (bS bs).length = bs.length := by simp [bS, Str.length]
theorem bS_size (bs : List Bool) : (bS bs).cps.size = bs.length := by simp [bS]
theorem bS_app (a b : List Bool) : bS a ++ bS b = bS (a ++ b) := by
  show (⟨(bS a).cps ++ (bS b).cps⟩ : Str) = _
  unfold bS
  rw [List.map_append, List.append_toArray]
theorem sgn_inj {a b : Bool} (h : sgn a = sgn b) : a = b := by cases a <;> cases b <;> first | rfl | (simp [sgn] at h)
theorem bS_inj {a b : List Bool} (h : bS a = bS b) : a = b := by
  have e : a.map sgn = b.map sgn := by
    have := congrArg (fun z : Str => z.cps.toList) h
    simpa [bS] using this
  induction a generalizing b with
  | nil => cases b with
    | nil => rfl
    | cons _ _ => simp at e
  | cons x r ih => cases b with
    | nil => simp at e
    | cons y q =>
      rw [List.map_cons, List.map_cons, List.cons.injEq] at e
      have hr : bS r = bS q := by
        have z : r.map sgn = q.map sgn := e.2
        unfold bS
        rw [z]
      rw [sgn_inj e.1, ih hr e.2]
theorem bS_at {bs : List Bool} {i c : Nat} (h : (bS bs).cps[i]? = some c) : ∃ b, bs[i]? = some b ∧ (⟨#[c]⟩ : Str) = bS [b] := by
  have e : (bs.map sgn)[i]? = some c := by
    unfold bS at h
    rw [← h]
    simp
  rw [List.getElem?_map] at e
  obtain ⟨b, hb, rfl⟩ := Option.map_eq_some_iff.mp e
  exact ⟨b, hb, rfl⟩
theorem bS_atI {bs : List Bool} {i : Nat} {b : Bool} (h : bs[i]? = some b) : atI (bS bs).cps.toList (i : Int) = some (sgn b) := by
  refine atI_nat ?_
  unfold bS
  simp [h]
theorem bS_one (b : Bool) : (⟨#[sgn b]⟩ : Str) = bS [b] := rfl
theorem str_one : (("1" : String) : Str) = bS [true] := by decide +kernel
theorem str_nil : (("" : String) : Str) = bS [] := by decide +kernel
theorem str_zero : (("0" : String) : Str) = bS [false] := by decide +kernel
theorem dec_bS (a b : List Bool) : decide (V.str (bS a) = V.str (bS b)) = decide (a = b) := by
  by_cases h : a = b
  · subst h; simp
  · rw [decide_eq_false h, decide_eq_false]
    exact fun z => h (bS_inj (V.str.inj z))
theorem one_sign (b : Bool) : decide (V.str (bS [b]) = V.str (("1" : String) : Str)) = b := by
  rw [str_one, dec_bS]
  cases b <;> rfl
theorem reps_list (c : List Nat) : ∀ (k : Nat) (acc : List Nat), (List.replicate k c.toArray).foldl (· ++ ·) acc.toArray = (acc ++ (List.replicate k c).flatten).toArray
  | 0, acc => by simp
  | k + 1, acc => by
    rw [List.replicate_succ, List.foldl_cons, List.append_toArray, reps_list c k, List.replicate_succ, List.flatten_cons, List.append_assoc]
theorem bS_mul (k : Nat) : Txt.mul (("0" : String) : Str) (k : Int) = bS (List.replicate k false) := by
  rw [str_zero]
  unfold Txt.mul
  by_cases h0 : (k : Int) < 1
  · rw [if_pos h0, show k = 0 by omega]
    rfl
  · rw [if_neg h0]
    by_cases h1 : k = 1
    · subst h1
      rfl
    · rw [if_neg (by
        rw [Bool.or_eq_true, beq_iff_eq, beq_iff_eq, bS_len]
        simp
        omega), Int.toNat_natCast]
      have := reps_list [48] k []
      unfold bS
      rw [List.map_replicate]
      show (⟨(List.replicate k ([48] : List Nat).toArray).foldl (· ++ ·) ([] : List Nat).toArray⟩ : Str) = _
      rw [this, List.nil_append]
      have e : (List.replicate k [48]).flatten = List.replicate k 48 := by
        clear this h0 h1
        induction k with
        | zero => rfl
        | succ k ih => rw [List.replicate_succ, List.flatten_cons, ih, List.replicate_succ]; rfl
      rw [e]
      rfl
theorem join_bits (bs : List Bool) : Txt.join (("" : String) : Str) (bs.map fun b => bS [b]) = bS bs := by
  rw [TL.join_eq]
  have e0 : TL.tl ((("" : String) : Str)) = [] := by rw [str_nil]; rfl
  have key : ∀ bs : List Bool, TL.joinL [] ((bs.map fun b => bS [b]).map TL.tl) = bs.map sgn := by
    intro bs
    induction bs with
    | nil => rfl
    | cons b r ih =>
      cases r with
      | nil => rfl
      | cons c q =>
        show TL.tl (bS [b]) ++ ([] ++ TL.joinL [] (((c :: q).map fun b => bS [b]).map TL.tl)) = _
        rw [ih]
        rfl
  have h := TL.tl_join (("" : String) : Str) (bs.map fun b => bS [b])
  rw [e0, key] at h
  unfold bS
  rw [← h]
  exact (TL.mk_tl _).symm
section
variable {X : Cx}
def rRepS : R2 := fun x y H Q => ∃ (z : Str) (n : Nat), x = .str z ∧ y = .int n ∧ z.length ≤ 100 ∧ n ≤ 10000 ∧ Q (.str (Txt.mul z n)) H
theorem op_rep_str : OpR X (binaryOp .Mult) rRepS := by
  intro pins s σ H x y v u Q I rx ry h
  obtain ⟨z, n, rfl, rfl, hz, hn, q⟩ := h
  obtain ⟨t, rfl⟩ := rx
  obtain ⟨t', rfl⟩ := ry
  exact PySem.SB.mul (mulOk_of 100 10000 hz (by omega) (by omega) (by decide) (by decide)) fun t' k => ⟨.str (Txt.mul z n), H, I.tok _, ⟨_, rfl⟩, q⟩
end
end My

set_option linter.all false
set_option linter.unusedSectionVars false
namespace My
/-! ### rests of rows by a check: numbers stand for sums of powers over two -/
def red (w W x : Nat) : Nat := if x >>> w = 1 then x ^^^ W else x
def remN (w W : Nat) : Nat → Nat → Nat
  | 0, _ => 0
  | k + 1, n => red w W (2 * remN w W k (n / 2) + n % 2)
def rem (w W n : Nat) : Nat := remN w W (n.log2 + 1) n
def sh (w W a : Nat) : Nat := red w W (2 * a)
structure Ck (w W : Nat) : Prop where
  pos : 1 ≤ w
  lo : 2 ^ w < W
  hi : W < 2 ^ (w + 1)
  odd : W % 2 = 1
theorem red_zero (w W : Nat) : red w W 0 = 0 := by simp [red]
theorem shr1 {w x : Nat} (h : x < 2 ^ (w + 1)) : x >>> w = 1 ↔ 2 ^ w ≤ x := by
  rw [Nat.shiftRight_eq_div_pow]
  have hp : 0 < 2 ^ w := Nat.pow_pos (by omega)
  rw [Nat.pow_succ] at h
  constructor
  · intro e
    by_cases c : x < 2 ^ w
    · rw [Nat.div_eq_of_lt c] at e
      omega
    · omega
  · intro c
    have h1 : 1 ≤ x / 2 ^ w := (Nat.le_div_iff_mul_le hp).mpr (by omega)
    have h2 : x / 2 ^ w < 2 := (Nat.div_lt_iff_lt_mul hp).mpr (by omega)
    omega
theorem bit_top {w x : Nat} (h : x < 2 ^ (w + 1)) : x.testBit w = decide (2 ^ w ≤ x) := by
  have e := Nat.testBit_eq_decide_div_mod_eq (x := x) (i := w)
  rw [e]
  have hp : 0 < 2 ^ w := Nat.pow_pos (by omega)
  rw [Nat.pow_succ] at h
  by_cases c : 2 ^ w ≤ x
  · have h1 : 1 ≤ x / 2 ^ w := (Nat.le_div_iff_mul_le hp).mpr (by omega)
    have h2 : x / 2 ^ w < 2 := (Nat.div_lt_iff_lt_mul hp).mpr (by omega)
    have h3 : x / 2 ^ w = 1 := by omega
    simp [h3, c]
  · have h3 : x / 2 ^ w = 0 := Nat.div_eq_of_lt (by omega)
    simp [h3, c]
theorem xor_low {w x W : Nat} (hx : x < 2 ^ (w + 1)) (hW : W < 2 ^ (w + 1)) (h1 : 2 ^ w ≤ x) (h2 : 2 ^ w ≤ W) : x ^^^ W < 2 ^ w := by
  refine Nat.lt_pow_two_of_testBit _ fun i hi => ?_
  rw [Nat.testBit_xor]
  rcases Nat.lt_or_ge w i with c | c
  · have e : (2 : Nat) ^ (w + 1) ≤ 2 ^ i := Nat.pow_le_pow_right (by omega) c
    rw [Nat.testBit_lt_two_pow (by omega), Nat.testBit_lt_two_pow (by omega)]
    rfl
  · have e : i = w := by omega
    subst e
    rw [bit_top hx, bit_top hW, decide_eq_true h1, decide_eq_true h2]
    rfl
theorem xor_high {w x y : Nat} (hx : x < 2 ^ w) (hy : y < 2 ^ (w + 1)) (h2 : 2 ^ w ≤ y) : 2 ^ w ≤ x ^^^ y ∧ x ^^^ y < 2 ^ (w + 1) := by
  have hp : 2 ^ (w + 1) = 2 ^ w * 2 := Nat.pow_succ ..
  have hl : x ^^^ y < 2 ^ (w + 1) := Nat.xor_lt_two_pow (by omega) hy
  refine ⟨?_, hl⟩
  have e := bit_top hl
  rw [Nat.testBit_xor, bit_top (show x < 2 ^ (w + 1) by omega), bit_top hy, decide_eq_true h2, decide_eq_false (show ¬ 2 ^ w ≤ x by omega)] at e
  exact of_decide_eq_true e.symm
section
variable {w W : Nat} (C : Ck w W)
include C
theorem red_lt {x : Nat} (h : x < 2 ^ (w + 1)) : red w W x < 2 ^ w := by
  unfold red
  have s := shr1 h
  by_cases c : 2 ^ w ≤ x
  · rw [if_pos (s.mpr c)]
    exact xor_low h C.hi c (Nat.le_of_lt C.lo)
  · rw [if_neg (fun z => c (s.mp z))]
    omega
theorem red_id {x : Nat} (h : x < 2 ^ w) : red w W x = x := by
  unfold red
  have hp : 2 ^ (w + 1) = 2 ^ w * 2 := Nat.pow_succ ..
  rw [if_neg fun z => by
    have := (shr1 (w := w) (x := x) (by omega)).mp z
    omega]
theorem red_hi {x : Nat} (h : x < 2 ^ (w + 1)) (c : 2 ^ w ≤ x) : red w W x = x ^^^ W := by
  unfold red
  rw [if_pos ((shr1 h).mpr c)]
theorem red_xor {x y : Nat} (hx : x < 2 ^ (w + 1)) (hy : y < 2 ^ (w + 1)) : red w W (x ^^^ y) = red w W x ^^^ red w W y := by
  have hp : 2 ^ (w + 1) = 2 ^ w * 2 := Nat.pow_succ ..
  by_cases c : 2 ^ w ≤ x <;> by_cases d : 2 ^ w ≤ y
  · rw [red_hi C hx c, red_hi C hy d, red_id C (xor_low hx hy c d)]
    rw [Nat.xor_assoc, Nat.xor_comm y W, ← Nat.xor_assoc W W y, Nat.xor_self, Nat.zero_xor]
  · have hh := xor_high (show y < 2 ^ w by omega) hx c
    rw [red_hi C hx c, red_id C (show y < 2 ^ w by omega), Nat.xor_comm x y, red_hi C hh.2 hh.1]
    rw [Nat.xor_comm y x, Nat.xor_assoc, Nat.xor_assoc, Nat.xor_comm y W]
  · have hh := xor_high (show x < 2 ^ w by omega) hy d
    rw [red_hi C hy d, red_id C (show x < 2 ^ w by omega), red_hi C hh.2 hh.1, Nat.xor_assoc]
  · rw [red_id C (show x < 2 ^ w by omega), red_id C (show y < 2 ^ w by omega), red_id C (Nat.xor_lt_two_pow (show x < 2 ^ w by omega) (show y < 2 ^ w by omega))]
omit C in
theorem remN_stab : ∀ (k j n : Nat), n < 2 ^ k → n < 2 ^ j → remN w W k n = remN w W j n
  | 0, 0, _, _, _ => rfl
  | 0, j + 1, n, h, _ => by
    have e : n = 0 := by omega
    subst e
    have : ∀ j, remN w W j 0 = 0 := fun j => by
      induction j with
      | zero => rfl
      | succ j ih => rw [remN, Nat.zero_div, ih]; exact red_zero ..
    rw [this, this]
  | k + 1, 0, n, _, h => by
    have e : n = 0 := by omega
    subst e
    have : ∀ j, remN w W j 0 = 0 := fun j => by
      induction j with
      | zero => rfl
      | succ j ih => rw [remN, Nat.zero_div, ih]; exact red_zero ..
    rw [this, this]
  | k + 1, j + 1, n, h1, h2 => by
    rw [Nat.pow_succ] at h1 h2
    rw [remN, remN, remN_stab k j (n / 2) (by omega) (by omega)]
omit C in
theorem rem_fuel {k n : Nat} (h : n < 2 ^ k) : rem w W n = remN w W k n := remN_stab _ _ _ Nat.lt_log2_self h
omit C in
theorem rem_zero : rem w W 0 = 0 := by rw [rem_fuel (k := 0) (by omega)]; rfl
omit C in
theorem rem_step (n : Nat) : rem w W n = red w W (2 * rem w W (n / 2) + n % 2) := by
  have h : n < 2 ^ (n.log2 + 1) := Nat.lt_log2_self
  rw [rem_fuel (k := n.log2) (n := n / 2) (by rw [Nat.pow_succ] at h; omega)]
  rfl
omit C in
theorem rem_bit (m b : Nat) (hb : b < 2) : rem w W (2 * m + b) = red w W (2 * rem w W m + b) := by
  rw [rem_step, show (2 * m + b) / 2 = m by omega, show (2 * m + b) % 2 = b by omega]
theorem rem_lt (n : Nat) : rem w W n < 2 ^ w := by
  induction n using Nat.strongRecOn with
  | _ n ih =>
    by_cases h : n = 0
    · subst h
      rw [rem_zero]
      exact Nat.pow_pos (by omega)
    · rw [rem_step]
      refine red_lt C ?_
      have := ih (n / 2) (by omega)
      rw [Nat.pow_succ]
      omega
omit C in
theorem xor_bit (a b p q : Nat) (hp : p < 2) (hq : q < 2) : (2 * a + p) ^^^ (2 * b + q) = 2 * (a ^^^ b) + (p ^^^ q) := by
  have hpq : p ^^^ q < 2 := Nat.xor_lt_two_pow (n := 1) hp hq
  have e1 : ((2 * a + p) ^^^ (2 * b + q)) / 2 = a ^^^ b := by rw [Nat.xor_div_two, show (2 * a + p) / 2 = a by omega, show (2 * b + q) / 2 = b by omega]
  have e2 : ((2 * a + p) ^^^ (2 * b + q)) % 2 = p ^^^ q := by
    have h := Nat.testBit_xor (2 * a + p) (2 * b + q) 0
    rw [Nat.testBit_zero, Nat.testBit_zero, Nat.testBit_zero] at h
    rw [show (2 * a + p) % 2 = p by omega, show (2 * b + q) % 2 = q by omega] at h
    have c1 : p = 0 ∨ p = 1 := by omega
    have c2 : q = 0 ∨ q = 1 := by omega
    generalize (2 * a + p) ^^^ (2 * b + q) = N at h ⊢
    have z : (0 : Nat) ^^^ 0 = 0 := rfl
    have o : (1 : Nat) ^^^ 1 = 0 := rfl
    have zo : (0 : Nat) ^^^ 1 = 1 := rfl
    have oz : (1 : Nat) ^^^ 0 = 1 := rfl
    rcases c1 with e3 | e3 <;> rcases c2 with e4 | e4 <;> rw [e3, e4] at h ⊢ <;> simp only [z, o, zo, oz] <;> simp at h <;> omega
  omega
theorem rem_xor : ∀ n m : Nat, rem w W (n ^^^ m) = rem w W n ^^^ rem w W m := by
  intro n
  induction n using Nat.strongRecOn with
  | _ n ih =>
    intro m
    by_cases h : n = 0
    · subst h
      rw [Nat.zero_xor, rem_zero, Nat.zero_xor]
    · have e := xor_bit (n / 2) (m / 2) (n % 2) (m % 2) (by omega) (by omega)
      rw [show 2 * (n / 2) + n % 2 = n by omega, show 2 * (m / 2) + m % 2 = m by omega] at e
      have hb : n % 2 ^^^ m % 2 < 2 := Nat.xor_lt_two_pow (n := 1) (by omega) (by omega)
      rw [e, rem_bit _ _ hb, ih _ (by omega), rem_step n, rem_step m]
      have l1 := rem_lt C (n / 2)
      have l2 := rem_lt C (m / 2)
      have hp : 2 ^ (w + 1) = 2 ^ w * 2 := Nat.pow_succ ..
      rw [← red_xor C (by omega) (by omega), xor_bit _ _ _ _ (by omega) (by omega)]
theorem rem_small : ∀ n : Nat, n < 2 ^ w → rem w W n = n := by
  intro n
  induction n using Nat.strongRecOn with
  | _ n ih =>
    intro hn
    by_cases h : n = 0
    · subst h
      exact rem_zero
    · rw [rem_step, ih _ (by omega) (by omega), show 2 * (n / 2) + n % 2 = n by omega]
      exact red_id C hn
theorem rem_self : rem w W W = 0 := by
  have h := C.hi
  have hl := C.lo
  have hp : 2 ^ (w + 1) = 2 ^ w * 2 := Nat.pow_succ ..
  rw [rem_step, rem_small C _ (by omega), show 2 * (W / 2) + W % 2 = W by omega, red_hi C h (by omega), Nat.xor_self]
omit C in
theorem rem_dbl (n : Nat) : rem w W (2 * n) = sh w W (rem w W n) := rem_bit n 0 (by omega)
theorem rem_shl (n k : Nat) (h : rem w W n = 0) : rem w W (n <<< k) = 0 := by
  induction k with
  | zero => exact h
  | succ k ih =>
    rw [Nat.shiftLeft_eq, Nat.pow_succ, ← Nat.mul_assoc, Nat.mul_comm, ← Nat.shiftLeft_eq, rem_dbl, ih]
    exact red_zero ..
theorem sh_lt {a : Nat} (h : a < 2 ^ w) : sh w W a < 2 ^ w := red_lt C (by rw [Nat.pow_succ]; omega)
theorem sh_xor {a b : Nat} (ha : a < 2 ^ w) (hb : b < 2 ^ w) : sh w W (a ^^^ b) = sh w W a ^^^ sh w W b := by
  have hp : 2 ^ (w + 1) = 2 ^ w * 2 := Nat.pow_succ ..
  unfold sh
  rw [← red_xor C (by omega) (by omega)]
  have e := xor_bit a b 0 0 (by omega) (by omega)
  simp only [Nat.add_zero, Nat.xor_self] at e
  rw [e]
theorem sh_zero {a : Nat} (ha : a < 2 ^ w) (h : sh w W a = 0) : a = 0 := by
  have hp : 2 ^ (w + 1) = 2 ^ w * 2 := Nat.pow_succ ..
  unfold sh at h
  by_cases c : 2 ^ w ≤ 2 * a
  · rw [red_hi C (by omega) c] at h
    have e : 2 * a = W := by
      have : (2 * a ^^^ W) ^^^ W = 0 ^^^ W := by rw [h]
      rw [Nat.xor_assoc, Nat.xor_self, Nat.xor_zero, Nat.zero_xor] at this
      exact this
    have := C.odd
    omega
  · rw [red_id C (by omega)] at h
    omega
omit C in
theorem xor_eq0 {a b : Nat} : a ^^^ b = 0 ↔ a = b := by
  constructor
  · intro h
    have : (a ^^^ b) ^^^ b = 0 ^^^ b := by rw [h]
    rw [Nat.xor_assoc, Nat.xor_self, Nat.xor_zero, Nat.zero_xor] at this
    exact this
  · rintro rfl
    exact Nat.xor_self _
theorem sh_inj {a b : Nat} (ha : a < 2 ^ w) (hb : b < 2 ^ w) (h : sh w W a = sh w W b) : a = b := by
  have e := sh_xor C ha hb
  rw [h, Nat.xor_self] at e
  exact xor_eq0.mp (sh_zero C (Nat.xor_lt_two_pow ha hb) e)
/-- what is moved by places alone -/
theorem rem_moved (n k : Nat) (h : rem w W (n <<< k) = 0) : rem w W n = 0 := by
  induction k with
  | zero => exact h
  | succ k ih =>
    refine ih ?_
    rw [Nat.shiftLeft_eq, Nat.pow_succ, ← Nat.mul_assoc, Nat.mul_comm, ← Nat.shiftLeft_eq, rem_dbl] at h
    exact sh_zero C (rem_lt C _) h
/-! ### powers -/
omit C in
/-- the rest of a power of x -/
def pw (w W i : Nat) : Nat := rem w W (2 ^ i)
theorem pw_zero : pw w W 0 = 1 := rem_small C 1 (by
  have := C.pos
  have : 2 ^ 1 ≤ 2 ^ w := Nat.pow_le_pow_right (by omega) this
  omega)
omit C in
theorem pw_succ (i : Nat) : pw w W (i + 1) = sh w W (pw w W i) := by
  unfold pw
  rw [Nat.pow_succ, Nat.mul_comm, rem_dbl]
theorem pw_lt (i : Nat) : pw w W i < 2 ^ w := rem_lt C _
theorem pw_ne (i : Nat) : pw w W i ≠ 0 := by
  induction i with
  | zero => rw [pw_zero C]; omega
  | succ i ih => exact fun h => ih (sh_zero C (pw_lt C i) (by rw [← pw_succ]; exact h))
theorem pw_back {a b k : Nat} (h : pw w W (a + k) = pw w W (b + k)) : pw w W a = pw w W b := by
  induction k with
  | zero => exact h
  | succ k ih => exact ih (sh_inj C (pw_lt C _) (pw_lt C _) (by rw [← pw_succ, ← pw_succ]; exact h))
theorem pw_again : ∃ d, 1 ≤ d ∧ d < 2 ^ w ∧ pw w W d = 1 := by
  have hp : 0 < 2 ^ w := Nat.pow_pos (by omega)
  apply Classical.byContradiction
  intro no
  have inj : ∀ i j, i < j → j < 2 ^ w → pw w W i ≠ pw w W j := fun i j hij hj e => by
    refine no ⟨j - i, by omega, by omega, ?_⟩
    have := pw_back C (a := 0) (b := j - i) (k := i) (by rw [Nat.zero_add, show j - i + i = j by omega]; exact e)
    rw [← this, pw_zero C]
  have nd : ((List.range (2 ^ w)).map (pw w W)).Nodup := by
    refine List.pairwise_map.mpr (List.pairwise_lt_range.imp_of_mem fun {a b} ha hb hab => ?_)
    exact inj a b hab (List.mem_range.mp hb)
  have sub : ((List.range (2 ^ w)).map (pw w W)) ⊆ (List.range (2 ^ w)).erase 0 := fun x hx => by
    obtain ⟨i, _, rfl⟩ := List.mem_map.mp hx
    exact (List.mem_erase_of_ne (pw_ne C i)).mpr (List.mem_range.mpr (pw_lt C i))
  have h := nd.length_le_of_subset sub
  rw [List.length_map, List.length_erase_of_mem (List.mem_range.mpr hp), List.length_range] at h
  omega
/-! ### rows of bits -/
omit C in
def numB (bs : List Bool) : Nat := bs.foldl (fun n b => 2 * n + b.toNat) 0
omit C in
theorem foldB (bs : List Bool) (n : Nat) : bs.foldl (fun n b => 2 * n + b.toNat) n = n * 2 ^ bs.length + numB bs := by
  unfold numB
  induction bs generalizing n with
  | nil => simp
  | cons b r ih =>
    rw [List.foldl_cons, List.foldl_cons, ih, ih (2 * 0 + b.toNat), List.length_cons, Nat.pow_succ, Nat.mul_zero, Nat.zero_add, Nat.add_mul, ← Nat.add_assoc]
    congr 1
    congr 1
    rw [Nat.mul_comm 2 n, Nat.mul_assoc, Nat.mul_comm 2]
omit C in
theorem numB_app (a b : List Bool) : numB (a ++ b) = numB a * 2 ^ b.length + numB b := by
  unfold numB
  rw [List.foldl_append, foldB]
  rfl

omit C in
theorem numB_snoc (a : List Bool) (b : Bool) : numB (a ++ [b]) = 2 * numB a + b.toNat := by
  rw [numB_app]
  show numB a * 2 ^ 1 + (2 * 0 + b.toNat) = _
  omega
omit C in
theorem foldB_lt (a : List Bool) : ∀ n : Nat, a.foldl (fun n b => 2 * n + b.toNat) n < (n + 1) * 2 ^ a.length := by
  induction a with
  | nil => intro n; simp
  | cons b r ih =>
    intro n
    rw [List.foldl_cons, List.length_cons, Nat.pow_succ]
    refine Nat.lt_of_lt_of_le (ih _) ?_
    have hb : b.toNat ≤ 1 := Bool.toNat_le b
    have : (2 * n + b.toNat + 1) * 2 ^ r.length ≤ (2 * (n + 1)) * 2 ^ r.length := Nat.mul_le_mul_right _ (by omega)
    refine Nat.le_trans this ?_
    rw [Nat.mul_comm 2 (n + 1), Nat.mul_assoc, Nat.mul_comm 2]
    exact Nat.le_refl _
omit C in
theorem numB_lt (a : List Bool) : numB a < 2 ^ a.length := by
  have := foldB_lt a 0
  rw [Nat.zero_add, Nat.one_mul] at this
  exact this
omit C in
/-- the rest of a row, sign by sign -/
def restB (w W : Nat) (bs : List Bool) : Nat := bs.foldl (fun f b => red w W (2 * f + b.toNat)) 0
omit C in
theorem restB_snoc (a : List Bool) (b : Bool) : restB w W (a ++ [b]) = red w W (2 * restB w W a + b.toNat) := by
  unfold restB
  rw [List.foldl_append]
  rfl
omit C in
theorem foldR (bs : List Bool) (n : Nat) : bs.foldl (fun f b => red w W (2 * f + b.toNat)) (rem w W n) = rem w W (bs.foldl (fun n b => 2 * n + b.toNat) n) := by
  induction bs generalizing n with
  | nil => rfl
  | cons b r ih =>
    rw [List.foldl_cons, List.foldl_cons, ← ih, rem_bit]
    cases b <;> decide
omit C in
theorem restB_eq (bs : List Bool) : restB w W bs = rem w W (numB bs) := by
  have := foldR (w := w) (W := W) bs 0
  rw [rem_zero] at this
  exact this
omit C in
/-- the bits of a number, so many, the greatest first -/
def bitsB (n : Nat) : Nat → List Bool
  | 0 => []
  | k + 1 => n.testBit k :: bitsB n k
omit C in
theorem bitsB_len (n : Nat) : ∀ k, (bitsB n k).length = k
  | 0 => rfl
  | k + 1 => by rw [bitsB, List.length_cons, bitsB_len n k]
omit C in
theorem numB_bits (n : Nat) : ∀ k, numB (bitsB n k) = n % 2 ^ k
  | 0 => by rw [Nat.pow_zero, Nat.mod_one]; rfl
  | k + 1 => by
    have e : numB (bitsB n (k + 1)) = (n.testBit k).toNat * 2 ^ (bitsB n k).length + numB (bitsB n k) := by
      show (bitsB n k).foldl _ (2 * 0 + (n.testBit k).toNat) = _
      rw [foldB, Nat.mul_zero, Nat.zero_add]
    rw [e, bitsB_len, numB_bits n k, Nat.toNat_testBit, Nat.pow_succ]
    have h := Nat.mod_mul (x := n) (a := 2 ^ k) (b := 2)
    rw [h, Nat.mul_comm]
    omega
omit C in
theorem bitsB_get (n : Nat) : ∀ (k i : Nat), i < k → (bitsB n k)[i]? = some (n.testBit (k - 1 - i))
  | 0, _, h => absurd h (by omega)
  | k + 1, 0, _ => rfl
  | k + 1, i + 1, h => by
    rw [bitsB, List.getElem?_cons_succ, bitsB_get n k i (by omega)]
    rw [show k + 1 - 1 - (i + 1) = k - 1 - i by omega]
omit C in
theorem bitsB_num : ∀ (bs : List Bool), bitsB (numB bs) bs.length = bs := by
  intro bs
  have hl := bitsB_len (numB bs) bs.length
  have hn := numB_bits (numB bs) bs.length
  rw [Nat.mod_eq_of_lt (numB_lt bs)] at hn
  generalize bitsB (numB bs) bs.length = cs at hl hn
  induction bs generalizing cs with
  | nil => exact List.length_eq_zero_iff.mp hl
  | cons b r ih =>
    cases cs with
    | nil => simp at hl
    | cons c q =>
      have e : ∀ (x : Bool) (l : List Bool), numB (x :: l) = x.toNat * 2 ^ l.length + numB l := fun x l => by
        show l.foldl _ (2 * 0 + x.toNat) = _
        rw [foldB, Nat.mul_zero, Nat.zero_add]
      have hl2 : q.length = r.length := by simpa using hl
      rw [e, e, hl2] at hn
      have h1 := numB_lt q
      have h2 := numB_lt r
      rw [hl2] at h1
      cases b <;> cases c <;> simp at hn
      · rw [ih _ hl2 hn]
      · omega
      · omega
      · rw [ih _ hl2 (by omega)]
end
end My

namespace My
section
variable {w W : Nat} (C : Ck w W)
/-! ### the order, threes, fours -/
structure IsOrder (w W d : Nat) : Prop where
  pos : 1 ≤ d
  at_ : pw w W d = 1
  ne : ∀ i, 0 < i → i < d → pw w W i ≠ 1
theorem order_uniq {d e : Nat} (a : IsOrder w W d) (b : IsOrder w W e) : d = e := by
  rcases Nat.lt_trichotomy d e with h | h | h
  · exact absurd a.at_ (b.ne d a.pos h)
  · exact h
  · exact absurd b.at_ (a.ne e b.pos h)
def Three (w W p : Nat) : Prop := ∃ q, 0 < q ∧ q < p ∧ pw w W q = pw w W p ^^^ 1
def Four (w W p : Nat) : Prop := ∃ o q, 0 < o ∧ o < q ∧ q < p ∧ pw w W o ^^^ pw w W q = pw w W p ^^^ 1
/-- the first place that has a property, the bound if there is none -/
structure IsFirst (P : Nat → Prop) (n t : Nat) : Prop where
  le : t ≤ n
  ne : ∀ p, p < t → ¬ P p
  at_ : t < n → P t
theorem first_uniq {P : Nat → Prop} {n s t : Nat} (a : IsFirst P n s) (b : IsFirst P n t) : s = t := by
  rcases Nat.lt_trichotomy s t with h | h | h
  · exact absurd (a.at_ (by have := b.le; omega)) (b.ne s h)
  · exact h
  · exact absurd (b.at_ (by have := a.le; omega)) (a.ne t h)
def IsLongest (w W few L : Nat) : Prop := (few = 3 ∧ IsOrder w W L) ∨ (few = 4 ∧ ∃ d, IsOrder w W d ∧ IsFirst (Three w W) d L) ∨ (few = 5 ∧ ∃ d t, IsOrder w W d ∧ IsFirst (Three w W) d t ∧ IsFirst (Four w W) t L)
theorem longest_uniq {few s t : Nat} (a : IsLongest w W few s) (b : IsLongest w W few t) : s = t := by
  rcases a with ⟨e, a⟩ | ⟨e, d, a, a1⟩ | ⟨e, d, u, a, a1, a2⟩ <;> rcases b with ⟨f, b⟩ | ⟨f, d', b, b1⟩ | ⟨f, d', u', b, b1, b2⟩ <;> first | omega | skip
  · exact order_uniq a b
  · cases order_uniq a b; exact first_uniq a1 b1
  · cases order_uniq a b
    cases first_uniq a1 b1
    exact first_uniq a2 b2
include C
theorem back2 {a b k : Nat} (h : pw w W (a + k) ^^^ pw w W (b + k) = 0) : pw w W a ^^^ pw w W b = 0 := xor_eq0.mpr (pw_back C (xor_eq0.mp h))
theorem back3 {a b c k : Nat} (h : pw w W (a + k) ^^^ pw w W (b + k) ^^^ pw w W (c + k) = 0) : pw w W a ^^^ pw w W b ^^^ pw w W c = 0 := by
  induction k with
  | zero => exact h
  | succ k ih =>
    refine ih (sh_zero C (Nat.xor_lt_two_pow (Nat.xor_lt_two_pow (pw_lt C _) (pw_lt C _)) (pw_lt C _)) ?_)
    rw [sh_xor C (Nat.xor_lt_two_pow (pw_lt C _) (pw_lt C _)) (pw_lt C _), sh_xor C (pw_lt C _) (pw_lt C _), ← pw_succ, ← pw_succ, ← pw_succ]
    exact h
theorem back4 {a b c e k : Nat} (h : pw w W (a + k) ^^^ pw w W (b + k) ^^^ pw w W (c + k) ^^^ pw w W (e + k) = 0) : pw w W a ^^^ pw w W b ^^^ pw w W c ^^^ pw w W e = 0 := by
  induction k with
  | zero => exact h
  | succ k ih =>
    have x2 := fun i j => Nat.xor_lt_two_pow (pw_lt C i) (pw_lt C j)
    have x3 := fun i j l => Nat.xor_lt_two_pow (x2 i j) (pw_lt C l)
    refine ih (sh_zero C (Nat.xor_lt_two_pow (x3 _ _ _) (pw_lt C _)) ?_)
    rw [sh_xor C (x3 _ _ _) (pw_lt C _), sh_xor C (x2 _ _) (pw_lt C _), sh_xor C (pw_lt C _) (pw_lt C _), ← pw_succ, ← pw_succ, ← pw_succ, ← pw_succ]
    exact h
theorem order_ex : ∃ d, IsOrder w W d ∧ d < 2 ^ w := by
  obtain ⟨d, h1, h2, h3⟩ := pw_again C
  have key : ∀ n, 1 ≤ n → n ≤ d → pw w W n = 1 → ∃ e, IsOrder w W e ∧ e ≤ n := by
    intro n
    induction n using Nat.strongRecOn with
    | _ n ih =>
      intro a1 a2 a3
      by_cases c : ∃ i, 0 < i ∧ i < n ∧ pw w W i = 1
      · obtain ⟨i, c1, c2, c3⟩ := c
        obtain ⟨e, he, hl⟩ := ih i c2 c1 (by omega) c3
        exact ⟨e, he, by omega⟩
      · exact ⟨n, ⟨a1, a3, fun i c1 c2 c3 => c ⟨i, c1, c2, c3⟩⟩, Nat.le_refl _⟩
  obtain ⟨e, he, hl⟩ := key d h1 (Nat.le_refl _) h3
  exact ⟨e, he, by omega⟩
theorem no2 {d a b : Nat} (O : IsOrder w W d) (hab : a < b) (hb : b < d) : pw w W a ≠ pw w W b := fun h => by
  have := pw_back C (a := 0) (b := b - a) (k := a) (by rw [Nat.zero_add, show b - a + a = b by omega]; exact h)
  rw [pw_zero C] at this
  exact O.ne (b - a) (by omega) (by omega) this.symm
theorem pw_inj {d a b : Nat} (O : IsOrder w W d) (ha : a < d) (hb : b < d) (h : pw w W a = pw w W b) : a = b := by
  rcases Nat.lt_trichotomy a b with c | c | c
  · exact absurd h (no2 C O c hb)
  · exact c
  · exact absurd h.symm (no2 C O c ha)
theorem no3 {t a b c : Nat} (T : ∀ p, p < t → ¬ Three w W p) (hab : a < b) (hbc : b < c) (hc : c < t) : pw w W a ^^^ pw w W b ^^^ pw w W c ≠ 0 := fun h => by
  have := back3 C (a := 0) (b := b - a) (c := c - a) (k := a) (by rw [Nat.zero_add, show b - a + a = b by omega, show c - a + a = c by omega]; exact h)
  rw [pw_zero C] at this
  refine T (c - a) (by omega) ⟨b - a, by omega, by omega, ?_⟩
  refine xor_eq0.mp ?_
  rw [← this]
  ac_rfl
theorem no4 {t a b c e : Nat} (T : ∀ p, p < t → ¬ Four w W p) (hab : a < b) (hbc : b < c) (hce : c < e) (he : e < t) : pw w W a ^^^ pw w W b ^^^ pw w W c ^^^ pw w W e ≠ 0 := fun h => by
  have := back4 C (a := 0) (b := b - a) (c := c - a) (e := e - a) (k := a) (by rw [Nat.zero_add, show b - a + a = b by omega, show c - a + a = c by omega, show e - a + a = e by omega]; exact h)
  rw [pw_zero C] at this
  refine T (e - a) (by omega) ⟨b - a, c - a, by omega, by omega, by omega, ?_⟩
  refine xor_eq0.mp ?_
  rw [← this]
  ac_rfl
theorem no3' {t a b c : Nat} (T : ∀ p, p < t → ¬ Three w W p) (ha : a < t) (hbc : b < c) (hc : c < t) (h1 : a ≠ b) (h2 : a ≠ c) : pw w W a ≠ pw w W b ^^^ pw w W c := fun h => by
  have z := xor_eq0.mpr h
  rcases Nat.lt_or_ge a b with d | d
  · exact no3 C T d hbc hc (by rw [← z]; ac_rfl)
  · rcases Nat.lt_or_ge a c with e | e
    · exact no3 C T (a := b) (b := a) (c := c) (by omega) e hc (by rw [← z]; ac_rfl)
    · exact no3 C T (a := b) (b := c) (c := a) hbc (by omega) ha (by rw [← z]; ac_rfl)
theorem no4' {t a b c e : Nat} (T : ∀ p, p < t → ¬ Four w W p) (hab : a < b) (hb : b < t) (hce : c < e) (he : e < t) (h1 : a < c) (h2 : a ≠ e) (h3 : b ≠ c) (h4 : b ≠ e) : pw w W a ^^^ pw w W b ≠ pw w W c ^^^ pw w W e := fun h => by
  have z := xor_eq0.mpr h
  rcases Nat.lt_or_ge b c with d | d
  · exact no4 C T hab d hce he (by rw [← z]; ac_rfl)
  · rcases Nat.lt_or_ge b e with f | f
    · exact no4 C T (a := a) (b := c) (c := b) (e := e) h1 (by omega) f he (by rw [← z]; ac_rfl)
    · exact no4 C T (a := a) (b := c) (c := e) (e := b) h1 hce (by omega) hb (by rw [← z]; ac_rfl)
/-! ### what mends -/
omit C in
def valP (w W : Nat) (xs : List Nat) : Nat := xs.foldl (fun v x => v ^^^ pw w W x) 0
omit C in
/-- lists of at most two places, rising -/
def Small2 (N : Nat) (xs : List Nat) : Prop := xs = [] ∨ (∃ a, a < N ∧ xs = [a]) ∨ ∃ a b, a < b ∧ b < N ∧ xs = [a, b]
omit C in
def Small1 (N : Nat) (xs : List Nat) : Prop := xs = [] ∨ ∃ a, a < N ∧ xs = [a]
theorem one_uniq {L N : Nat} (O : IsLongest w W 3 L) (hN : N ≤ L) {xs ys : List Nat} (hx : Small1 N xs) (hy : Small1 N ys) (h : valP w W xs = valP w W ys) : xs = ys := by
  have O' : IsOrder w W L := by
    rcases O with ⟨_, h⟩ | ⟨e, _⟩ | ⟨e, _⟩
    · exact h
    · omega
    · omega
  rcases hx with rfl | ⟨a, ha, rfl⟩ <;> rcases hy with rfl | ⟨b, hb, rfl⟩
  · rfl
  · exact absurd (by simpa [valP] using h.symm) (pw_ne C b)
  · exact absurd (by simpa [valP] using h) (pw_ne C a)
  · rw [pw_inj C O' (a := a) (b := b) (by omega) (by omega) (by simpa [valP] using h)]
theorem two_uniq {L N : Nat} (O : IsLongest w W 5 L) (hN : N ≤ L) {xs ys : List Nat} (hx : Small2 N xs) (hy : Small2 N ys) (h : valP w W xs = valP w W ys) : xs = ys := by
  obtain ⟨d, t, hO, h3, h4⟩ : ∃ d t, IsOrder w W d ∧ IsFirst (Three w W) d t ∧ IsFirst (Four w W) t L := by
    rcases O with ⟨e, _⟩ | ⟨e, _⟩ | ⟨_, h⟩
    · omega
    · omega
    · exact h
  have l1 := h3.le
  have l2 := h4.le
  have T3 := h3.ne
  have T4 := h4.ne
  have inj := fun {a b : Nat} (ha : a < N) (hb : b < N) (h : pw w W a = pw w W b) => pw_inj C hO (a := a) (b := b) (by omega) (by omega) h
  have v0 : valP w W [] = 0 := rfl
  have v1 : ∀ a, valP w W [a] = pw w W a := fun a => by simp [valP]
  have v2 : ∀ a b, valP w W [a, b] = pw w W a ^^^ pw w W b := fun a b => by simp [valP]
  have m3 : ∀ {a b c : Nat}, a < N → b < c → c < N → pw w W a = pw w W b ^^^ pw w W c → False := fun {a b c} ha hbc hc e => by
    by_cases e1 : a = b
    · subst e1
      refine pw_ne C c ?_
      have : pw w W a ^^^ pw w W a = pw w W a ^^^ (pw w W a ^^^ pw w W c) := by rw [← e]
      rw [Nat.xor_self, ← Nat.xor_assoc, Nat.xor_self, Nat.zero_xor] at this
      exact this.symm
    · by_cases e2 : a = c
      · subst e2
        refine pw_ne C b ?_
        have : pw w W a ^^^ pw w W a = (pw w W b ^^^ pw w W a) ^^^ pw w W a := by rw [← e]
        rw [Nat.xor_self, Nat.xor_assoc, Nat.xor_self, Nat.xor_zero] at this
        exact this.symm
      · exact no3' C (t := t) T3 (by omega) hbc (by omega) e1 e2 e
  have m4 : ∀ {a b c e : Nat}, a < b → b < N → c < e → e < N → pw w W a ^^^ pw w W b = pw w W c ^^^ pw w W e → a < c → False := fun {a b c e} hab hb hce he z hac => by
    by_cases e2 : a = e
    · omega
    by_cases e3 : b = c
    · subst e3
      rw [Nat.xor_comm] at z
      have : pw w W a = pw w W e := by
        have : pw w W b ^^^ (pw w W b ^^^ pw w W a) = pw w W b ^^^ (pw w W b ^^^ pw w W e) := by rw [z]
        rw [← Nat.xor_assoc, ← Nat.xor_assoc, Nat.xor_self, Nat.zero_xor, Nat.zero_xor] at this
        exact this
      have := inj (by omega) he this
      omega
    by_cases e4 : b = e
    · subst e4
      have : pw w W a = pw w W c := by
        have : (pw w W a ^^^ pw w W b) ^^^ pw w W b = (pw w W c ^^^ pw w W b) ^^^ pw w W b := by rw [z]
        rw [Nat.xor_assoc, Nat.xor_assoc, Nat.xor_self, Nat.xor_zero, Nat.xor_zero] at this
        exact this
      have := inj (by omega) (by omega) this
      omega
    · exact no4' C (t := L) T4 hab (by omega) hce (by omega) hac e2 e3 e4 z
  rcases hx with rfl | ⟨a, ha, rfl⟩ | ⟨a, b, hab, hb, rfl⟩ <;> rcases hy with rfl | ⟨c, hc, rfl⟩ | ⟨c, e, hce, he, rfl⟩ <;> simp only [v0, v1, v2] at h
  · rfl
  · exact absurd h.symm (pw_ne C c)
  · have := inj (a := c) (b := e) (by omega) he (xor_eq0.mp h.symm)
    omega
  · exact absurd h (pw_ne C a)
  · rw [inj ha hc h]
  · exact (m3 ha hce he h).elim
  · have := inj (a := a) (b := b) (by omega) hb (xor_eq0.mp h)
    omega
  · exact (m3 hc hab hb h.symm).elim
  · rcases Nat.lt_trichotomy a c with q | q | q
    · exact (m4 hab hb hce he h q).elim
    · subst q
      have : pw w W b = pw w W e := by
        have : pw w W a ^^^ (pw w W a ^^^ pw w W b) = pw w W a ^^^ (pw w W a ^^^ pw w W e) := by rw [h]
        rw [← Nat.xor_assoc, ← Nat.xor_assoc, Nat.xor_self, Nat.zero_xor, Nat.zero_xor] at this
        exact this
      rw [inj hb he this]
    · exact (m4 hce he hab hb h.symm q).elim
end
end My

namespace My
section
variable {w W : Nat}
def mends0 (r : Nat) : List (List Nat) := if r = 0 then [[]] else []
def mends1 (w W r N : Nat) : List (List Nat) := ((List.range N).filter fun a => decide (pw w W a = r)).map fun a => [a]
def mends2 (w W r N : Nat) : List (List Nat) := (List.range N).flatMap fun a => ((List.range N).filter fun b => decide (pw w W b = r ^^^ pw w W a) && decide (a < b)).map fun b => [a, b]
def mendsL (w W r N most : Nat) : List (List Nat) := mends0 r ++ (if 0 < most then mends1 w W r N else []) ++ (if 1 < most then mends2 w W r N else [])
theorem mends0_mem {r : Nat} {xs : List Nat} : xs ∈ mends0 r ↔ xs = [] ∧ valP w W xs = r := by
  unfold mends0
  by_cases h : r = 0
  · subst h
    rw [if_pos rfl, List.mem_singleton]
    exact ⟨fun e => ⟨e, by rw [e]; rfl⟩, fun e => e.1⟩
  · rw [if_neg h]
    refine ⟨fun e => by simp at e, fun ⟨e, f⟩ => ?_⟩
    subst e
    exact absurd f.symm h
theorem mends1_mem {r N : Nat} {xs : List Nat} : xs ∈ mends1 w W r N ↔ ∃ a, a < N ∧ xs = [a] ∧ valP w W xs = r := by
  unfold mends1
  rw [List.mem_map]
  constructor
  · rintro ⟨a, ha, rfl⟩
    rw [List.mem_filter, List.mem_range, decide_eq_true_iff] at ha
    exact ⟨a, ha.1, rfl, by simpa [valP] using ha.2⟩
  · rintro ⟨a, ha, rfl, e⟩
    exact ⟨a, List.mem_filter.mpr ⟨List.mem_range.mpr ha, decide_eq_true (by simpa [valP] using e)⟩, rfl⟩
theorem xor_move {a b r : Nat} : b = r ^^^ a ↔ a ^^^ b = r := by
  constructor
  · rintro rfl
    rw [Nat.xor_comm r a, ← Nat.xor_assoc, Nat.xor_self, Nat.zero_xor]
  · rintro rfl
    rw [Nat.xor_comm a b, Nat.xor_assoc, Nat.xor_self, Nat.xor_zero]
theorem mends2_mem {r N : Nat} {xs : List Nat} : xs ∈ mends2 w W r N ↔ ∃ a b, a < b ∧ b < N ∧ xs = [a, b] ∧ valP w W xs = r := by
  unfold mends2
  rw [List.mem_flatMap]
  constructor
  · rintro ⟨a, ha, hx⟩
    obtain ⟨b, hb, rfl⟩ := List.mem_map.mp hx
    rw [List.mem_filter, List.mem_range, Bool.and_eq_true, decide_eq_true_iff, decide_eq_true_iff] at hb
    exact ⟨a, b, hb.2.2, hb.1, rfl, by simpa [valP] using xor_move.mp hb.2.1⟩
  · rintro ⟨a, b, hab, hb, rfl, e⟩
    refine ⟨a, List.mem_range.mpr (by omega), List.mem_map.mpr ⟨b, List.mem_filter.mpr ⟨List.mem_range.mpr hb, ?_⟩, rfl⟩⟩
    rw [Bool.and_eq_true, decide_eq_true_iff, decide_eq_true_iff]
    exact ⟨xor_move.mpr (by simpa [valP] using e), hab⟩
theorem mends_mem {r N most : Nat} {xs : List Nat} : xs ∈ mendsL w W r N most ↔ valP w W xs = r ∧ (xs = [] ∨ (0 < most ∧ ∃ a, a < N ∧ xs = [a]) ∨ (1 < most ∧ ∃ a b, a < b ∧ b < N ∧ xs = [a, b])) := by
  unfold mendsL
  rw [List.mem_append, List.mem_append, mends0_mem (w := w) (W := W)]
  have h1 : xs ∈ (if 0 < most then mends1 w W r N else []) ↔ 0 < most ∧ ∃ a, a < N ∧ xs = [a] ∧ valP w W xs = r := by
    by_cases h : 0 < most
    · rw [if_pos h, mends1_mem]; simp [h]
    · rw [if_neg h]; simp [h]
  have h2 : xs ∈ (if 1 < most then mends2 w W r N else []) ↔ 1 < most ∧ ∃ a b, a < b ∧ b < N ∧ xs = [a, b] ∧ valP w W xs = r := by
    by_cases h : 1 < most
    · rw [if_pos h, mends2_mem]; simp [h]
    · rw [if_neg h]; simp [h]
  rw [h1, h2]
  constructor
  · rintro ((⟨a, b⟩ | ⟨a, b, c, d, e⟩) | ⟨a, b, c, d, e, f, g⟩)
    · exact ⟨b, .inl a⟩
    · exact ⟨e, .inr (.inl ⟨a, b, c, d⟩)⟩
    · exact ⟨g, .inr (.inr ⟨a, b, c, d, e, f⟩)⟩
  · rintro ⟨v, a | ⟨a, b, c, d⟩ | ⟨a, b, c, d, e, f⟩⟩
    · exact .inl (.inl ⟨a, v⟩)
    · exact .inl (.inr ⟨a, b, c, d, v⟩)
    · exact .inr ⟨a, b, c, d, e, f, v⟩
theorem mends_nodup (r N most : Nat) : (mendsL w W r N most).Nodup := by
  have n0 : (mends0 r).Nodup := by
    unfold mends0
    split <;> simp
  have n1 : (mends1 w W r N).Nodup := by
    unfold mends1
    refine List.pairwise_map.mpr ((List.nodup_range.filter _).imp fun {a b} h e => h ?_)
    cases e
    rfl
  have n2 : (mends2 w W r N).Nodup := by
    unfold mends2
    refine List.pairwise_flatMap.mpr ⟨fun a _ => List.pairwise_map.mpr ((List.nodup_range.filter _).imp fun {b c} h e => h (by cases e; rfl)), List.nodup_range.imp fun {a b} h x hx y hy e => ?_⟩
    obtain ⟨c, _, rfl⟩ := List.mem_map.mp hx
    obtain ⟨d, _, rfl⟩ := List.mem_map.mp hy
    cases e
    exact h rfl
  unfold mendsL
  have m1 : (if 0 < most then mends1 w W r N else []).Nodup := by
    by_cases h : 0 < most
    · rw [if_pos h]; exact n1
    · rw [if_neg h]; simp
  have m2 : (if 1 < most then mends2 w W r N else []).Nodup := by
    by_cases h : 1 < most
    · rw [if_pos h]; exact n2
    · rw [if_neg h]; simp
  refine List.nodup_append.mpr ⟨List.nodup_append.mpr ⟨n0, m1, fun x hx y hy e => ?_⟩, m2, fun x hx y hy e => ?_⟩
  · subst e
    have a := (mends0_mem (w := w) (W := W)).mp hx
    split at hy
    · obtain ⟨b, _, e, _⟩ := mends1_mem.mp hy
      rw [a.1] at e
      simp at e
    · simp at hy
  · subst e
    split at hy
    · obtain ⟨b, c, _, _, e, _⟩ := mends2_mem.mp hy
      rw [e] at hx
      rcases List.mem_append.mp hx with z | z
      · have a := (mends0_mem (w := w) (W := W)).mp z
        simp at a
      · split at z
        · obtain ⟨b, _, e, _⟩ := mends1_mem.mp z
          simp at e
        · simp at z
    · simp at hy
theorem nodup_one {α : Type} {l : List α} (h : l.Nodup) (u : ∀ x ∈ l, ∀ y ∈ l, x = y) : l.length ≤ 1 := by
  match l, h, u with
  | [], _, _ => simp
  | [_], _, _ => simp
  | a :: b :: r, h, u =>
    have := u a (by simp) b (by simp)
    simp [this] at h
theorem mends_few (C : Ck w W) {r N most L : Nat} (h0 : 0 < most) (h2 : most < 3) (hL : IsLongest w W (2 * most + 1) L) (hN : N ≤ L) : (mendsL w W r N most).length ≤ 1 := by
  refine nodup_one (mends_nodup ..) fun x hx y hy => ?_
  have a := mends_mem.mp hx
  have b := mends_mem.mp hy
  have c : most = 1 ∨ most = 2 := by omega
  rcases c with rfl | rfl
  · refine one_uniq C hL hN ?_ ?_ (by rw [a.1, b.1])
    · rcases a.2 with h | h | h
      · exact .inl h
      · exact .inr h.2
      · omega
    · rcases b.2 with h | h | h
      · exact .inl h
      · exact .inr h.2
      · omega
  · refine two_uniq C hL hN ?_ ?_ (by rw [a.1, b.1])
    · rcases a.2 with h | h | h
      · exact .inl h
      · exact .inr (.inl h.2)
      · exact .inr (.inr h.2)
    · rcases b.2 with h | h | h
      · exact .inl h
      · exact .inr (.inl h.2)
      · exact .inr (.inr h.2)
theorem mends_only (C : Ck w W) {r N most L : Nat} (h0 : 0 < most) (h2 : most < 3) (hL : IsLongest w W (2 * most + 1) L) (hN : N ≤ L) {xs : List Nat} (hx : xs ∈ mendsL w W r N most) : mendsL w W r N most = [xs] := by
  have h := mends_few C (r := r) h0 h2 hL hN
  generalize mendsL w W r N most = l at h hx
  match l, h, hx with
  | [a], _, hx => rw [List.mem_singleton.mp hx]
/-- the law's third loop goes from the place behind on -/
theorem behind_filter (P : Nat → Bool) (a N : Nat) : ((List.range N).filter fun b => P b && decide (a < b)) = ((List.range (N - (a + 1))).map fun k => a + 1 + k).filter P := by
  have e : List.range N = (List.range (min N (a + 1))) ++ (List.range (N - (a + 1))).map fun k => a + 1 + k := by
    rcases Nat.lt_or_ge N (a + 1) with h | h
    · rw [Nat.min_eq_left (by omega), show N - (a + 1) = 0 by omega]
      simp
    · rw [Nat.min_eq_right h]
      have := List.range_add (n := a + 1) (m := N - (a + 1))
      rw [show a + 1 + (N - (a + 1)) = N by omega] at this
      exact this
  rw [e, List.filter_append]
  have z : (List.range (min N (a + 1))).filter (fun b => P b && decide (a < b)) = [] := by
    rw [List.filter_eq_nil_iff]
    intro b hb
    rw [List.mem_range] at hb
    simp
    intro _
    omega
  rw [z, List.nil_append]
  refine List.filter_congr fun b hb => ?_
  obtain ⟨k, _, rfl⟩ := List.mem_map.mp hb
  simp
  intro _
  omega
end
end My

namespace My
open PySem PySem.Spec PyProof.Rows L2 Pre
theorem tyx_insC {K : PySem.W.Frag} {H : Hp} {a C dx : Addr} {fs : List (Str × V)} (c : C8.InsC K C) (h : H a = some (.ins C dx fs)) : TyX K H (.ref a) (.ref C) := .base (.ins h c.cl c.ha c.hn c.htk c.hm)
/-! ### numbers that are not negative -/
theorem bx (a b : Nat) : Builtin.bitXor (a : Int) (b : Int) = ((a ^^^ b : Nat) : Int) := by
  rw [Bits.bitXor_pp (by omega) (by omega)]
  rfl
theorem shrI (a k : Nat) : (a : Int) / 2 ^ ((k : Int)).toNat = ((a >>> k : Nat) : Int) := by
  rw [Int.toNat_natCast, Nat.shiftRight_eq_div_pow, Int.natCast_ediv, Int.natCast_pow]
  rfl
theorem shlI (a k : Nat) : (a : Int) * 2 ^ ((k : Int)).toNat = ((a <<< k : Nat) : Int) := by
  rw [Int.toNat_natCast, Nat.shiftLeft_eq, Int.natCast_mul, Int.natCast_pow]
  rfl
theorem and1 (n : Nat) : Builtin.bitAnd (n : Int) 1 = ((n % 2 : Nat) : Int) := by
  rw [bitAnd_m1]
  omega
theorem small1000' {n : Nat} (h : n ≤ 10000) : n < sizeLine := by rw [sizeLine_eq]; omega
theorem pow17 {w : Nat} (h : w ≤ 16) : 2 ^ w ≤ 65536 := Nat.le_trans (Nat.pow_le_pow_right (by decide) h) (by decide)
theorem seq_ne {H : Hp} {p : Addr} {o : HO} (h : H p = some o) : H p ≠ none := by rw [h]; exact fun z => nomatch z
local macro_rules | `(tactic| walk_at "go") => `(tactic| repeat (first | (with_reducible first | refine iteT ?_ | refine iteF ?_ | refine iteNtt ?_ | refine iteNff ?_ | refine iteET (by omega) ?_ | refine iteEF (by omega) ?_ | refine iteENT (by omega) ?_ | refine iteENF (by omega) ?_ | refine iteDT (by omega) ?_ | refine iteDF (by omega) ?_ | refine iteNT (by omega) ?_ | refine iteNF (by omega) ?_) | refine ⟨_, rfl, ?_⟩ | refine ⟨_, _, rfl, rfl, ?_⟩ | refine ⟨_, _, rfl, ?_⟩ | refine ⟨rfl, ?_⟩ | refine .inl ⟨_, rfl, ?_⟩ | refine .inr ⟨_, rfl, ?_⟩))
local macro_rules | `(tactic| walk_at "b") => `(tactic| try dsimp (config := { proj := false, iota := false, eta := false, zeta := false }) only)
section
variable {P : Program} {w : World} {K : PySem.W.Frag} {mg : Str → Option Value} {base : Heap}
/-! ### texts of bits -/
theorem fm_noneB {α β : Type} (l : List α) : (l.map fun _ => (none : Option β)).filterMap id = [] := by
  induction l with
  | nil => rfl
  | cons n r ih => simp
def sp_is_bits : Sp := fun vs H Q _ => ∃ bs : List Bool, vs = [.str (bS bs)] ∧ bs.length ≤ 10000 ∧ ∀ H', Same H H' → Q (.bl true) H'
theorem sign_in (b : Bool) : decide (sgn b ∈ ((("01" : String) : Str)).cps.toList) = true := by
  have e : (("01" : String) : Str).cps.toList = [48, 49] := by decide +kernel
  rw [e]
  cases b <;> decide
theorem G_is_bits (T : Top K mg) : FnOk P w K mg base CX0 1 T.f_is_bits T.fd_is_bits ["value"] sp_is_bits := by
  refine T.F_is_bits.ok sc_is_bits (fun vs H Q E h => by obtain ⟨bs, rfl, _⟩ := h; rfl) (fun cdv A outer s H vs Q E hr h => ?_)
  obtain ⟨bs, rfl, hz, q⟩ := h
  refine ⟨_, PSs.nox (pss_one (ps_ret (pe_and (pe_callB (k_isi K rfl) (by rfl) T.n_isinstance (by decide +kernel) (pa_cons (pv 0) (pa_cons (pe_bltn (v := .ty "str") (by rfl) T.n_str (by decide +kernel) rfl) pa_nil))) (pe_one (pe_cmpR (k_eqD K rfl hr.units) (pe_lc (own := [("sign", 1)]) (g := gName 1) (by rfl) sc_is_bits.nd (pi_str (pv 0)) (blkOk_by (own := [("sign", 1)]) (N := N_is_bits) (sc := defScope s_is_bits) (by decide +kernel)) (fun _ _ _ _ _ => (pg_name (i := 1) sc_is_bits.nd rfl (by first | exact Or.inl rfl | exact Or.inr rfl))) (fun _ _ _ _ _ => (pts_one (pt_cmpR op_notIn_sign (pv 1) pe_str (by rfl)))) (fun _ _ _ _ _ => (pv 1))) (pe_lst pa_nil) (nomark _)))))), ?_⟩
  refine ⟨_, rfl, _, _, _, _, true, rfl, .ty _, .base (.str _), kit_ty (by decide +kernel), true, rfl, iteT ?_⟩
  refine ⟨_, rfl, _, rfl, fun D nD => ?_⟩
  refine lc_dW walk_str (Has.nil (H := H)) ((List.range bs.length).map fun _ => none) nD (by rw [List.length_map, List.length_range, bS_size]) (by rw [bS_size]; exact small1000' hz) (fun _ _ => trivial) ?_ ?_
  · rintro i o H0 x H' hi ho s0 hS ⟨rfl, c, hc, rfl⟩ Qt qt
    obtain ⟨b, hb, ec⟩ := bS_at hc
    rw [ec]
    refine ⟨rfl, ?_⟩
    rw [List.getElem?_map] at ho
    obtain ⟨_, _, rfl⟩ := Option.map_eq_some_iff.mp ho
    refine ⟨_, rfl, sgn b, _, rfl, rfl, _, rfl, ?_⟩
    rw [sign_in]
    exact iteF (qt none _ (Same.refl _) trivial)
  · intro H' s hD hd
    rw [fm_noneB] at hd
    rw [rs_nil] at hd
    obtain ⟨a, xs, e, ha, hx⟩ := hd.listE
    cases e
    cases hx
    refine ⟨Nat.zero_le _, fun p np => ?_⟩
    refine eq_lst (ns := []) (.inl (.inl (same_upd np _ _ ha))) (.inl (.inl upd_same)) ?_
    exact q _ (s.trans (same_upd np))
def sp_check_bits : Sp := fun vs H Q _ => ∃ bs : List Bool, vs = [.str (bS bs)] ∧ bs.length ≤ 10000 ∧ ∀ H', Same H H' → Q .non H'
theorem G_check_bits (T : Top K mg) : FnOk P w K mg base CX0 2 T.f_check_bits T.fd_check_bits ["bits"] sp_check_bits := by
  refine T.F_check_bits.ok sc_check_bits (fun vs H Q E h => by obtain ⟨bs, rfl, _⟩ := h; rfl) (fun cdv A outer s H vs Q E hr h => ?_)
  obtain ⟨bs, rfl, hz, q⟩ := h
  refine ⟨_, PSs.nox (pss_one (ps_if (pt_not (pt_val (pe_call (G_is_bits T) (hr.mono (by decide)) (by rfl) T.g_is_bits T.F_is_bits.kp T.b_is_bits .nil pass0 (pa_cons (pv 0) pa_nil))))
    (pss_one ps_never)
    pss_nil)), ?_⟩
  exact ⟨_, rfl, bs, rfl, hz, fun H' s => ⟨_, rfl, iteF (q _ s)⟩⟩
def sp_bits_of : Sp := fun vs H Q _ => ∃ (n k : Nat), vs = [.int n, .int k] ∧ k ≤ 1000 ∧ ∀ H', Same H H' → Q (.str (bS (bitsB n k))) H'
theorem G_bits_of (T : Top K mg) : FnOk P w K mg base CX0 1 T.f_bits_of T.fd_bits_of ["number", "many"] sp_bits_of := by
  refine T.F_bits_of.ok sc_bits_of (fun vs H Q E h => by obtain ⟨n, k, rfl, _⟩ := h; rfl) (fun cdv A outer s H vs Q E hr h => ?_)
  obtain ⟨n, k, rfl, hk, q⟩ := h
  refine ⟨_, PSs.nox (pss_one (ps_ret (pe_join pe_str (pe_lc (own := [("at", 2)]) (g := gName 2) (tt := tYes) (by rfl) sc_bits_of.nd (pi_range1 (by rfl) T.n_range (pa_cons (pv 1) pa_nil)) (blkOk_by (own := [("at", 2)]) (N := N_bits_of) (sc := defScope s_bits_of) (by decide +kernel)) (fun _ _ _ _ _ => (pg_name (i := 2) sc_bits_of.nd rfl (by first | exact Or.inl rfl | exact Or.inr rfl))) (fun _ _ _ _ _ => pts_nil) (fun _ _ _ _ _ => (pe_ix ix_str pe_str (pe_op op_and (pe_op op_shr (pv 0) (pe_op op_sub (pe_op op_sub (pv 1) pe_int) (pv 2))) pe_int) (fun _ _ => rfl))))))), ?_⟩
  refine ⟨⟨_, rfl⟩, _, rfl, _, rfl, by omega, by omega, fun D nD => ?_⟩
  refine lc_mapR (lo := 0) (n := ((k : Int)).toNat) ((bitsB n k).map fun b => V.str (bS [b])) nD (by rw [List.length_map, bitsB_len]; rfl) (small1000' (by omega)) (fun x => rfl) ?_ ?_
  · intro i y H' hi hy s Qt qt
    rw [Int.toNat_natCast] at hi
    rw [List.getElem?_map, bitsB_get n k i hi] at hy
    cases hy
    refine ⟨_, rfl, _, rfl, _, _, rfl, rfl, _, rfl, _, _, rfl, rfl, _, _, rfl, rfl, by omega, _, _, rfl, rfl, ?_⟩
    have e1 : ((k : Int) - 1 - (0 + (i : Int))) = ((k - 1 - i : Nat) : Int) := by omega
    dsimp only
    rw [e1, shrI, and1]
    have e2 : n >>> (k - 1 - i) % 2 = (n.testBit (k - 1 - i)).toNat := by rw [Nat.toNat_testBit, Nat.shiftRight_eq_div_pow]
    rw [e2]
    have e01 : (("01" : String) : Str) = bS [false, true] := by decide +kernel
    refine ⟨_, _, sgn (n.testBit (k - 1 - i)), rfl, rfl, by rw [e01, bS_len]; decide, ?_, qt _ (Same.refl _)⟩
    rw [e01]
    exact bS_atI (by cases n.testBit (k - 1 - i) <;> rfl)
  · intro H' s hD
    refine ⟨_, D, (bitsB n k).map fun b => bS [b], rfl, rfl, .inl (.inl (.inl ?_)), ?_, ?_⟩
    · rw [hD, List.map_map]
      rfl
    · have e0 : ((("" : String) : Str)).length = 0 := by rw [str_nil]; rfl
      rw [List.map_map, e0, Nat.mul_zero]
      have : ∀ l : List Bool, (l.map ((fun z : Str => z.length) ∘ fun b => bS [b])).sum = l.length := fun l => by
        induction l with
        | nil => rfl
        | cons b r ih => rw [List.map_cons, List.sum_cons, ih, List.length_cons]; show 1 + _ = _; omega
      have hz : ((bitsB n k).map ((fun x : Str => x.length) ∘ fun b => bS [b])).sum = k := by rw [this, bitsB_len]
      exact Nat.le_trans (Nat.le_of_eq hz) (by omega)
    · rw [join_bits]
      exact q _ s
/-! ### checks -/
def sp_check_number : Sp := fun vs H Q _ => ∃ (i lo : Int) (hi : Option Int), vs = [.int i, .int lo, (match hi with | some j => .int j | none => .non)] ∧ lo ≤ i ∧ (∀ j, hi = some j → i ≤ j) ∧ Q .non H
theorem G_check_number (T : Top K mg) : FnOk P w K mg base CX0 3 T.f_check_number T.fd_check_number ["number", "low", "high"] sp_check_number := by
  refine T.F_check_number.ok sc_check_number (fun vs H Q E h => by obtain ⟨i, lo, hi, rfl, _⟩ := h; rfl) (fun cdv A outer s H vs Q E hr h => ?_)
  obtain ⟨i, lo, hi, rfl, h0, h1, q⟩ := h
  refine ⟨_, PSs.nox (pss_one (ps_if (pt_not (pt_val (pe_call (G_is_between T) (hr.mono (by decide)) (by rfl) T.g_is_between T.F_is_between.kp T.b_is_between .nil pass0 (pa_cons (pv 0) (pa_cons (pv 1) (pa_cons (pv 2) pa_nil))))))
    (pss_one ps_never)
    pss_nil)), ?_⟩
  refine ⟨_, rfl, _, rfl, _, rfl, i, lo, hi, rfl, _, rfl, ?_⟩
  rw [decide_eq_true ⟨h0, h1⟩]
  exact iteF q
/-- a check of the width wd and the sum W -/
def CheckAt (C : Addr) (H : Hp) (a : Addr) (wd W : Nat) : Prop := Ck wd W ∧ wd ≤ 16 ∧ ∃ dx, H a = some (.ins C dx [("size", .int wd), ("tail", .int (W - 2 ^ wd : Nat))])
theorem CheckAt.same {C : Addr} {H H' : Hp} {a : Addr} {wd W : Nat} (h : CheckAt C H a wd W) (s : Same H H') : CheckAt C H' a wd W := by
  obtain ⟨h1, h2, dx, h3⟩ := h
  exact ⟨h1, h2, dx, s _ _ h3⟩
theorem CheckAt.but {C g : Addr} {H H' : Hp} {a : Addr} {wd W : Nat} (h : CheckAt C H a wd W) (n : a ≠ g) (s : But g H H') : CheckAt C H' a wd W := by
  obtain ⟨h1, h2, dx, h3⟩ := h
  exact ⟨h1, h2, dx, s _ _ n h3⟩
theorem CheckAt.ne {C g : Addr} {H : Hp} {a : Addr} {wd W : Nat} {xs : List V} (h : CheckAt C H a wd W) (hg : H g = some (.lst xs)) : a ≠ g := by
  obtain ⟨h1, h2, dx, h3⟩ := h
  exact ne_of h3 hg (by intro z; cases z)
def sp_Check___init__ (C : Addr) : Sp := fun vs H Q _ => ∃ (x dx : Addr) (wd l : Nat), vs = [.ref x, .int wd, .int l] ∧ H x = some (.ins C dx []) ∧ 1 ≤ wd ∧ wd ≤ 16 ∧ l < 2 ^ wd ∧ l % 2 = 1 ∧
  ∀ H', (∀ b o, b ≠ x → H b = some o → H' b = some o) → CheckAt C H' x wd (2 ^ wd + l) → Q .non H'
theorem ck_of {wd l : Nat} (h : 1 ≤ wd) (hl : l < 2 ^ wd) (ho : l % 2 = 1) : Ck wd (2 ^ wd + l) := by
  have e : 2 ^ (wd + 1) = 2 ^ wd * 2 := Nat.pow_succ ..
  have e2 : 2 ^ wd = 2 ^ (wd - 1) * 2 := by
    rw [← Nat.pow_succ, show (wd - 1).succ = wd by omega]
  exact ⟨h, by omega, by omega, by omega⟩
theorem G_Check___init__ (T : Top K mg) : FnOk P w K mg base CX0 4 T.f_Check___init__ T.fd_Check___init__ ["self", "width", "low"] (sp_Check___init__ T.C_Check) := by
  refine T.F_Check___init__.ok sc_Check___init__ (fun vs H Q E h => by obtain ⟨x, dx, wd, l, rfl, _⟩ := h; rfl) (fun cdv A outer s H vs Q E hr h => ?_)
  obtain ⟨x, dx, wd, l, rfl, hx, h1, h2, h3, h4, q⟩ := h
  refine ⟨_, PSs.nox (pss_cons (ps_expr (pe_call (G_check_number T) (hr.mono (by decide)) (by rfl) T.g_check_number T.F_check_number.kp T.b_check_number .nil pass0 (pa_cons (pv 1) (pa_cons pe_int (pa_cons (pe_glob (v := .int 16) rfl T.m_MOST_WIDTH ⟨_, rfl⟩) pa_nil)))))
  (pss_cons (ps_expr (pe_call (G_check_number T) (hr.mono (by decide)) (by rfl) T.g_check_number T.F_check_number.kp T.b_check_number .nil pass0 (pa_cons (pv 2) (pa_cons pe_int (pa_cons (pe_op op_sub (pe_op op_shl pe_int (pv 1)) pe_int) pa_nil)))))
  (pss_cons (ps_if (pt_cmpR op_eq (pe_op op_mod (pv 2) pe_int) pe_int (nomark _))
    (pss_one ps_never)
    pss_nil)
  (pss_cons (ps_fld (pv 0) (pv 1) rfl)
  (pss_one (ps_fld (pv 0) (pv 2) rfl)))))), ?_⟩
  refine ⟨_, rfl, wd, 1, some 16, rfl, by omega, (fun j h => by cases h; omega), ?_⟩
  refine ⟨_, rfl, _, rfl, _, _, rfl, rfl, ⟨by omega, by omega, by decide⟩, _, _, rfl, rfl, l, 1, some _, rfl, by omega, (fun j h => by
    cases h
    rw [Int.one_mul, Int.toNat_natCast]
    have : ((2 ^ wd : Nat) : Int) = 2 ^ wd := by rw [Int.natCast_pow]; rfl
    omega), ?_⟩
  refine ⟨_, rfl, _, _, rfl, rfl, (by show (0 : Int) < 2; decide), rfl, _, rfl, ?_⟩
  refine iteEF (by omega) ?_
  refine ⟨_, rfl, _, rfl, x, T.C_Check, dx, [], rfl, hx, T.cl_Check, T.na_Check_size, by decide, ?_⟩
  refine ⟨_, rfl, _, rfl, x, T.C_Check, dx, _, rfl, upd_same, T.cl_Check, T.na_Check_tail, (by show 1 < 1000; decide), ?_⟩
  refine q _ (fun b o nb hb => ?_) ⟨ck_of h1 h3 h4, h2, dx, ?_⟩
  · rw [upd_ne nb, upd_ne nb]
    exact hb
  · rw [upd_same, show 2 ^ wd + l - 2 ^ wd = l by omega]
    rfl
def sp_check_check (C : Addr) : Sp := fun vs H Q _ => ∃ (a : Addr) (wd W : Nat), vs = [.ref a] ∧ CheckAt C H a wd W ∧ Q .non H
theorem G_check_check (T : Top K mg) : FnOk P w K mg base CX0 1 T.f_check_check T.fd_check_check ["check"] (sp_check_check T.C_Check) := by
  refine T.F_check_check.ok sc_check_check (fun vs H Q E h => by obtain ⟨a, wd, W, rfl, _⟩ := h; rfl) (fun cdv A outer s H vs Q E hr h => ?_)
  obtain ⟨a, wd, W, rfl, hC, q⟩ := h
  refine ⟨_, PSs.nox (pss_one (ps_if (pt_not (pt_val (pe_callB (k_isi K rfl) (by rfl) T.n_isinstance (by decide +kernel) (pa_cons (pv 0) (pa_cons (pe_glob (v := .ref T.C_Check) rfl T.gc_Check rfl) pa_nil)))))
    (pss_one ps_never)
    pss_nil)), ?_⟩
  obtain ⟨_, _, dx, ha⟩ := hC
  refine ⟨_, rfl, _, _, _, _, true, rfl, .own _, tyx_insC T.ic_Check ha, T.ic_Check.me, true, rfl, iteF ?_⟩
  exact q
def sp_sum_of (C : Addr) : Sp := fun vs H Q _ => ∃ (a : Addr) (wd W : Nat), vs = [.ref a] ∧ CheckAt C H a wd W ∧ Q (.int W) H
theorem G_sum_of (T : Top K mg) : FnOk P w K mg base CX0 1 T.f_sum_of T.fd_sum_of ["check"] (sp_sum_of T.C_Check) := by
  refine T.F_sum_of.ok sc_sum_of (fun vs H Q E h => by obtain ⟨a, wd, W, rfl, _⟩ := h; rfl) (fun cdv A outer s H vs Q E hr h => ?_)
  obtain ⟨a, wd, W, rfl, hC, q⟩ := h
  refine ⟨_, PSs.nox (pss_one (ps_ret (pe_op op_add (pe_op op_shl pe_int (pe_fld (pv 0) rfl)) (pe_fld (pv 0) rfl)))), ?_⟩
  obtain ⟨hK, hw, dx, ha⟩ := hC
  refine ⟨_, rfl, a, T.C_Check, dx, _, _, rfl, ha, T.cl_Check, T.na_Check_size, rfl, _, _, rfl, rfl, ⟨by omega, by omega, by decide⟩, _, rfl, a, T.C_Check, dx, _, _, rfl, ha, T.cl_Check, T.na_Check_tail, rfl, _, _, rfl, rfl, ?_⟩
  have e : (1 : Int) * 2 ^ ((wd : Int)).toNat + ((W - 2 ^ wd : Nat) : Int) = (W : Int) := by
    have h := hK.lo
    rw [Int.one_mul, Int.toNat_natCast]
    have : ((2 ^ wd : Nat) : Int) = 2 ^ wd := by rw [Int.natCast_pow]; rfl
    omega
  dsimp only
  rw [e]
  exact q
def sp_shifted (C : Addr) : Sp := fun vs H Q _ => ∃ (a : Addr) (wd W n : Nat), vs = [.ref a, .int n] ∧ CheckAt C H a wd W ∧ n < 2 ^ wd ∧ Q (.int (sh wd W n)) H
theorem G_shifted (T : Top K mg) : FnOk P w K mg base CX0 2 T.f_shifted T.fd_shifted ["check", "one"] (sp_shifted T.C_Check) := by
  refine T.F_shifted.ok sc_shifted (fun vs H Q E h => by obtain ⟨a, wd, W, n, rfl, _⟩ := h; rfl) (fun cdv A outer s H vs Q E hr h => ?_)
  obtain ⟨a, wd, W, n, rfl, hC, hn, q⟩ := h
  refine ⟨_, PSs.nox (pss_one (ps_ret (pe_ifExp (pt_cmpR op_eq (pe_op op_shr (pe_op op_mul (pv 1) pe_int) (pe_fld (pv 0) rfl)) pe_int (nomark _)) (pe_op op_xor (pe_op op_mul (pv 1) pe_int) (pe_call (G_sum_of T) (hr.mono (by decide)) (by rfl) T.g_sum_of T.F_sum_of.kp T.b_sum_of .nil pass0 (pa_cons (pv 0) pa_nil))) (pe_op op_mul (pv 1) pe_int)))), ?_⟩
  obtain ⟨hK, hw, dx, ha⟩ := id hC
  have h17 := pow17 hw
  have e2 : (n : Int) * 2 = ((2 * n : Nat) : Int) := by omega
  refine ⟨_, rfl, _, _, rfl, rfl, .inl ⟨by omega, by omega⟩, _, rfl, a, T.C_Check, dx, _, _, rfl, ha, T.cl_Check, T.na_Check_size, rfl, _, _, rfl, rfl, by omega, rfl, _, rfl, ?_⟩
  unfold sh red at q
  have ed : (n : Int) * 2 / 2 ^ ((wd : Int)).toNat = (((2 * n) >>> wd : Nat) : Int) := by rw [e2, shrI]
  by_cases c1 : (2 * n) >>> wd = 1
  · refine iteET (ed.trans (by rw [c1]; rfl)) ?_
    rw [if_pos c1] at q
    refine ⟨_, rfl, _, _, rfl, rfl, .inl ⟨by omega, by omega⟩, _, rfl, a, wd, W, rfl, hC, _, _, rfl, rfl, ?_⟩
    dsimp only
    rw [e2, bx]
    exact q
  · refine iteEF (fun z => c1 (by have z2 := ed.symm.trans z; omega)) ?_
    rw [if_neg c1] at q
    refine ⟨_, rfl, _, _, rfl, rfl, .inl ⟨by omega, by omega⟩, ?_⟩
    dsimp only
    rw [e2]
    exact q
theorem restB_take {wd W : Nat} {bs : List Bool} {i : Nat} {b : Bool} (h : bs[i]? = some b) : restB wd W (bs.take (i + 1)) = red wd W (2 * restB wd W (bs.take i) + b.toNat) := by
  rw [List.take_add_one, h]
  exact restB_snoc _ _
theorem bool_int (b : Bool) : (if b = true then (1 : Int) else 0) = ((b.toNat : Nat) : Int) := by cases b <;> rfl
def sp_rest_of (C : Addr) : Sp := fun vs H Q _ => ∃ (a : Addr) (wd W : Nat) (bs : List Bool), vs = [.ref a, .str (bS bs)] ∧ CheckAt C H a wd W ∧ Q (.int (restB wd W bs)) H
theorem G_rest_of (T : Top K mg) : FnOk P w K mg base CX0 2 T.f_rest_of T.fd_rest_of ["check", "bits"] (sp_rest_of T.C_Check) := by
  refine T.F_rest_of.ok sc_rest_of (fun vs H Q E h => by obtain ⟨a, wd, W, bs, rfl, _⟩ := h; rfl) (fun cdv A outer s H vs Q E hr h => ?_)
  obtain ⟨a, wd, W, bs, rfl, hC, q⟩ := h
  refine ⟨_, PSs.nox (pss_cons (ps_set (i := 2) sc_rest_of.nd rfl (by first | exact Or.inl rfl | exact Or.inr rfl) pe_int)
  (pss_cons (ps_for PassesOwn.never rfl (pi_str (pv 1)) (pg_name (i := 3) sc_rest_of.nd rfl (by first | exact Or.inl rfl | exact Or.inr rfl))
    (pss_cons (ps_set (i := 2) sc_rest_of.nd rfl (by first | exact Or.inl rfl | exact Or.inr rfl) (pe_op op_add (pe_op op_mul (pv 2) pe_int) (pe_callTy call_int1 (by rfl) T.n_int (by decide +kernel) (pa_cons (pe_cmpR op_eq (pv 3) pe_str (nomark _)) pa_nil))))
  (pss_one (ps_if (pt_cmpR op_eq (pe_op op_shr (pv 2) (pe_fld (pv 0) rfl)) pe_int (nomark _))
    (pss_one (ps_set (i := 2) sc_rest_of.nd rfl (by first | exact Or.inl rfl | exact Or.inr rfl) (pe_op op_xor (pv 2) (pe_call (G_sum_of T) (hr.mono (by decide)) (by rfl) T.g_sum_of T.F_sum_of.kp T.b_sum_of .nil pass0 (pa_cons (pv 0) pa_nil)))))
    pss_nil))))
  (pss_one (ps_ret (pv 2))))), ?_⟩
  obtain ⟨hK, hw, dx, ha⟩ := id hC
  have h17 := pow17 hw
  refine ⟨_, rfl, _, rfl, ?_⟩
  refine for_it walk_str (fun i σ H1 => ∃ v, σ = [some (.ref a), some (.str (bS bs)), some (.int (restB wd W (bs.take i))), v] ∧ H1 = H) ⟨none, rfl, rfl⟩ (fun _ _ _ _ _ => trivial) ?_ ?_
  · rintro i x σ H1 H2 hi ⟨v, rfl, rfl⟩ ⟨rfl, c, hc, rfl⟩
    obtain ⟨b, hb, ec⟩ := bS_at hc
    rw [ec]
    have hlt := restB_eq (w := wd) (W := W) (bs.take i)
    have hl2 := rem_lt hK (numB (bs.take i))
    rw [← hlt] at hl2
    generalize er : restB wd W (bs.take i) = r at hl2
    refine ⟨_, rfl, _, _, rfl, rfl, .inl ⟨by omega, by omega⟩, _, rfl, rfl, .inr ⟨_, rfl, _, _, rfl, rfl, ?_⟩⟩
    dsimp only
    rw [one_sign, bool_int]
    have e2 : (r : Int) * 2 + ((b.toNat : Nat) : Int) = ((2 * r + b.toNat : Nat) : Int) := by omega
    rw [e2]
    have en := restB_take (wd := wd) (W := W) hb
    rw [er] at en
    unfold red at en
    refine ⟨_, rfl, _, rfl, a, T.C_Check, dx, _, _, rfl, ha, T.cl_Check, T.na_Check_size, rfl, _, _, rfl, rfl, by omega, rfl, _, rfl, ?_⟩
    have ed := shrI (2 * r + b.toNat) wd
    by_cases c1 : (2 * r + b.toNat) >>> wd = 1
    · refine iteET (ed.trans (by rw [c1]; rfl)) ?_
      rw [if_pos c1] at en
      refine ⟨_, rfl, _, rfl, a, wd, W, rfl, hC, _, _, rfl, rfl, ?_⟩
      dsimp only
      rw [bx, ← en]
      exact ⟨_, rfl, rfl⟩
    · refine iteEF (fun z => c1 (by have z2 := ed.symm.trans z; omega)) ?_
      rw [if_neg c1] at en
      rw [← en]
      exact ⟨_, rfl, rfl⟩
  · rintro σ H1 ⟨v, rfl, rfl⟩
    rw [bS_size, List.take_length]
    exact ⟨_, rfl, q⟩
/-- the word of a row -/
def wordB (wd W : Nat) (bs : List Bool) : Nat := restB wd W (bs ++ List.replicate wd false)
def sp_word (C : Addr) : Sp := fun vs H Q _ => ∃ (a : Addr) (wd W : Nat) (bs : List Bool), vs = [.ref a, .str (bS bs)] ∧ CheckAt C H a wd W ∧ bs.length ≤ 1000 ∧ ∀ H', Same H H' → Q (.int (wordB wd W bs)) H'
theorem G_word (T : Top K mg) : FnOk P w K mg base CX0 3 T.f_word T.fd_word ["check", "bits"] (sp_word T.C_Check) := by
  refine T.F_word.ok sc_word (fun vs H Q E h => by obtain ⟨a, wd, W, bs, rfl, _⟩ := h; rfl) (fun cdv A outer s H vs Q E hr h => ?_)
  obtain ⟨a, wd, W, bs, rfl, hC, hl, q⟩ := h
  refine ⟨_, PSs.nox (pss_cons (ps_expr (pe_call (G_check_check T) (hr.mono (by decide)) (by rfl) T.g_check_check T.F_check_check.kp T.b_check_check .nil pass0 (pa_cons (pv 0) pa_nil)))
  (pss_cons (ps_expr (pe_call (G_check_bits T) (hr.mono (by decide)) (by rfl) T.g_check_bits T.F_check_bits.kp T.b_check_bits .nil pass0 (pa_cons (pv 1) pa_nil)))
  (pss_one (ps_ret (pe_call (G_rest_of T) (hr.mono (by decide)) (by rfl) T.g_rest_of T.F_rest_of.kp T.b_rest_of .nil pass0 (pa_cons (pv 0) (pa_cons (pe_op op_add_str (pv 1) (pe_op op_rep_str pe_str (pe_fld (pv 0) rfl))) pa_nil))))))), ?_⟩
  refine ⟨_, rfl, a, wd, W, rfl, hC, _, rfl, bs, rfl, by omega, fun H1 s1 => ?_⟩
  have hC1 := hC.same s1
  obtain ⟨hK, hw, dx, ha⟩ := id hC1
  refine ⟨_, rfl, _, rfl, _, rfl, a, T.C_Check, dx, _, _, rfl, ha, T.cl_Check, T.na_Check_size, rfl, _, wd, rfl, rfl, by rw [str_zero]; decide, by omega, ?_⟩
  rw [bS_mul]
  refine ⟨_, _, rfl, rfl, by rw [bS_len, bS_len, List.length_replicate]; exact Nat.le_of_lt (small1000' (by omega)), ?_⟩
  rw [bS_app]
  exact ⟨a, wd, W, _, rfl, hC1, q _ s1⟩
def sp_sealed (C : Addr) : Sp := fun vs H Q _ => ∃ (a : Addr) (wd W : Nat) (bs : List Bool), vs = [.ref a, .str (bS bs)] ∧ CheckAt C H a wd W ∧ bs.length ≤ 1000 ∧ ∀ H', Same H H' → Q (.str (bS (bs ++ bitsB (wordB wd W bs) wd))) H'
theorem G_sealed (T : Top K mg) : FnOk P w K mg base CX0 4 T.f_sealed T.fd_sealed ["check", "bits"] (sp_sealed T.C_Check) := by
  refine T.F_sealed.ok sc_sealed (fun vs H Q E h => by obtain ⟨a, wd, W, bs, rfl, _⟩ := h; rfl) (fun cdv A outer s H vs Q E hr h => ?_)
  obtain ⟨a, wd, W, bs, rfl, hC, hl, q⟩ := h
  refine ⟨_, PSs.nox (pss_one (ps_ret (pe_op op_add_str (pv 1) (pe_call (G_bits_of T) (hr.mono (by decide)) (by rfl) T.g_bits_of T.F_bits_of.kp T.b_bits_of .nil pass0 (pa_cons (pe_call (G_word T) (hr.mono (by decide)) (by rfl) T.g_word T.F_word.kp T.b_word .nil pass0 (pa_cons (pv 0) (pa_cons (pv 1) pa_nil))) (pa_cons (pe_fld (pv 0) rfl) pa_nil)))))), ?_⟩
  refine ⟨_, rfl, _, rfl, _, rfl, a, wd, W, bs, rfl, hC, hl, fun H1 s1 => ?_⟩
  have hC1 := hC.same s1
  obtain ⟨hK, hw, dx, ha⟩ := id hC1
  refine ⟨_, rfl, a, T.C_Check, dx, _, _, rfl, ha, T.cl_Check, T.na_Check_size, rfl, _, wd, rfl, by omega, fun H2 s2 => ?_⟩
  refine ⟨_, _, rfl, rfl, by rw [bS_len, bS_len, bitsB_len]; exact Nat.le_of_lt (small1000' (by omega)), ?_⟩
  rw [bS_app]
  exact q _ (s1.trans s2)
end
end My

namespace My
open PySem PySem.Spec PyProof.Rows L2 Pre
theorem bl_iff {n m : Nat} : Builtin.Int.intBits (n : Int) ≤ m ↔ n < 2 ^ m := by
  rw [intBits_le_iff]
  rfl
theorem bl_W {wd W : Nat} (h : Ck wd W) : Builtin.Int.intBits (W : Int) = wd + 1 := by
  have h1 := bl_iff.mpr h.hi
  have h2 : ¬ Builtin.Int.intBits (W : Int) ≤ wd := fun z => by
    have := bl_iff.mp z
    have := h.lo
    omega
  omega
theorem rest_turn {wd W l : Nat} (h : Ck wd W) (c : wd + 1 ≤ Builtin.Int.intBits (l : Int)) : l ^^^ (W <<< (Builtin.Int.intBits (l : Int) - (wd + 1))) < l ∧ rem wd W (l ^^^ (W <<< (Builtin.Int.intBits (l : Int) - (wd + 1)))) = rem wd W l := by
  refine ⟨?_, ?_⟩
  · generalize hk : Builtin.Int.intBits (l : Int) - (wd + 1) = k
    have e : Builtin.Int.intBits (l : Int) = wd + k + 1 := by omega
    have h1 : l < 2 ^ (wd + k + 1) := bl_iff.mp (by omega)
    have h2 : 2 ^ (wd + k) ≤ l := by
      have : ¬ l < 2 ^ (wd + k) := fun z => by
        have := bl_iff.mpr z
        omega
      omega
    have hl := h.lo
    have hh := h.hi
    have h3 : W <<< k < 2 ^ (wd + k + 1) := by
      rw [Nat.shiftLeft_eq, show wd + k + 1 = wd + 1 + k by omega, Nat.pow_add]
      exact Nat.mul_lt_mul_of_pos_right hh (Nat.pow_pos (by omega))
    have h4 : 2 ^ (wd + k) ≤ W <<< k := by
      rw [Nat.shiftLeft_eq, Nat.pow_add]
      exact Nat.mul_le_mul_right _ (by omega)
    exact Nat.lt_of_lt_of_le (xor_low h1 h3 h2 h4) h2
  · rw [rem_xor h, rem_shl h _ _ (rem_self h), Nat.xor_zero]
local macro_rules | `(tactic| walk_at "go") => `(tactic| repeat (first | (with_reducible first | refine iteT ?_ | refine iteF ?_ | refine iteNtt ?_ | refine iteNff ?_ | refine iteET (by omega) ?_ | refine iteEF (by omega) ?_ | refine iteENT (by omega) ?_ | refine iteENF (by omega) ?_ | refine iteDT (by omega) ?_ | refine iteDF (by omega) ?_ | refine iteNT (by omega) ?_ | refine iteNF (by omega) ?_) | refine ⟨_, rfl, ?_⟩ | refine ⟨_, _, rfl, rfl, ?_⟩ | refine ⟨_, _, rfl, ?_⟩ | refine ⟨rfl, ?_⟩ | refine .inl ⟨_, rfl, ?_⟩ | refine .inr ⟨_, rfl, ?_⟩))
local macro_rules | `(tactic| walk_at "b") => `(tactic| try dsimp (config := { proj := false, iota := false, eta := false, zeta := false }) only)
section
variable {P : Program} {w : World} {K : PySem.W.Frag} {mg : Str → Option Value} {base : Heap}
def sp_law_rest : Sp := fun vs H Q _ => ∃ (wd W n : Nat), vs = [.int W, .int n] ∧ Ck wd W ∧ wd ≤ 16 ∧ n < 2 ^ 1000 ∧ Q (.int (rem wd W n)) H
theorem G_law_rest (T : Top K mg) : FnOk P w K mg base CX0 1 T.f_law_rest T.fd_law_rest ["_law_whole", "_law_number_here"] sp_law_rest := by
  refine T.F_law_rest.ok sc_law_rest (fun vs H Q E h => by obtain ⟨wd, W, n, rfl, _⟩ := h; rfl) (fun cdv A outer s H vs Q E hr h => ?_)
  obtain ⟨wd, W, n, rfl, hK, hw, hn, q⟩ := h
  refine ⟨_, PSs.nox (pss_cons (ps_set (i := 2) sc_law_rest.nd rfl (by first | exact Or.inl rfl | exact Or.inr rfl) (pv 1))
  (pss_cons (ps_while PassesOwn.never (pt_cmpR op_ge (pe_bits (pv 2)) (pe_bits (pv 0)) (nomark _))
    (pss_one (ps_set (i := 2) sc_law_rest.nd rfl (by first | exact Or.inl rfl | exact Or.inr rfl) (pe_op op_xor (pv 2) (pe_op op_shl (pv 0) (pe_op op_sub (pe_bits (pv 2)) (pe_bits (pv 0))))))))
  (pss_one (ps_ret (pv 2))))), ?_⟩
  have h17 := pow17 (w := wd + 1 - 1) (by omega)
  have hW : W < 2 ^ 17 := by
    have := hK.hi
    have e : 2 ^ (wd + 1) = 2 ^ wd * 2 := Nat.pow_succ ..
    simp at h17
    omega
  refine ⟨_, rfl, ?_⟩
  refine ⟨fun m σ H1 => ∃ l : Nat, σ = [some (.int W), some (.int n), some (.int l)] ∧ H1 = H ∧ m = l ∧ l < 2 ^ 1000 ∧ rem wd W l = rem wd W n, ⟨n, n, rfl, rfl, rfl, hn, rfl⟩, ?_⟩
  rintro m σ H1 ⟨l, rfl, rfl, hm, hl, hr⟩
  refine ⟨_, rfl, _, rfl, _, rfl, _, rfl, _, _, rfl, rfl, _, rfl, ite2 (fun c => ?_) (fun c => ?_)⟩
  · have c1 : wd + 1 ≤ Builtin.Int.intBits (l : Int) := by
      have := of_decide_eq_true c
      rw [bl_W hK] at this
      omega
    obtain ⟨t1, t2⟩ := rest_turn hK c1
    have hb : Builtin.Int.intBits (l : Int) ≤ 1000 := bl_iff.mpr hl
    refine ⟨fun σ' H' => ∃ l' : Nat, σ' = [some (.int W), some (.int n), some (.int l')] ∧ H' = H1 ∧ l' < l ∧ l' < 2 ^ 1000 ∧ rem wd W l' = rem wd W n, fun σ' H' ⟨l', e1, e2, e3, e4, e5⟩ => ⟨l', by omega, l', e1, e2, rfl, e4, e5⟩, ?_⟩
    have ek : ((Builtin.Int.intBits (l : Int) : Nat) : Int) - ((Builtin.Int.intBits (W : Int) : Nat) : Int) = ((Builtin.Int.intBits (l : Int) - (wd + 1) : Nat) : Int) := by
      rw [bl_W hK]
      omega
    refine ⟨_, rfl, _, rfl, _, rfl, _, rfl, _, rfl, _, rfl, _, _, rfl, rfl, _, _, rfl, rfl, ⟨by omega, by omega, by omega⟩, _, _, rfl, rfl, ?_⟩
    dsimp only
    rw [ek, shlI, bx]
    exact ⟨_, rfl, rfl, t1, by omega, t2.trans hr⟩
  · have c1 : Builtin.Int.intBits (l : Int) ≤ wd := by
      have : ¬ ((Builtin.Int.intBits (l : Int) : Nat) : Int) ≥ ((Builtin.Int.intBits (W : Int) : Nat) : Int) := fun z => c (decide_eq_true z)
      rw [bl_W hK] at this
      omega
    rw [← hr, rem_small hK _ (bl_iff.mp c1)] at q
    exact ⟨_, rfl, q⟩
theorem numB_take {bs : List Bool} {i : Nat} {b : Bool} (h : bs[i]? = some b) : numB (bs.take (i + 1)) = 2 * numB (bs.take i) + b.toNat := by
  rw [List.take_add_one, h]
  exact numB_snoc _ _
def sp_law_number : Sp := fun vs H Q _ => ∃ (bs : List Bool), vs = [.str (bS bs)] ∧ Q (.int (numB bs)) H
theorem G_law_number (T : Top K mg) : FnOk P w K mg base CX0 1 T.f_law_number T.fd_law_number ["_law_bits_here"] sp_law_number := by
  refine T.F_law_number.ok sc_law_number (fun vs H Q E h => by obtain ⟨bs, rfl, _⟩ := h; rfl) (fun cdv A outer s H vs Q E hr h => ?_)
  obtain ⟨bs, rfl, q⟩ := h
  refine ⟨_, PSs.nox (pss_cons (ps_set (i := 1) sc_law_number.nd rfl (by first | exact Or.inl rfl | exact Or.inr rfl) pe_int)
  (pss_cons (ps_for PassesOwn.never rfl (pi_str (pv 0)) (pg_name (i := 2) sc_law_number.nd rfl (by first | exact Or.inl rfl | exact Or.inr rfl))
    (pss_one (ps_set (i := 1) sc_law_number.nd rfl (by first | exact Or.inl rfl | exact Or.inr rfl) (pe_op op_add (pe_op op_mul (pv 1) pe_int) (pe_callTy call_int1 (by rfl) T.n_int (by decide +kernel) (pa_cons (pe_cmpR op_eq (pv 2) pe_str (nomark _)) pa_nil))))))
  (pss_one (ps_ret (pv 1))))), ?_⟩
  refine ⟨_, rfl, _, rfl, ?_⟩
  refine for_it walk_str (fun i σ H1 => ∃ v, σ = [some (.str (bS bs)), some (.int (numB (bs.take i))), v] ∧ H1 = H) ⟨none, rfl, rfl⟩ (fun _ _ _ _ _ => trivial) ?_ ?_
  · rintro i x σ H1 H2 hi ⟨v, rfl, rfl⟩ ⟨rfl, c, hc, rfl⟩
    obtain ⟨b, hb, ec⟩ := bS_at hc
    rw [ec]
    refine ⟨_, rfl, _, _, rfl, rfl, .inr ⟨by decide, by decide⟩, _, rfl, rfl, .inr ⟨_, rfl, _, _, rfl, rfl, ?_⟩⟩
    dsimp only
    rw [one_sign, bool_int]
    have e2 : ((numB (bs.take i) : Nat) : Int) * 2 + ((b.toNat : Nat) : Int) = ((numB (bs.take (i + 1)) : Nat) : Int) := by rw [numB_take hb]; omega
    rw [e2]
    exact ⟨_, rfl, rfl⟩
  · rintro σ H1 ⟨v, rfl, rfl⟩
    rw [bS_size, List.take_length]
    exact ⟨_, rfl, q⟩
def sp_law_bits : Sp := fun vs H Q _ => ∃ (n k : Nat), vs = [.int n, .int k] ∧ k ≤ 1000 ∧ ∀ H', Same H H' → Q (.str (bS (bitsB n k))) H'
theorem G_law_bits (T : Top K mg) : FnOk P w K mg base CX0 1 T.f_law_bits T.fd_law_bits ["_law_number_here", "_law_many"] sp_law_bits := by
  refine T.F_law_bits.ok sc_law_bits (fun vs H Q E h => by obtain ⟨n, k, rfl, _⟩ := h; rfl) (fun cdv A outer s H vs Q E hr h => ?_)
  obtain ⟨n, k, rfl, hk, q⟩ := h
  refine ⟨_, PSs.nox (pss_cons (ps_set (i := 2) sc_law_bits.nd rfl (by first | exact Or.inl rfl | exact Or.inr rfl) pe_str)
  (pss_cons (ps_for PassesOwn.never rfl (pi_range1 (by rfl) T.n_range (pa_cons (pv 1) pa_nil)) (pg_name (i := 3) sc_law_bits.nd rfl (by first | exact Or.inl rfl | exact Or.inr rfl))
    (pss_one (ps_set (i := 2) sc_law_bits.nd rfl (by first | exact Or.inl rfl | exact Or.inr rfl) (pe_op op_add_str (pe_ix (k_ixL K rfl) (pe_lst (pa_cons pe_str (pa_cons pe_str pa_nil))) (pe_op op_mod (pe_op op_shr (pv 0) (pv 3)) pe_int) (fun _ _ => rfl)) (pv 2)))))
  (pss_one (ps_ret (pv 2))))), ?_⟩
  refine ⟨_, rfl, _, rfl, by omega, by omega, ?_⟩
  refine for_range (lo := 0) (n := ((k : Int)).toNat) (fun i σ H1 => ∃ v, σ = [some (.int n), some (.int k), some (.str (bS (bitsB n i))), v] ∧ Same H H1) ⟨none, ?_, Same.refl _⟩ ?_ ?_
  · show _ = [some (V.int n), some (V.int k), some (V.str (bS [])), none]
    rw [← str_nil]
    rfl
  · rintro i σ H1 hi ⟨v, rfl, s1⟩
    rw [Int.toNat_natCast] at hi
    refine ⟨(show 2 ≤ sizeLine by decide), fun p np => ?_⟩
    obtain ⟨H2, e2, s2, h2⟩ := fresh (.lst [V.str (("0" : String) : Str), V.str (("1" : String) : Str)]) np
    rw [e2]
    refine ⟨_, rfl, _, rfl, _, _, rfl, rfl, by omega, _, _, rfl, rfl, (by show (0 : Int) < 2; decide), ?_⟩
    have e1 : (n : Int) / 2 ^ (0 + (i : Int)).toNat % 2 = (((n.testBit i).toNat : Nat) : Int) := by
      rw [show (0 + (i : Int)) = (i : Int) by omega, shrI, Nat.toNat_testBit, Nat.shiftRight_eq_div_pow]
      omega
    dsimp only
    rw [e1, str_zero, str_one] at *
    refine ⟨p, _, _, .str (bS [n.testBit i]), rfl, rfl, .inl (.inl h2), ?_, ?_⟩
    · cases n.testBit i <;> rfl
    · refine ⟨_, rfl, _, _, rfl, rfl, by rw [bS_len, bS_len, bitsB_len]; exact Nat.le_of_lt (small1000' (by simp; omega)), ?_⟩
      rw [bS_app]
      exact ⟨_, rfl, s1.trans s2⟩
  · rintro σ H1 ⟨v, rfl, s1⟩
    rw [Int.toNat_natCast]
    exact ⟨_, rfl, q _ s1⟩
def sp_law_drawn : Sp := fun vs H Q _ => ∃ (g : Addr) (n wd : Nat), vs = [.ref g, .int wd] ∧ GenAt H g n ∧ n ≤ 10 ^ 12 ∧ 1 ≤ wd ∧ wd ≤ 16 ∧ ∀ (l : Nat) H', l < 2 ^ wd → l % 2 = 1 → GenAt H' g (n + 100) → But g H H' → Q (.int l) H'
theorem G_law_drawn (T : Top K mg) : FnOk P w K mg base CX0 3 T.f_law_drawn T.fd_law_drawn ["_law_generator_here", "_law_width"] sp_law_drawn := by
  refine T.F_law_drawn.ok sc_law_drawn (fun vs H Q E h => by obtain ⟨g, n, wd, rfl, _⟩ := h; rfl) (fun cdv A outer s H vs Q E hr h => ?_)
  obtain ⟨g, n, wd, rfl, hg, hn, h1, h2, q⟩ := h
  refine ⟨_, PSs.nox (pss_one (ps_ret (pe_op op_add pe_int (pe_op op_mul pe_int (pe_call (G_law_random T) (hr.mono (by decide)) (by rfl) T.g_law_random T.F_law_random.kp T.b_law_random .nil pass0 (pa_cons (pv 0) (pa_cons (pe_op op_shl pe_int (pe_op op_sub (pv 1) pe_int)) pa_nil))))))), ?_⟩
  have e2 : 2 ^ wd = 2 ^ (wd - 1) * 2 := by
    rw [← Nat.pow_succ, show (wd - 1).succ = wd by omega]
  have h17 := pow17 (w := wd) h2
  have eb : (1 : Int) * 2 ^ ((wd : Int) - 1).toNat = ((2 ^ (wd - 1) : Nat) : Int) := by
    rw [Int.one_mul, show ((wd : Int) - 1).toNat = wd - 1 by omega, Int.natCast_pow]
    rfl
  have hp : 0 < 2 ^ (wd - 1) := Nat.pow_pos (by omega)
  refine ⟨_, rfl, _, rfl, _, _, rfl, rfl, _, _, rfl, rfl, ⟨by omega, by omega, by decide⟩, g, _, n, rfl, hg, hn, ?_, ?_, ?_⟩
  · omega
  · omega
  · intro d H1 d0 d1 hg1 b1
    refine ⟨_, _, rfl, rfl, .inl ⟨by decide, by decide⟩, _, _, rfl, rfl, ?_⟩
    have e3 : 1 + 2 * d = ((1 + 2 * d.toNat : Nat) : Int) := by omega
    dsimp only
    rw [e3]
    exact q _ _ (by omega) (by omega) hg1 b1
def sp_law_row : Sp := fun vs H Q _ => ∃ (g : Addr) (n k : Nat), vs = [.ref g, .int k] ∧ GenAt H g n ∧ n ≤ 10 ^ 12 ∧ k ≤ 1000 ∧ ∀ (bs : List Bool) H', bs.length = k → GenAt H' g (n + 100) → But g H H' → Q (.str (bS bs)) H'
theorem G_law_row (T : Top K mg) : FnOk P w K mg base CX0 3 T.f_law_row T.fd_law_row ["_law_generator_here", "_law_many"] sp_law_row := by
  refine T.F_law_row.ok sc_law_row (fun vs H Q E h => by obtain ⟨g, n, k, rfl, _⟩ := h; rfl) (fun cdv A outer s H vs Q E hr h => ?_)
  obtain ⟨g, n, k, rfl, hg, hn, hk, q⟩ := h
  refine ⟨_, PSs.nox (pss_one (ps_ret (pe_call (G_law_bits T) (hr.mono (by decide)) (by rfl) T.g_law_bits T.F_law_bits.kp T.b_law_bits .nil pass0 (pa_cons (pe_call (G_law_random T) (hr.mono (by decide)) (by rfl) T.g_law_random T.F_law_random.kp T.b_law_random .nil pass0 (pa_cons (pv 0) (pa_cons (pe_op op_shl pe_int (pv 1)) pa_nil))) (pa_cons (pv 1) pa_nil))))), ?_⟩
  have eb : (1 : Int) * 2 ^ ((k : Int)).toNat = ((2 ^ k : Nat) : Int) := by
    rw [Int.one_mul, Int.toNat_natCast, Int.natCast_pow]
    rfl
  have hp : 0 < 2 ^ k := Nat.pow_pos (by omega)
  have hp2 : 2 ^ k ≤ 2 ^ 1000 := Nat.pow_le_pow_right (by decide) hk
  have hp3 : 2 ^ 1000 < 2 ^ 2900 := by decide +kernel
  have hp4 : ((2 ^ k : Nat) : Int) < 2 ^ 2900 := by
    have : ((2 ^ k : Nat) : Int) < ((2 ^ 2900 : Nat) : Int) := Int.ofNat_lt.mpr (Nat.lt_of_le_of_lt hp2 hp3)
    rw [Int.natCast_pow 2 2900] at this
    exact this
  refine ⟨_, rfl, _, rfl, _, _, rfl, rfl, ⟨by omega, by omega, by decide⟩, ?_⟩
  dsimp only
  rw [eb]
  refine ⟨g, _, n, rfl, hg, hn, ?_, hp4, ?_⟩
  · omega
  · intro d H1 d0 d1 hg1 b1
    refine ⟨_, rfl, d.toNat, k, by rw [Int.toNat_of_nonneg d0]; rfl, hk, fun H2 s2 => ?_⟩
    exact q _ _ (bitsB_len _ _) (hg1.same s2) (b1.same s2)
end
end My

namespace My
open PySem PySem.Spec PyProof.Rows L2 Pre
/-- a dict comprehension over a walk -/
theorem dc_it {J : It} {n : Nat} {G : Hp → Prop} {Y : Nat → Hp → V → Hp → Prop} (w : Walk J n G Y) {g : TG} {tt : TT} {tk tv : TE} {vs : List Nat} {σ : L2.St} {H1 : Hp} {D : Addr} {Qd : Hp → Prop} (Pv : Nat → Hp → Prop) (h0 : Pv 0 (upd H1 D (.dK []))) (hG : ∀ i H, i ≤ n → Pv i H → G H)
    (hs : ∀ i x H H', i < n → Pv i H → Y i H x H' → g x (wipe σ vs) H' fun σ2 H2 => wipe σ2 vs = wipe σ vs ∧ tt σ2 H2 fun b H3 =>
      if b = true then tk σ2 H3 fun y H4 => tv σ2 H4 fun z H5 => ∃ kvs k, y = kV k ∧ H5 D = some (.dK kvs) ∧ kvs.length < sizeLine ∧ Pv (i + 1) (upd H5 D (.dK (putK kvs k z))) else Pv (i + 1) H3) (hd : ∀ H, Pv n H → Qd H) :
    ∃ W : Nat → Nat → Hp → Prop, (∃ m, W 0 m (upd H1 D (.dK []))) ∧ ∀ i m H, W i m H →
      (J.stop i H ∧ Qd H) ∨ (J.go i H ∧ ∃ Nx : Hp → Prop, (∀ H', Nx H' → ∃ m', m' < m ∧ W (i + 1) m' H') ∧ ∀ x H', J.yld i H x H' → g x (wipe σ vs) H' fun σ2 H2 => wipe σ2 vs = wipe σ vs ∧ tt σ2 H2 fun b H3 =>
        if b = true then tk σ2 H3 fun y H4 => tv σ2 H4 fun z H5 => ∃ kvs k, y = kV k ∧ H5 D = some (.dK kvs) ∧ kvs.length < sizeLine ∧ Nx (upd H5 D (.dK (putK kvs k z))) else Nx H3) := by
  refine ⟨fun i m H => m + i = n ∧ Pv i H, ⟨n, by omega, h0⟩, ?_⟩
  rintro i m H ⟨hm, p⟩
  have q := hG i H (by omega) p
  rcases Nat.lt_or_ge i n with c | c
  · exact .inr ⟨w.goes i H c q, Pv (i + 1), fun H' p' => ⟨m - 1, by omega, by omega, p'⟩, fun x H' y => hs i x H H' c p (w.yields i H x H' c q y)⟩
  · have e : i = n := by omega
    subst e
    exact .inl ⟨w.stops H q, hd H p⟩
/-! ### powers in a list -/
def powsL (wd W d : Nat) : List Int := (List.range d).map fun i => ((pw wd W i : Nat) : Int)
theorem powsL_len (wd W d : Nat) : (powsL wd W d).length = d := by simp [powsL]
theorem powsL_at {wd W d i : Nat} (h : i < d) : (powsL wd W d)[i]? = some ((pw wd W i : Nat) : Int) := by simp [powsL, h]
theorem powsL_next (wd W d : Nat) : powsL wd W (d + 1) = powsL wd W d ++ [((pw wd W d : Nat) : Int)] := by simp [powsL, List.range_succ]
theorem powsL_atI {wd W d i : Nat} (h : i < d) : atI ((powsL wd W d).map V.int) (i : Int) = some (.int ((pw wd W i : Nat) : Int)) := atI_nat (by rw [List.getElem?_map, powsL_at h]; rfl)
/-- a dict of the first d powers' places -/
def SpotsD (wd W d : Nat) (kvs : List (Key × V)) : Prop := kvs.length ≤ d ∧ (∀ i, i < d → valV kvs (.inl ((pw wd W i : Nat) : Int)) = some (.int i)) ∧ ∀ x : Int, (∀ i, i < d → ((pw wd W i : Nat) : Int) ≠ x) → valV kvs (.inl x) = none
theorem inl_ne {a b : Int} (h : a ≠ b) : (Sum.inl a : Key) ≠ Sum.inl b := fun z => h (Sum.inl.inj z)
theorem SpotsD.next {wd W d e : Nat} {kvs : List (Key × V)} (C : Ck wd W) (O : IsOrder wd W e) (hd : d < e) (h : SpotsD wd W d kvs) : SpotsD wd W (d + 1) (putK kvs (.inl ((pw wd W d : Nat) : Int)) (.int d)) := by
  obtain ⟨h1, h2, h3⟩ := h
  refine ⟨?_, fun i hi => ?_, fun x hx => ?_⟩
  · have := length_putK kvs (.inl ((pw wd W d : Nat) : Int)) (.int d)
    omega
  · rw [valV_put]
    by_cases c : i = d
    · subst c
      rw [if_pos rfl]
    · rw [if_neg (inl_ne fun z => no2 C O (a := i) (b := d) (by omega) hd (by omega))]
      exact h2 i (by omega)
  · rw [valV_put, if_neg (inl_ne fun z => hx d (by omega) z.symm)]
    exact h3 x fun i hi => hx i (by omega)
/-- spots.get(x, 0) of it -/
theorem SpotsD.get {wd W d : Nat} {kvs : List (Key × V)} (h : SpotsD wd W d kvs) (x : Nat) : ∃ i : Nat, (valV kvs (.inl (x : Int))).getD (.int 0) = .int i ∧ ((i < d ∧ pw wd W i = x) ∨ (i = 0 ∧ ∀ j, j < d → pw wd W j ≠ x)) := by
  by_cases c : ∃ i, i < d ∧ pw wd W i = x
  · obtain ⟨i, hi, rfl⟩ := c
    exact ⟨i, by rw [h.2.1 i hi]; rfl, .inl ⟨hi, rfl⟩⟩
  · refine ⟨0, ?_, .inr ⟨rfl, fun j hj z => c ⟨j, hj, z⟩⟩⟩
    rw [h.2.2 x fun i hi z => c ⟨i, hi, by omega⟩]
    rfl
local macro_rules | `(tactic| walk_at "go") => `(tactic| repeat (first | (with_reducible first | refine iteT ?_ | refine iteF ?_ | refine iteNtt ?_ | refine iteNff ?_ | refine iteET (by omega) ?_ | refine iteEF (by omega) ?_ | refine iteENT (by omega) ?_ | refine iteENF (by omega) ?_ | refine iteDT (by omega) ?_ | refine iteDF (by omega) ?_ | refine iteNT (by omega) ?_ | refine iteNF (by omega) ?_) | refine ⟨_, rfl, ?_⟩ | refine ⟨_, _, rfl, rfl, ?_⟩ | refine ⟨_, _, rfl, ?_⟩ | refine ⟨rfl, ?_⟩ | refine .inl ⟨_, rfl, ?_⟩ | refine .inr ⟨_, rfl, ?_⟩))
local macro_rules | `(tactic| walk_at "b") => `(tactic| try dsimp (config := { proj := false, iota := false, eta := false, zeta := false }) only)
section
variable {P : Program} {w : World} {K : PySem.W.Frag} {mg : Str → Option Value} {base : Heap}
def sp_powers_of (C : Addr) : Sp := fun vs H Q _ => ∃ (a : Addr) (wd W : Nat), vs = [.ref a] ∧ CheckAt C H a wd W ∧ ∀ (d : Nat) H' p, IsOrder wd W d → d < 2 ^ wd → Same H H' → H p = none → H' p = some (.lst ((powsL wd W d).map V.int)) → Q (.ref p) H'
theorem G_powers_of (T : Top K mg) : FnOk P w K mg base CX0 3 T.f_powers_of T.fd_powers_of ["check"] (sp_powers_of T.C_Check) := by
  refine T.F_powers_of.ok sc_powers_of (fun vs H Q E h => by obtain ⟨a, wd, W, rfl, _⟩ := h; rfl) (fun cdv A outer s H vs Q E hr h => ?_)
  obtain ⟨a, wd, W, rfl, hC, q⟩ := h
  refine ⟨_, PSs.nox (pss_cons (ps_par (by rfl) sc_powers_of.nd (i := 1) (j := 2) rfl rfl (by decide) rfl rfl (pa_cons (pe_lst (pa_cons pe_int pa_nil)) (pa_cons (pe_call (G_shifted T) (hr.mono (by decide)) (by rfl) T.g_shifted T.F_shifted.kp T.b_shifted .nil pass0 (pa_cons (pv 0) (pa_cons pe_int pa_nil))) pa_nil)) (by rfl))
  (pss_cons (ps_while PassesOwn.never (pt_cmpR op_ne (pv 2) pe_int (nomark _))
    (pss_cons (ps_expr (pe_bm PySem.F.plainAttrs_list PySem.F.slot_list_append PySem.F.type_list_append mt_append (pv 1) (pa_cons (pv 2) pa_nil)))
  (pss_one (ps_set (i := 2) sc_powers_of.nd rfl (by first | exact Or.inl rfl | exact Or.inr rfl) (pe_call (G_shifted T) (hr.mono (by decide)) (by rfl) T.g_shifted T.F_shifted.kp T.b_shifted .nil pass0 (pa_cons (pv 0) (pa_cons (pv 2) pa_nil)))))))
  (pss_one (ps_ret (pv 1))))), ?_⟩
  obtain ⟨hK, hw, dx, ha⟩ := id hC
  have h17 := pow17 hw
  obtain ⟨d, hO, hd⟩ := order_ex hK
  refine ⟨(show 1 ≤ sizeLine by decide), fun p np => ?_⟩
  obtain ⟨H1, e1, s1, h1⟩ := fresh (.lst [V.int 1]) np
  rw [e1]
  have p1 : pw wd W 1 = sh wd W 1 := by rw [pw_succ, pw_zero hK]
  have one_lt : 1 < 2 ^ wd := by
    have := pw_lt hK 0
    rwa [pw_zero hK] at this
  refine ⟨_, rfl, a, wd, W, 1, rfl, hC.same s1, one_lt, ?_⟩
  rw [← p1]
  refine ⟨_, _, rfl, ?_⟩
  refine ⟨fun m σ H2 => ∃ i : Nat, σ = [some (.ref a), some (.ref p), some (.int (pw wd W i))] ∧ m + i = d ∧ 1 ≤ i ∧ Same H H2 ∧ H2 p = some (.lst ((powsL wd W i).map V.int)), ⟨d - 1, 1, rfl, by have := hO.pos; omega, Nat.le_refl _, s1, ?_⟩, ?_⟩
  · rw [h1]
    show _ = some (HO.lst [V.int ((pw wd W 0 : Nat) : Int)])
    rw [pw_zero hK]
    rfl
  rintro m σ H2 ⟨i, rfl, hm, hi, s2, h2⟩
  by_cases c : pw wd W i = 1
  · refine ⟨_, rfl, rfl, _, rfl, iteENF (by rw [c]; rfl) ?_⟩
    have ei : i = d := by
      by_cases z : i < d
      · exact absurd c (hO.ne i (by omega) z)
      · omega
    subst ei
    exact ⟨_, rfl, q i _ p hO hd s2 np h2⟩
  · refine ⟨_, rfl, rfl, _, rfl, iteENT (fun z => c (by omega)) ?_⟩
    have li : i < d := by
      by_cases z : i < d
      · exact z
      · have : i = d := by omega
        subst this
        exact absurd hO.at_ c
    refine ⟨fun σ' H' => ∃ i' : Nat, σ' = [some (.ref a), some (.ref p), some (.int (pw wd W i'))] ∧ i' = i + 1 ∧ Same H H' ∧ H' p = some (.lst ((powsL wd W i').map V.int)), fun σ' H' ⟨i', e1, e2, e3, e4⟩ => ⟨m - 1, by omega, i', e1, by omega, by omega, e3, e4⟩, ?_⟩
    refine ⟨_, rfl, .inl ⟨rfl, _, .inl (.inl h2)⟩, _, rfl, p, _, _, rfl, rfl, h2, by rw [List.length_map, powsL_len]; exact Nat.lt_of_lt_of_le (show i < 65536 by omega) (by decide), ?_⟩
    have s3 : Same H (upd H2 p (.lst ((powsL wd W i).map V.int ++ [V.int (pw wd W i)]))) := same_over np s2
    refine ⟨_, rfl, _, rfl, a, wd, W, pw wd W i, rfl, hC.same s3, pw_lt hK i, ?_⟩
    rw [← pw_succ]
    refine ⟨i + 1, rfl, rfl, s3, ?_⟩
    rw [upd_same, powsL_next, List.map_append]
    rfl
def sp_spots_of (K : PySem.W.Frag) : Sp := fun vs H Q _ => ∃ (a : Addr) (wd W d : Nat), vs = [.ref a] ∧ SqL K H a ((powsL wd W d).map V.int) ∧ Ck wd W ∧ IsOrder wd W d ∧ d ≤ 2048 ∧ ∀ H' p kvs, Same H H' → H p = none → H' p = some (.dK kvs) → SpotsD wd W d kvs → Q (.ref p) H'
theorem G_spots_of (T : Top K mg) : FnOk P w K mg base CX0 1 T.f_spots_of T.fd_spots_of ["powers"] (sp_spots_of K) := by
  refine T.F_spots_of.ok sc_spots_of (fun vs H Q E h => by obtain ⟨a, wd, W, d, rfl, _⟩ := h; rfl) (fun cdv A outer s H vs Q E hr h => ?_)
  obtain ⟨a, wd, W, d, rfl, hA, hK, hO, hd, q⟩ := h
  refine ⟨_, PSs.nox (pss_one (ps_ret (pe_dc (own := [("place", 1), ("value", 2)]) (g := gTup K 2 (gCons (gName 1) (gCons (gName 2) (gNil)))) (tt := tYes) rfl sc_spots_of.nd (k_piE K rfl (by rfl) T.n_enumerate (pa_cons (pv 0) pa_nil)) (blkOk_by (own := [("place", 1), ("value", 2)]) (N := N_spots_of) (sc := defScope s_spots_of) (by decide +kernel)) (fun _ _ _ _ _ => (k_pgT K rfl (by rfl) (pgs_cons (pg_name (i := 1) sc_spots_of.nd rfl (by first | exact Or.inl rfl | exact Or.inr rfl)) (pgs_cons (pg_name (i := 2) sc_spots_of.nd rfl (by first | exact Or.inl rfl | exact Or.inr rfl)) pgs_nil)))) (fun _ _ _ _ _ => pts_nil) (fun _ _ _ _ _ => (pv 2)) (fun _ _ _ _ _ => (pv 1))))), ?_⟩
  have hl : ((powsL wd W d).map V.int).length = d := by rw [List.length_map, powsL_len]
  refine ⟨_, rfl, a, _, rfl, hA, fun D nD => ?_⟩
  refine dc_it (walk_enum (K := K) (a := a) (xs := (powsL wd W d).map V.int)) (fun i H1 => Same H H1 ∧ ∃ kvs, H1 D = some (.dK kvs) ∧ SpotsD wd W i kvs) ⟨same_upd nD, [], upd_same, Nat.le_refl _, fun i hi => absurd hi (by omega), fun x _ => rfl⟩ (fun i H1 _ p => p.1.seq hA) ?_ ?_
  · rintro i x H1 H2 hi ⟨s1, kvs, h1, hS⟩ ⟨t, y, z, rfl, nt, rfl, ey, ez⟩
    cases ey
    rw [hl] at hi
    dsimp only at ez
    rw [List.getElem?_map, powsL_at hi] at ez
    cases ez
    refine ⟨t, _, rfl, .inl (.inl upd_same), rfl, _, _, rfl, _, _, rfl, rfl, rfl, ?_⟩
    unfold tYes
    dsimp only
    rw [if_pos (show true = true from rfl)]
    refine ⟨_, rfl, _, rfl, kvs, .inl _, rfl, same_upd nt _ _ h1, Nat.lt_of_le_of_lt hS.1 (small1000' (by omega)), ?_⟩
    refine ⟨same_over nD (s1.trans (same_upd nt)), _, upd_same, hS.next hK hO hi⟩
  · rintro H1 ⟨s1, kvs, h1, hS⟩
    rw [hl] at hS
    exact q _ D kvs s1 nD h1 hS
def sp_least_of_three (K : PySem.W.Frag) : Sp := fun vs H Q _ => ∃ (a b : Addr) (wd W d : Nat) (kvs : List (Key × V)), vs = [.ref a, .ref b] ∧ SqL K H a ((powsL wd W d).map V.int) ∧ H b = some (.dK kvs) ∧ SpotsD wd W d kvs ∧ ∀ (t : Nat) H', Same H H' → IsFirst (Three wd W) d t → Q (.int t) H'
theorem G_least_of_three (T : Top K mg) : FnOk P w K mg base CX0 1 T.f_least_of_three T.fd_least_of_three ["powers", "spots"] (sp_least_of_three K) := by
  refine T.F_least_of_three.ok sc_least_of_three (fun vs H Q E h => by obtain ⟨a, b, wd, W, d, kvs, rfl, _⟩ := h; rfl) (fun cdv A outer s H vs Q E hr h => ?_)
  obtain ⟨a, b, wd, W, d, kvs, rfl, hA, hB, hS, q⟩ := h
  refine ⟨_, PSs.nox (pss_cons (ps_for PassesOwn.never rfl (k_piE K rfl (by rfl) T.n_enumerate (pa_cons (pv 0) pa_nil)) (k_pgT K rfl (by rfl) (pgs_cons (pg_name (i := 2) sc_least_of_three.nd rfl (by first | exact Or.inl rfl | exact Or.inr rfl)) (pgs_cons (pg_name (i := 3) sc_least_of_three.nd rfl (by first | exact Or.inl rfl | exact Or.inr rfl)) pgs_nil)))
    (pss_one (ps_if (pt_chain op_lt op_lt pe_int (pe_dget2 (hu_of hr) (pv 1) (pe_op op_xor (pv 3) pe_int) pe_int ⟨by rfl, by rfl, by rfl, by rfl⟩) (pv 2))
    (pss_one (ps_ret (pv 2)))
    pss_nil)))
  (pss_one (ps_ret (pe_callB (k_len K rfl) (by rfl) T.n_len (by decide +kernel) (pa_cons (pv 0) pa_nil))))), ?_⟩
  have hl : ((powsL wd W d).map V.int).length = d := by rw [List.length_map, powsL_len]
  refine ⟨_, rfl, a, _, rfl, hA, ?_⟩
  refine for_it (walk_enum (K := K) (a := a) (xs := (powsL wd W d).map V.int)) (fun i σ H1 => ∃ v2 v3, σ = [some (.ref a), some (.ref b), v2, v3] ∧ Same H H1 ∧ ∀ p, p < i → ¬ Three wd W p) ⟨none, none, rfl, Same.refl _, fun p hp => absurd hp (by omega)⟩ (fun i σ H1 _ ⟨_, _, _, s, _⟩ => s.seq hA) ?_ ?_
  · rintro i x σ H1 H2 hi ⟨v2, v3, rfl, s1, hT⟩ ⟨t, y, z, rfl, nt, rfl, ey, ez⟩
    cases ey
    rw [hl] at hi
    dsimp only at ez
    rw [List.getElem?_map, powsL_at hi] at ez
    cases ez
    have s2 := s1.trans (same_upd (o := .tup [V.int (i : Nat), .int (pw wd W i : Nat)]) nt)
    have hb2 := s2 _ _ hB
    refine ⟨t, _, rfl, .inl (.inl upd_same), rfl, _, _, rfl, _, _, rfl, rfl, ?_⟩
    obtain ⟨j, ej, hj⟩ := hS.get (pw wd W i ^^^ 1)
    refine ⟨_, rfl, b, rfl, .inl ⟨kvs, .inl hb2⟩, _, rfl, _, _, rfl, rfl, ?_⟩
    have eb := bx (pw wd W i) 1
    refine ⟨_, DGet.k (k := .inl (Builtin.bitXor ((pw wd W i : Nat) : Int) 1)) hb2, ?_⟩
    have eb' : Builtin.bitXor ((pw wd W i : Nat) : Int) 1 = ((pw wd W i ^^^ 1 : Nat) : Int) := eb
    rw [eb', ej]
    refine ⟨_, _, rfl, rfl, _, rfl, ?_⟩
    have three_iff : Three wd W i ↔ 0 < j ∧ j < i := by
      constructor
      · rintro ⟨q, q0, q1, q2⟩
        rcases hj with ⟨h1, h2⟩ | ⟨h1, h2⟩
        · have a1 := hS.2.1 q (by omega)
          have a2 := hS.2.1 j h1
          rw [q2, ← h2] at a1
          have e := V.int.inj (Option.some.inj (a1.symm.trans a2))
          omega
        · exact absurd q2 (h2 q (by omega))
      · rintro ⟨h0, h1⟩
        rcases hj with ⟨h2, h3⟩ | ⟨h2, h3⟩
        · exact ⟨j, h0, h1, h3⟩
        · omega
    refine ite2 (fun c => ?_) (fun c => ?_)
    · have c1 := of_decide_eq_true c
      refine ⟨_, rfl, _, _, rfl, rfl, _, rfl, ite2 (fun e => ?_) (fun e => ?_)⟩
      · have e1 := of_decide_eq_true e
        refine ⟨_, rfl, q i _ s2 ⟨by omega, hT, fun _ => three_iff.mpr ⟨by omega, by omega⟩⟩⟩
      · have e1 : ¬ (j : Int) < (i : Int) := fun z => e (decide_eq_true z)
        refine ⟨_, _, rfl, s2, fun p hp => ?_⟩
        by_cases z : p < i
        · exact hT p z
        · have : p = i := by omega
          subst this
          intro z2
          have := three_iff.mp z2
          omega
    · have c1 : ¬ (0 : Int) < (j : Int) := fun z => c (decide_eq_true z)
      refine ⟨_, rfl, iteF ?_⟩
      refine ⟨_, _, rfl, s2, fun p hp => ?_⟩
      by_cases z : p < i
      · exact hT p z
      · have : p = i := by omega
        subst this
        intro z2
        have := three_iff.mp z2
        omega
  · rintro σ H1 ⟨v2, v3, rfl, s1, hT⟩
    rw [hl] at hT
    refine ⟨_, rfl, a, _, rfl, .inl (s1.seq hA), ?_⟩
    rw [hl]
    exact q d _ s1 ⟨Nat.le_refl _, hT, fun z => absurd z (by omega)⟩
end
end My

namespace My
open PySem PySem.Spec PyProof.Rows L2 Pre
/-- a dict of the sums of two places below p, and of p with those below j -/
def PairsD (wd W p j : Nat) (kvs : List (Key × V)) : Prop := ∀ x : Nat, (valV kvs (.inl (x : Int))).isSome = true ↔ (∃ o q, 0 < o ∧ o < q ∧ q < p ∧ pw wd W o ^^^ pw wd W q = x) ∨ ∃ o, 0 < o ∧ o < j ∧ pw wd W o ^^^ pw wd W p = x
theorem PairsD.put {wd W p j : Nat} {kvs : List (Key × V)} (h0 : 0 < j) (h : PairsD wd W p j kvs) : PairsD wd W p (j + 1) (putK kvs (.inl ((pw wd W j ^^^ pw wd W p : Nat) : Int)) (.bl true)) := fun x => by
  rw [valV_put]
  by_cases c : (x : Int) = ((pw wd W j ^^^ pw wd W p : Nat) : Int)
  · rw [c, if_pos rfl]
    refine ⟨fun _ => .inr ⟨j, h0, by omega, by omega⟩, fun _ => rfl⟩
  · rw [if_neg (fun z => c (Sum.inl.inj z)), h x]
    constructor
    · rintro (z | ⟨o, h1, h2, h3⟩)
      · exact .inl z
      · exact .inr ⟨o, h1, by omega, h3⟩
    · rintro (z | ⟨o, h1, h2, h3⟩)
      · exact .inl z
      · by_cases e : o = j
        · subst e
          omega
        · exact .inr ⟨o, h1, by omega, h3⟩
theorem PairsD.next {wd W p : Nat} {kvs : List (Key × V)} (h0 : 0 < p) (h : PairsD wd W p p kvs) : PairsD wd W (p + 1) 1 kvs := fun x => by
  rw [h x]
  constructor
  · rintro (⟨o, q, h1, h2, h3, h4⟩ | ⟨o, h1, h2, h3⟩)
    · exact .inl ⟨o, q, h1, h2, by omega, h4⟩
    · exact .inl ⟨o, p, h1, h2, by omega, h3⟩
  · rintro (⟨o, q, h1, h2, h3, h4⟩ | ⟨o, h1, h2, h3⟩)
    · by_cases e : q = p
      · subst e
        exact .inr ⟨o, h1, h2, h4⟩
      · exact .inl ⟨o, q, h1, h2, by omega, h4⟩
    · omega
theorem PairsD.none {wd W : Nat} : PairsD wd W 1 1 [] := fun x => by
  constructor
  · intro h
    cases h
  · rintro (⟨o, q, h1, h2, h3, h4⟩ | ⟨o, h1, h2, h3⟩) <;> omega
theorem PairsD.four {wd W p : Nat} {kvs : List (Key × V)} (h : PairsD wd W p 1 kvs) : (valV kvs (.inl ((pw wd W p ^^^ 1 : Nat) : Int))).isSome = true ↔ Four wd W p := by
  rw [h]
  constructor
  · rintro (z | ⟨o, h1, h2, h3⟩)
    · exact z
    · omega
  · exact fun z => .inl z
local macro_rules | `(tactic| walk_at "go") => `(tactic| repeat (first | (with_reducible first | refine iteT ?_ | refine iteF ?_ | refine iteNtt ?_ | refine iteNff ?_ | refine iteET (by omega) ?_ | refine iteEF (by omega) ?_ | refine iteENT (by omega) ?_ | refine iteENF (by omega) ?_ | refine iteDT (by omega) ?_ | refine iteDF (by omega) ?_ | refine iteNT (by omega) ?_ | refine iteNF (by omega) ?_) | refine ⟨_, rfl, ?_⟩ | refine ⟨_, _, rfl, rfl, ?_⟩ | refine ⟨_, _, rfl, ?_⟩ | refine ⟨rfl, ?_⟩ | refine .inl ⟨_, rfl, ?_⟩ | refine .inr ⟨_, rfl, ?_⟩))
local macro_rules | `(tactic| walk_at "b") => `(tactic| try dsimp (config := { proj := false, iota := false, eta := false, zeta := false }) only)
section
variable {P : Program} {w : World} {K : PySem.W.Frag} {mg : Str → Option Value} {base : Heap}
def sp_least_of_four (K : PySem.W.Frag) : Sp := fun vs H Q _ => ∃ (a : Addr) (wd W d m : Nat), vs = [.ref a, .int m] ∧ SqL K H a ((powsL wd W d).map V.int) ∧ m ≤ d ∧ 1 ≤ m ∧ d ≤ 2048 ∧ ∀ (t : Nat) H', Same H H' → IsFirst (Four wd W) m t → Q (.int t) H'
theorem G_least_of_four (T : Top K mg) : FnOk P w K mg base CX0 1 T.f_least_of_four T.fd_least_of_four ["powers", "most"] (sp_least_of_four K) := by
  refine T.F_least_of_four.ok sc_least_of_four (fun vs H Q E h => by obtain ⟨a, wd, W, d, m, rfl, _⟩ := h; rfl) (fun cdv A outer s H vs Q E hr h => ?_)
  obtain ⟨a, wd, W, d, m, rfl, hA, hm, hm1, hd, q⟩ := h
  refine ⟨_, PSs.nox (pss_cons (ps_set (i := 2) sc_least_of_four.nd rfl (by first | exact Or.inl rfl | exact Or.inr rfl) pe_dnewK)
  (pss_cons (ps_for PassesOwn.never rfl (pi_range2 (by rfl) T.n_range (pa_cons pe_int (pa_cons (pv 1) pa_nil))) (pg_name (i := 3) sc_least_of_four.nd rfl (by first | exact Or.inl rfl | exact Or.inr rfl))
    (pss_cons (ps_if (pt_cmp (pc_din (hu_of hr) (pe_op op_xor (pe_ix (k_ixL K rfl) (pv 0) (pv 3) (fun _ _ => rfl)) pe_int) (pv 2)))
    (pss_one (ps_ret (pv 3)))
    pss_nil)
  (pss_one (ps_for PassesOwn.never rfl (pi_range2 (by rfl) T.n_range (pa_cons pe_int (pa_cons (pv 3) pa_nil))) (pg_name (i := 4) sc_least_of_four.nd rfl (by first | exact Or.inl rfl | exact Or.inr rfl))
    (pss_one (ps_dput (hu_of hr) (pv 2) (pe_op op_xor (pe_ix (k_ixL K rfl) (pv 0) (pv 4) (fun _ _ => rfl)) (pe_ix (k_ixL K rfl) (pv 0) (pv 3) (fun _ _ => rfl))) pe_bl rfl))))))
  (pss_one (ps_ret (pv 1))))), ?_⟩
  refine fun D nD => ?_
  obtain ⟨H1, e1, s1, h1⟩ := fresh (.dK []) nD
  rw [e1]
  refine ⟨_, rfl, 1, m, rfl, ⟨by omega, by omega, by omega, by omega⟩, ?_⟩
  have four0 : ¬ Four wd W 0 := fun ⟨o, q, a1, a2, a3, _⟩ => by omega
  refine for_range (lo := 1) (n := ((m : Int) - 1).toNat) (fun i σ H2 => ∃ v3 v4 kvs, σ = [some (.ref a), some (.int m), some (.ref D), v3, v4] ∧ Same H H2 ∧ H2 D = some (.dK kvs) ∧ kvs.length ≤ 2048 * i ∧ PairsD wd W (i + 1) 1 kvs ∧ ∀ p, p < i + 1 → ¬ Four wd W p) ⟨none, none, [], rfl, s1, h1, by simp, PairsD.none, fun p hp => by rw [show p = 0 by omega]; exact four0⟩ ?_ ?_
  · rintro i σ H2 hi ⟨v3, v4, kvs, rfl, s2, h2, hk, hP, hF⟩
    have hi1 : i + 1 < m := by omega
    have ei : 1 + (i : Int) = ((i + 1 : Nat) : Int) := by omega
    have hA2 := s2.seq hA
    rw [ei]
    have eb : Builtin.bitXor ((pw wd W (i + 1) : Nat) : Int) 1 = ((pw wd W (i + 1) ^^^ 1 : Nat) : Int) := bx (pw wd W (i + 1)) 1
    have hg : DGet H2 D (V.int (Builtin.bitXor ((pw wd W (i + 1) : Nat) : Int) 1)) (valV kvs (.inl ((pw wd W (i + 1) ^^^ 1 : Nat) : Int))) := by
      rw [eb]
      exact DGet.k (k := .inl ((pw wd W (i + 1) ^^^ 1 : Nat) : Int)) h2
    refine ⟨_, rfl, _, rfl, a, _, _, _, rfl, rfl, hA2, powsL_atI (i := i + 1) (by omega), _, _, rfl, rfl, _, rfl, D, _, rfl, hg, _, rfl, ?_⟩
    refine ite2 (fun c => ?_) (fun c => ?_)
    · refine ⟨_, rfl, q (i + 1) _ s2 ⟨by omega, hF, fun _ => hP.four.mp c⟩⟩
    · have c1 : ¬ Four wd W (i + 1) := fun z => c (hP.four.mpr z)
      refine ⟨_, rfl, 1, ((i + 1 : Nat) : Int), rfl, ⟨by omega, by omega, by omega, by omega⟩, ?_⟩
      refine for_range (lo := 1) (n := (((i + 1 : Nat) : Int) - 1).toNat) (fun j σ H3 => ∃ v4 kvs, σ = [some (.ref a), some (.int m), some (.ref D), some (.int (i + 1 : Nat)), v4] ∧ Same H H3 ∧ H3 D = some (.dK kvs) ∧ kvs.length ≤ 2048 * i + j ∧ PairsD wd W (i + 1) (j + 1) kvs) ⟨v4, kvs, rfl, s2, h2, by omega, hP⟩ ?_ ?_
      · rintro j σ H3 hj ⟨v4, kvs, rfl, s3, h3, hk3, hP3⟩
        have hj1 : j < i := by omega
        have ej : 1 + (j : Int) = ((j + 1 : Nat) : Int) := by omega
        have hA3 := s3.seq hA
        rw [ej]
        have hg : DPut H3 D (V.int (Builtin.bitXor ((pw wd W (j + 1) : Nat) : Int) ((pw wd W (i + 1) : Nat) : Int))) (.bl true) (upd H3 D (.dK (putK kvs (.inl ((pw wd W (j + 1) ^^^ pw wd W (i + 1) : Nat) : Int)) (.bl true)))) := by
          rw [bx]
          exact DPut.k (k := .inl ((pw wd W (j + 1) ^^^ pw wd W (i + 1) : Nat) : Int)) h3 (by rw [sizeLine_eq]; omega)
        refine ⟨_, rfl, _, rfl, _, rfl, a, _, _, _, rfl, rfl, hA3, powsL_atI (i := j + 1) (by omega), _, rfl, _, rfl, a, _, _, _, rfl, rfl, hA3, powsL_atI (i := i + 1) (by omega), _, _, rfl, rfl, D, _, rfl, hg, ?_⟩
        refine ⟨_, _, rfl, same_over nD s3, upd_same, ?_, hP3.put (by omega)⟩
        have := length_putK kvs (.inl ((pw wd W (j + 1) ^^^ pw wd W (i + 1) : Nat) : Int)) (.bl true)
        omega
      · rintro σ H3 ⟨v4, kvs, rfl, s3, h3, hk3, hP3⟩
        refine ⟨_, _, kvs, rfl, s3, h3, by omega, ?_, fun p hp => ?_⟩
        · rw [show (((i + 1 : Nat) : Int) - 1).toNat + 1 = i + 1 by omega] at hP3
          exact hP3.next (by omega)
        · by_cases z : p < i + 1
          · exact hF p z
          · rw [show p = i + 1 by omega]
            exact c1
  · rintro σ H2 ⟨v3, v4, kvs, rfl, s2, h2, hk, hP, hF⟩
    refine ⟨_, rfl, q m _ s2 ⟨Nat.le_refl _, fun p hp => hF p (by omega), fun z => absurd z (by omega)⟩⟩
def sp_longest_of (K : PySem.W.Frag) : Sp := fun vs H Q _ => ∃ (a : Addr) (wd W d few : Nat), vs = [.ref a, .int few] ∧ SqL K H a ((powsL wd W d).map V.int) ∧ Ck wd W ∧ IsOrder wd W d ∧ d ≤ 2048 ∧ 3 ≤ few ∧ few ≤ 5 ∧ ∀ (t : Nat) H', Same H H' → IsLongest wd W few t → Q (.int t) H'
theorem G_longest_of (T : Top K mg) : FnOk P w K mg base CX0 2 T.f_longest_of T.fd_longest_of ["powers", "few"] (sp_longest_of K) := by
  refine T.F_longest_of.ok sc_longest_of (fun vs H Q E h => by obtain ⟨a, wd, W, d, few, rfl, _⟩ := h; rfl) (fun cdv A outer s H vs Q E hr h => ?_)
  obtain ⟨a, wd, W, d, few, rfl, hA, hK, hO, hd, hf3, hf5, q⟩ := h
  refine ⟨_, PSs.nox (pss_cons (ps_set (i := 2) sc_longest_of.nd rfl (by first | exact Or.inl rfl | exact Or.inr rfl) (pe_callB (k_len K rfl) (by rfl) T.n_len (by decide +kernel) (pa_cons (pv 0) pa_nil)))
  (pss_cons (ps_if (pt_cmpR op_gt (pv 1) pe_int (nomark _))
    (pss_one (ps_set (i := 2) sc_longest_of.nd rfl (by first | exact Or.inl rfl | exact Or.inr rfl) (pe_callB (call_min2 rfl) (by rfl) T.n_min (by decide +kernel) (pa_cons (pv 2) (pa_cons (pe_call (G_least_of_three T) (hr.mono (by decide)) (by rfl) T.g_least_of_three T.F_least_of_three.kp T.b_least_of_three .nil pass0 (pa_cons (pv 0) (pa_cons (pe_call (G_spots_of T) (hr.mono (by decide)) (by rfl) T.g_spots_of T.F_spots_of.kp T.b_spots_of .nil pass0 (pa_cons (pv 0) pa_nil)) pa_nil))) pa_nil)))))
    pss_nil)
  (pss_one (ps_ret (pe_ifExp (pt_cmpR op_gt (pv 1) pe_int (nomark _)) (pe_call (G_least_of_four T) (hr.mono (by decide)) (by rfl) T.g_least_of_four T.F_least_of_four.kp T.b_least_of_four .nil pass0 (pa_cons (pv 0) (pa_cons (pv 2) pa_nil))) (pv 2)))))), ?_⟩
  have hl : ((powsL wd W d).map V.int).length = d := by rw [List.length_map, powsL_len]
  refine ⟨_, rfl, a, _, rfl, .inl hA, ?_⟩
  rw [hl]
  by_cases c3 : few = 3
  · subst c3
    refine ⟨_, rfl, _, _, rfl, rfl, _, rfl, iteDF (by omega) ?_⟩
    refine ⟨_, rfl, _, _, rfl, rfl, _, rfl, iteDF (by omega) ?_⟩
    exact ⟨_, rfl, q d _ (Same.refl _) (.inl ⟨rfl, hO⟩)⟩
  · refine ⟨_, rfl, _, _, rfl, rfl, _, rfl, iteDT (by omega) ?_⟩
    refine ⟨_, rfl, _, rfl, _, rfl, a, wd, W, d, rfl, hA, hK, hO, hd, fun H1 p kvs s1 np h1 hS => ?_⟩
    refine ⟨a, p, wd, W, d, kvs, rfl, s1.seq hA, h1, hS, fun t H2 s2 hT => ?_⟩
    have s12 := s1.trans s2
    refine ⟨_, _, rfl, ?_⟩
    have em : (if (t : Int) < (d : Int) then (t : Int) else (d : Int)) = (t : Int) := by have := hT.le; omega
    rw [em]
    by_cases c4 : few = 4
    · subst c4
      refine ⟨_, rfl, _, _, rfl, rfl, _, rfl, iteDF (by omega) ?_⟩
      exact ⟨_, rfl, q t _ s12 (.inr (.inl ⟨rfl, d, hO, hT⟩))⟩
    · have c5 : few = 5 := by omega
      subst c5
      refine ⟨_, rfl, _, _, rfl, rfl, _, rfl, iteDT (by omega) ?_⟩
      have t1 : 1 ≤ t := by
        by_cases z : t = 0
        · subst z
          obtain ⟨x, x0, x1, _⟩ := hT.at_ (by have := hO.pos; omega)
          omega
        · omega
      refine ⟨_, rfl, _, rfl, a, wd, W, d, t, rfl, s12.seq hA, hT.le, t1, hd, fun u H3 s3 hU => ?_⟩
      exact q u _ (s12.trans s3) (.inr (.inr ⟨rfl, d, t, hO, hT, hU⟩))
def sp_longest (C : Addr) : Sp := fun vs H Q _ => ∃ (a : Addr) (wd W few : Nat), vs = [.ref a, .int few] ∧ CheckAt C H a wd W ∧ (∀ d, IsOrder wd W d → d ≤ 2048) ∧ 3 ≤ few ∧ few ≤ 5 ∧ ∀ (t : Nat) H', Same H H' → IsLongest wd W few t → Q (.int t) H'
theorem G_longest (T : Top K mg) : FnOk P w K mg base CX0 4 T.f_longest T.fd_longest ["check", "few"] (sp_longest T.C_Check) := by
  refine T.F_longest.ok sc_longest (fun vs H Q E h => by obtain ⟨a, wd, W, few, rfl, _⟩ := h; rfl) (fun cdv A outer s H vs Q E hr h => ?_)
  obtain ⟨a, wd, W, few, rfl, hC, hd, hf3, hf5, q⟩ := h
  refine ⟨_, PSs.nox (pss_cons (ps_expr (pe_call (G_check_check T) (hr.mono (by decide)) (by rfl) T.g_check_check T.F_check_check.kp T.b_check_check .nil pass0 (pa_cons (pv 0) pa_nil)))
  (pss_cons (ps_expr (pe_call (G_check_number T) (hr.mono (by decide)) (by rfl) T.g_check_number T.F_check_number.kp T.b_check_number .nil pass0 (pa_cons (pv 1) (pa_cons pe_int (pa_cons pe_int pa_nil)))))
  (pss_one (ps_ret (pe_call (G_longest_of T) (hr.mono (by decide)) (by rfl) T.g_longest_of T.F_longest_of.kp T.b_longest_of .nil pass0 (pa_cons (pe_call (G_powers_of T) (hr.mono (by decide)) (by rfl) T.g_powers_of T.F_powers_of.kp T.b_powers_of .nil pass0 (pa_cons (pv 0) pa_nil)) (pa_cons (pv 1) pa_nil))))))), ?_⟩
  refine ⟨_, rfl, a, wd, W, rfl, hC, ?_⟩
  refine ⟨_, rfl, few, 3, some 5, rfl, by omega, (fun j h => by cases h; omega), ?_⟩
  refine ⟨_, rfl, a, wd, W, rfl, hC, fun d H1 p hO hd2 s1 np h1 => ?_⟩
  refine ⟨_, rfl, p, wd, W, d, few, rfl, .inl (.inl h1), hC.1, hO, hd d hO, hf3, hf5, fun t H2 s2 hL => ?_⟩
  exact q t _ (s1.trans s2) hL
end
end My

namespace My
open PySem PySem.Spec PyProof.Rows L2 Pre
/-- the lists at as are new since H0, none of them is f, and they hold the rows -/
def NewRows (H0 : Hp) (f : Addr) (H : Hp) (as : List Addr) (rows : List (List Int)) : Prop := as.length = rows.length ∧ ∀ (i : Nat) (a : Addr) (r : List Int), as[i]? = some a → rows[i]? = some r → H0 a = none ∧ a ≠ f ∧ H a = some (.lst (r.map V.int))
theorem NewRows.nil {H0 H : Hp} {f : Addr} : NewRows H0 f H [] [] := ⟨rfl, fun i a r h => by simp at h⟩
theorem NewRows.app {H0 H : Hp} {f : Addr} {as bs : List Addr} {xs ys : List (List Int)} (h : NewRows H0 f H as xs) (k : NewRows H0 f H bs ys) : NewRows H0 f H (as ++ bs) (xs ++ ys) := by
  refine ⟨by rw [List.length_append, List.length_append, h.1, k.1], fun i a r ha hr => ?_⟩
  by_cases c : i < as.length
  · rw [List.getElem?_append_left c] at ha
    rw [List.getElem?_append_left (by rw [← h.1]; exact c)] at hr
    exact h.2 i a r ha hr
  · rw [List.getElem?_append_right (by omega)] at ha
    rw [List.getElem?_append_right (by rw [← h.1]; omega), ← h.1] at hr
    exact k.2 _ a r ha hr
theorem NewRows.one {H0 H : Hp} {f p : Addr} {r : List Int} (h1 : H0 p = none) (h2 : p ≠ f) (h3 : H p = some (.lst (r.map V.int))) : NewRows H0 f H [p] [r] := by
  refine ⟨rfl, fun i a q ha hq => ?_⟩
  cases i with
  | zero =>
    rw [List.getElem?_cons_zero] at ha hq
    cases ha
    cases hq
    exact ⟨h1, h2, h3⟩
  | succ i => simp at ha
/-- all but f stand -/
theorem NewRows.but {H0 H H' : Hp} {f : Addr} {as : List Addr} {rows : List (List Int)} (h : NewRows H0 f H as rows) (s : ∀ b o, b ≠ f → H b = some o → H' b = some o) : NewRows H0 f H' as rows :=
  ⟨h.1, fun i a r ha hr => by
    obtain ⟨a1, a2, a3⟩ := h.2 i a r ha hr
    exact ⟨a1, a2, s _ _ a2 a3⟩⟩
/-- another base, another one that it is not -/
theorem NewRows.base {H0 H1 H : Hp} {f g : Addr} {as : List Addr} {rows : List (List Int)} (h : NewRows H1 f H as rows) (s : Same H0 H1) (n : H1 g ≠ none) : NewRows H0 g H as rows :=
  ⟨h.1, fun i a r ha hr => by
    obtain ⟨a1, a2, a3⟩ := h.2 i a r ha hr
    exact ⟨s.free a1, fun z => n (by rw [← z]; exact a1), a3⟩⟩
theorem NewRows.rows {H0 H : Hp} {f p : Addr} {as : List Addr} {rows : List (List Int)} (h : NewRows H0 f H as rows) (hp : H p = some (.lst (as.map V.ref))) : RowsIn H p rows := ⟨as, hp, h.1, fun i a r ha hr => (h.2 i a r ha hr).2.2⟩
theorem ne_rows {K : PySem.W.Frag} {H : Hp} {p q : Addr} {xs ys : List (List Int)} {Q : V → Hp → Prop} (hp : RowsIn H p xs) (hq : RowsIn H q ys) (e : xs = ys) (k : Q (.bl false) H) : rNeD K (.ref p) (.ref q) H Q := by
  subst e
  obtain ⟨as, h1, h2, h3⟩ := hp
  obtain ⟨bs, k1, k2, k3⟩ := hq
  refine ⟨.list (xs.map rowD), .list (xs.map rowD), .lst (.inl (.inl h1)) (rows_dp h2 h3), .lst (.inl (.inl k1)) (rows_dp k2 k3), rows_shaped xs, rows_shaped xs, ?_⟩
  rw [SeqAt.eqv_refl _ (Bool.and_eq_true_iff.mp (rows_shaped xs)).1]
  exact k
theorem eq_rows {K : PySem.W.Frag} {H : Hp} {p q : Addr} {xs ys : List (List Int)} {Q : V → Hp → Prop} (hp : RowsIn H p xs) (hq : RowsIn H q ys) (e : xs = ys) (k : Q (.bl true) H) : rEqD K (.ref p) (.ref q) H Q := by
  subst e
  obtain ⟨as, h1, h2, h3⟩ := hp
  obtain ⟨bs, k1, k2, k3⟩ := hq
  refine ⟨.list (xs.map rowD), .list (xs.map rowD), .lst (.inl (.inl h1)) (rows_dp h2 h3), .lst (.inl (.inl k1)) (rows_dp k2 k3), rows_shaped xs, rows_shaped xs, ?_⟩
  rw [SeqAt.eqv_refl _ (Bool.and_eq_true_iff.mp (rows_shaped xs)).1]
  exact k
/-- a comprehension that makes new lists of whole numbers -/
theorem lc_rowsL {K : PySem.W.Frag} {a : Addr} {xs : List V} {j : Nat} {tt : TT} {te : TE} {vs : List Nat} {σ : L2.St} {H1 : Hp} {D : Addr} {Qd : Hp → Prop} (sel : List (Option (List Int))) (nD : H1 D = none) (hS : SqL K H1 a xs) (hlen : sel.length = xs.length) (hz : xs.length < sizeLine)
    (hw : ∀ x, wipe ((wipe σ vs).set j (some x)) vs = wipe σ vs)
    (hs : ∀ (i : Nat) (x : V) (o : Option (List Int)) (H' : Hp), xs[i]? = some x → sel[i]? = some o → Same H1 H' → ∀ Qt : Option V → Hp → Prop, (o = none → ∀ H'', Same H' H'' → Qt none H'') → (∀ r, o = some r → ∀ p H'', Same H' H'' → H' p = none → H'' p = some (.lst (r.map V.int)) → Qt (some (.ref p)) H'') →
      tt ((wipe σ vs).set j (some x)) H' fun b H3 => if b = true then te ((wipe σ vs).set j (some x)) H3 fun y H4 => Qt (some y) H4 else Qt none H3)
    (hd : ∀ H' as, Same H1 H' → H' D = some (.lst (as.map V.ref)) → NewRows H1 D H' as (sel.filterMap id) → Qd H') :
    ∃ W : Nat → Nat → Hp → Prop, (∃ m, W 0 m (upd H1 D (.lst []))) ∧ ∀ i m H, W i m H →
      ((Itl K a).stop i H ∧ Qd H) ∨ ((Itl K a).go i H ∧ ∃ Nx : Hp → Prop, (∀ H', Nx H' → ∃ m', m' < m ∧ W (i + 1) m' H') ∧ ∀ x H', (Itl K a).yld i H x H' → gName j x (wipe σ vs) H' fun σ2 H2 => wipe σ2 vs = wipe σ vs ∧ tt σ2 H2 fun b H3 =>
        if b = true then te σ2 H3 fun y H4 => ∃ acc, H4 D = some (.lst acc) ∧ acc.length < sizeLine ∧ Nx (upd H4 D (.lst (acc ++ [y]))) else Nx H3) := by
  refine lc_list (K := K) (a := a) (xs := xs) (fun i H => Same H1 H ∧ ∃ as, H D = some (.lst (as.map V.ref)) ∧ NewRows H1 D H as ((sel.take i).filterMap id)) ⟨same_upd nD, [], upd_same, .nil⟩ (fun i H _ p => p.1.seq hS) ?_ ?_
  · rintro i x H hx ⟨s, as, hD, hN⟩
    refine ⟨hw x, ?_⟩
    have hi : i < sel.length := by rw [hlen]; exact (List.getElem?_eq_some_iff.mp hx).1
    have ho : sel[i]? = some sel[i] := List.getElem?_eq_getElem hi
    have hl : (as.map V.ref).length < sizeLine := by
      rw [List.length_map, hN.1]
      exact Nat.lt_of_le_of_lt (fm_len sel i) (by omega)
    have h := hs i x sel[i] H hx ho s
    generalize sel[i] = o at ho h
    cases o with
    | none =>
      refine h (fun y H4 => match y with | some y => ∃ acc, H4 D = some (.lst acc) ∧ acc.length < sizeLine ∧ (Same H1 (upd H4 D (.lst (acc ++ [y]))) ∧ ∃ as, (upd H4 D (.lst (acc ++ [y]))) D = some (.lst (as.map V.ref)) ∧ NewRows H1 D (upd H4 D (.lst (acc ++ [y]))) as ((sel.take (i + 1)).filterMap id)) | none => Same H1 H4 ∧ ∃ as, H4 D = some (.lst (as.map V.ref)) ∧ NewRows H1 D H4 as ((sel.take (i + 1)).filterMap id)) (fun _ H4 s4 => ?_) (fun r z => by cases z)
      refine ⟨s.trans s4, as, s4 _ _ hD, ?_⟩
      rw [take_fm ho]
      simp only [Option.toList, List.append_nil]
      exact hN.but fun b o _ hb => s4 _ _ hb
    | some r =>
      refine h (fun y H4 => match y with | some y => ∃ acc, H4 D = some (.lst acc) ∧ acc.length < sizeLine ∧ (Same H1 (upd H4 D (.lst (acc ++ [y]))) ∧ ∃ as, (upd H4 D (.lst (acc ++ [y]))) D = some (.lst (as.map V.ref)) ∧ NewRows H1 D (upd H4 D (.lst (acc ++ [y]))) as ((sel.take (i + 1)).filterMap id)) | none => Same H1 H4 ∧ ∃ as, H4 D = some (.lst (as.map V.ref)) ∧ NewRows H1 D H4 as ((sel.take (i + 1)).filterMap id)) (fun z => by cases z) (fun r' z p H4 s4 np hp => ?_)
      cases z
      refine ⟨_, s4 _ _ hD, hl, same_over nD (s.trans s4), as ++ [p], by rw [upd_same, List.map_append]; rfl, ?_⟩
      rw [take_fm ho]
      have npD : p ≠ D := (ne_of_none hD np).symm
      refine (NewRows.app (hN.but fun b o _ hb => s4 _ _ hb) (NewRows.one (s.free np) npD hp)).but fun b o nb hb => by rw [upd_ne nb]; exact hb
  · rintro H ⟨s, as, hD, hN⟩
    rw [← hlen, List.take_length] at hN
    exact hd H as s hD hN
end My

namespace My
open PySem PySem.Spec PyProof.Rows L2 Pre
def rowsI (l : List (List Nat)) : List (List Int) := l.map fun r => r.map fun (n : Nat) => (n : Int)
/-- the places below i with a value -/
def plN (wd W i x : Nat) : List Nat := (List.range i).filter fun j => decide (pw wd W j = x)
def plI (wd W i x : Nat) : List Int := (plN wd W i x).map fun (j : Nat) => (j : Int)
theorem plN_next (wd W i x : Nat) : plN wd W (i + 1) x = plN wd W i x ++ (if pw wd W i = x then [i] else []) := by
  unfold plN
  rw [List.range_succ, List.filter_append]
  congr 1
  by_cases h : pw wd W i = x <;> simp [h]
theorem plN_len (wd W i x : Nat) : (plN wd W i x).length ≤ i := Nat.le_trans (List.length_filter_le _ _) (by rw [List.length_range]; exact Nat.le_refl _)
theorem plI_len (wd W i x : Nat) : (plI wd W i x).length ≤ i := by
  unfold plI
  rw [List.length_map]
  exact plN_len ..
/-- a dict of the places below i by their values, the lists at it not one of f, g -/
def SpL (wd W i : Nat) (f g : Addr) (H0 H : Hp) (kvs : List (Key × V)) : Prop := kvs.length ≤ i ∧ (∀ x : Nat, (valV kvs (.inl (x : Int)) = none ∧ plI wd W i x = []) ∨ ∃ l, valV kvs (.inl (x : Int)) = some (.ref l) ∧ H0 l = none ∧ l ≠ f ∧ l ≠ g ∧ H l = some (.lst ((plI wd W i x).map V.int))) ∧
  ∀ (x y : Nat) (l : Addr), valV kvs (.inl (x : Int)) = some (.ref l) → valV kvs (.inl (y : Int)) = some (.ref l) → x = y
theorem ref_inj {a b : Addr} (h : V.ref a = V.ref b) : a = b := V.ref.inj h
theorem SpL.but {wd W i : Nat} {f g : Addr} {H0 H H' : Hp} {kvs : List (Key × V)} (h : SpL wd W i f g H0 H kvs) (s : ∀ b o, b ≠ f → b ≠ g → H b = some o → H' b = some o) : SpL wd W i f g H0 H' kvs :=
  ⟨h.1, fun x => by
    rcases h.2.1 x with h | ⟨l, h1, h2, h3, h4, h5⟩
    · exact .inl h
    · exact .inr ⟨l, h1, h2, h3, h4, s _ _ h3 h4 h5⟩, h.2.2⟩
/-- a value met again -/
theorem SpL.more {wd W i : Nat} {f g l : Addr} {H0 H : Hp} {kvs : List (Key × V)} (h : SpL wd W i f g H0 H kvs) (e : valV kvs (.inl ((pw wd W i : Nat) : Int)) = some (.ref l)) :
    SpL wd W (i + 1) f g H0 (upd H l (.lst ((plI wd W i (pw wd W i)).map V.int ++ [V.int i]))) kvs := by
  refine ⟨by have := h.1; omega, fun x => ?_, h.2.2⟩
  by_cases c : pw wd W i = x
  · subst c
    rcases h.2.1 (pw wd W i) with ⟨z, _⟩ | ⟨l', h1, h2, h3, h4, h5⟩
    · rw [e] at z; cases z
    · rw [e] at h1
      cases h1
      refine .inr ⟨l, e, h2, h3, h4, ?_⟩
      rw [upd_same]
      unfold plI
      rw [plN_next, if_pos rfl, List.map_append, List.map_append]
      rfl
  · have en : plI wd W (i + 1) x = plI wd W i x := by
      unfold plI
      rw [plN_next, if_neg c, List.append_nil]
    rw [en]
    rcases h.2.1 x with h1 | ⟨l', h1, h2, h3, h4, h5⟩
    · exact .inl h1
    · refine .inr ⟨l', h1, h2, h3, h4, ?_⟩
      rw [upd_ne fun z => c (h.2.2 _ _ l e (by rw [← z]; exact h1))]
      exact h5
/-- a value met first -/
theorem SpL.first {wd W i : Nat} {f g l : Addr} {H0 H H' : Hp} {kvs : List (Key × V)} (h : SpL wd W i f g H0 H kvs) (e : valV kvs (.inl ((pw wd W i : Nat) : Int)) = none) (n0 : H0 l = none) (nl : H l = none) (nf : l ≠ f) (ng : l ≠ g)
    (s : ∀ b o, (∃ xs, o = HO.lst xs) → H b = some o → H' b = some o) (hl : H' l = some (.lst [V.int i])) : SpL wd W (i + 1) f g H0 H' (putK kvs (.inl ((pw wd W i : Nat) : Int)) (.ref l)) := by
  have no : ∀ x : Nat, x ≠ pw wd W i → (Sum.inl (x : Int) : Key) ≠ .inl ((pw wd W i : Nat) : Int) := fun x c z => c (by have := Sum.inl.inj z; omega)
  refine ⟨?_, fun x => ?_, fun x y m hx hy => ?_⟩
  · have := length_putK kvs (.inl ((pw wd W i : Nat) : Int)) (.ref l)
    have := h.1
    omega
  · rw [valV_put]
    by_cases c : x = pw wd W i
    · subst c
      rw [if_pos rfl]
      refine .inr ⟨l, rfl, n0, nf, ng, ?_⟩
      have ep : plI wd W i (pw wd W i) = [] := by
        rcases h.2.1 (pw wd W i) with ⟨_, z⟩ | ⟨l', h1, _⟩
        · exact z
        · rw [e] at h1; cases h1
      have ep2 : plI wd W (i + 1) (pw wd W i) = [(i : Int)] := by
        unfold plI at ep ⊢
        rw [plN_next, if_pos rfl, List.map_append, ep]
        rfl
      rw [ep2]
      exact hl
    · rw [if_neg (no x c)]
      have en : plI wd W (i + 1) x = plI wd W i x := by
        unfold plI
        rw [plN_next, if_neg (fun z => c z.symm), List.append_nil]
      rw [en]
      rcases h.2.1 x with h1 | ⟨l', h1, h2, h3, h4, h5⟩
      · exact .inl h1
      · exact .inr ⟨l', h1, h2, h3, h4, s _ _ ⟨_, rfl⟩ h5⟩
  · have old : ∀ z : Nat, z ≠ pw wd W i → valV kvs (.inl (z : Int)) = some (.ref m) → m ≠ l := fun z cz hz => by
      rcases h.2.1 z with ⟨q, _⟩ | ⟨l', h1, h2, h3, h4, h5⟩
      · rw [hz] at q; cases q
      · rw [hz] at h1
        cases h1
        exact ne_of_none h5 nl
    rw [valV_put] at hx hy
    by_cases c : x = pw wd W i <;> by_cases d : y = pw wd W i
    · omega
    · rw [if_pos (by rw [c])] at hx
      rw [if_neg (no y d)] at hy
      cases hx
      exact absurd rfl (old y d hy)
    · rw [if_neg (no x c)] at hx
      rw [if_pos (by rw [d])] at hy
      cases hy
      exact absurd rfl (old x c hx)
    · rw [if_neg (no x c)] at hx
      rw [if_neg (no y d)] at hy
      exact h.2.2 x y m hx hy
theorem SpL.nil {wd W : Nat} {f g : Addr} {H0 H : Hp} : SpL wd W 0 f g H0 H [] := ⟨Nat.le_refl _, fun x => .inl ⟨rfl, rfl⟩, fun x y l h => by cases h⟩
/-- spots.get(x, []) -/
theorem SpL.get {wd W i : Nat} {f g l : Addr} {H0 H H' : Hp} {kvs : List (Key × V)} (h : SpL wd W i f g H0 H kvs) (x : Nat) (s : Same H H') (hl : H' l = some (.lst [])) : ∃ m, (valV kvs (.inl (x : Int))).getD (.ref l) = .ref m ∧ H' m = some (.lst ((plI wd W i x).map V.int)) := by
  rcases h.2.1 x with ⟨h1, h2⟩ | ⟨m, h1, _, _, _, h5⟩
  · exact ⟨l, by rw [h1]; rfl, by rw [h2]; exact hl⟩
  · exact ⟨m, by rw [h1]; rfl, s _ _ h5⟩
theorem mends1_rows (wd W r N : Nat) : ((plI wd W N r).map fun j => some [j]).filterMap id = rowsI (mends1 wd W r N) := by
  unfold plI rowsI mends1
  rw [List.map_map, List.map_map]
  show ((plN wd W N r).map fun (j : Nat) => some [(j : Int)]).filterMap id = _
  rw [show ((plN wd W N r).map fun (j : Nat) => some [(j : Int)]) = ((plN wd W N r).map fun (j : Nat) => [(j : Int)]).map some by rw [List.map_map]; rfl, fm_some]
  rfl
/-- what two places mend, the first of them below i -/
def mends2i (wd W r N i : Nat) : List (List Nat) := (List.range i).flatMap fun a => ((List.range N).filter fun b => decide (pw wd W b = r ^^^ pw wd W a) && decide (a < b)).map fun b => [a, b]
theorem mends2i_next (wd W r N i : Nat) : mends2i wd W r N (i + 1) = mends2i wd W r N i ++ ((List.range N).filter fun b => decide (pw wd W b = r ^^^ pw wd W i) && decide (i < b)).map fun b => [i, b] := by
  unfold mends2i
  rw [List.range_succ, List.flatMap_append]
  simp
theorem rowsI_app (a b : List (List Nat)) : rowsI (a ++ b) = rowsI a ++ rowsI b := List.map_append
theorem row2_sel (wd W r N i : Nat) : ((plI wd W N (r ^^^ pw wd W i)).map fun j => if (i : Int) < j then some [(i : Int), j] else none).filterMap id = rowsI (((List.range N).filter fun b => decide (pw wd W b = r ^^^ pw wd W i) && decide (i < b)).map fun b => [i, b]) := by
  unfold plI plN rowsI
  generalize List.range N = l
  induction l with
  | nil => rfl
  | cons b l ih =>
    by_cases c : pw wd W b = r ^^^ pw wd W i
    · by_cases d : i < b
      · simp [c, d] at ih ⊢
        exact ih
      · simp [c, d] at ih ⊢
        exact ih
    · simp [c] at ih ⊢
      exact ih
end My

namespace My
open PySem PySem.Spec PyProof.Rows L2 Pre
theorem putK_same {H H' : Hp} {p : Addr} {o : HO} (h : ∀ b o, b ≠ p → H b = some o → H' b = some o) (n : H p = none) : Same H H' := fun b o e => h b o (ne_of_none e n) e
/-- ways that meet again -/
theorem join2 {b : Bool} {A : Prop} {R : Hp → Prop} {H : Hp} (Pv : Hp → Prop) (cont : ∀ H', Pv H' → R H') (h1 : b = true → (∀ H', Pv H' → R H') → A) (h2 : b = false → Pv H) : if b = true then A else R H := by
  cases b with
  | true => rw [if_pos rfl]; exact h1 rfl cont
  | false => rw [if_neg (by decide)]; exact cont _ (h2 rfl)
/-- what is found so far -/
def St (H : Hp) (f : Addr) (H5 : Hp) (rows : List (List Nat)) (H6 : Hp) : Prop := ∃ as : List Addr, Same H H6 ∧ H6 f = some (.lst (as.map V.ref)) ∧ (∀ b o, b ≠ f → H5 b = some o → H6 b = some o) ∧ NewRows H f H6 as (rowsI rows)
theorem St.ext {H H5 H6 H9 : Hp} {f : Addr} {rows more : List (List Nat)} {bs : List Addr} (h : St H f H5 rows H6) (n0f : H f = none) (s : Same H6 H9) (hN : NewRows H6 f H9 bs (rowsI more)) {as : List Addr} (ha : H6 f = some (.lst (as.map V.ref)) := by assumption) : St H f H5 (rows ++ more) (upd H9 f (.lst (as.map V.ref ++ bs.map V.ref))) := by
  obtain ⟨as', s6, hf6, o6, hN6⟩ := h
  rw [hf6] at ha
  have ea : as' = as := by
    have e : as'.map V.ref = as.map V.ref := HO.lst.inj (Option.some.inj ha)
    exact (List.map_inj_right fun a b z => V.ref.inj z).mp e
  subst ea
  refine ⟨as' ++ bs, same_over n0f (s6.trans s), by rw [upd_same, List.map_append], fun b o nb hb => ?_, ?_⟩
  · rw [upd_ne nb]
    exact s _ _ (o6 b o nb hb)
  · rw [rowsI_app]
    refine NewRows.but (H := H9) (NewRows.app (hN6.but fun b o _ hb => s _ _ hb) ⟨hN.1, fun i a r hi hr => ?_⟩) fun b o nb hb => by rw [upd_ne nb]; exact hb
    obtain ⟨a1, a2, a3⟩ := hN.2 i a r hi hr
    exact ⟨s6.free a1, a2, a3⟩
theorem mends2i_len (wd W r N i : Nat) : (mends2i wd W r N i).length ≤ i * N := by
  induction i with
  | zero => exact Nat.zero_le _
  | succ i ih =>
    rw [mends2i_next, List.length_append, List.length_map, Nat.succ_mul]
    have : ((List.range N).filter fun b => decide (pw wd W b = r ^^^ pw wd W i) && decide (i < b)).length ≤ N := Nat.le_trans (List.length_filter_le _ _) (by rw [List.length_range]; exact Nat.le_refl _)
    omega
local macro_rules | `(tactic| walk_at "go") => `(tactic| repeat (first | (with_reducible first | refine iteT ?_ | refine iteF ?_ | refine iteNtt ?_ | refine iteNff ?_ | refine iteET (by omega) ?_ | refine iteEF (by omega) ?_ | refine iteENT (by omega) ?_ | refine iteENF (by omega) ?_ | refine iteDT (by omega) ?_ | refine iteDF (by omega) ?_ | refine iteNT (by omega) ?_ | refine iteNF (by omega) ?_) | refine ⟨_, rfl, ?_⟩ | refine ⟨_, _, rfl, rfl, ?_⟩ | refine ⟨_, _, rfl, ?_⟩ | refine ⟨rfl, ?_⟩ | refine .inl ⟨_, rfl, ?_⟩ | refine .inr ⟨_, rfl, ?_⟩))
local macro_rules | `(tactic| walk_at "b") => `(tactic| try dsimp (config := { proj := false, iota := false, eta := false, zeta := false }) only)
section
variable {P : Program} {w : World} {K : PySem.W.Frag} {mg : Str → Option Value} {base : Heap}
def sp_mends (C : Addr) : Sp := fun vs H Q _ => ∃ (a : Addr) (wd W : Nat) (bs : List Bool) (most : Nat), vs = [.ref a, .str (bS bs), .int most] ∧ CheckAt C H a wd W ∧ bs.length ≤ 100 ∧ most ≤ 2 ∧
  ∀ H' p as, Same H H' → H p = none → H' p = some (.lst (as.map V.ref)) → NewRows H p H' as (rowsI (mendsL wd W (restB wd W bs) bs.length most)) → Q (.ref p) H'
theorem G_mends (T : Top K mg) : FnOk P w K mg base CX0 4 T.f_mends T.fd_mends ["check", "bits", "most"] (sp_mends T.C_Check) := by
  refine T.F_mends.ok sc_mends (fun vs H Q E h => by obtain ⟨a, wd, W, bs, most, rfl, _⟩ := h; rfl) (fun cdv A outer s H vs Q E hr h => ?_)
  obtain ⟨a, wd, W, bs, most, rfl, hC, hl, hm, q⟩ := h
  refine ⟨_, PSs.nox (pss_cons (ps_expr (pe_call (G_check_check T) (hr.mono (by decide)) (by rfl) T.g_check_check T.F_check_check.kp T.b_check_check .nil pass0 (pa_cons (pv 0) pa_nil)))
  (pss_cons (ps_expr (pe_call (G_check_bits T) (hr.mono (by decide)) (by rfl) T.g_check_bits T.F_check_bits.kp T.b_check_bits .nil pass0 (pa_cons (pv 1) pa_nil)))
  (pss_cons (ps_expr (pe_call (G_check_number T) (hr.mono (by decide)) (by rfl) T.g_check_number T.F_check_number.kp T.b_check_number .nil pass0 (pa_cons (pv 2) (pa_cons pe_int (pa_cons pe_int pa_nil)))))
  (pss_cons (ps_par3 (by rfl) sc_mends.nd (i := 4) (j := 5) (l := 6) rfl rfl rfl (by decide) (by decide) (by decide) rfl rfl rfl (pa_cons (pe_call (G_rest_of T) (hr.mono (by decide)) (by rfl) T.g_rest_of T.F_rest_of.kp T.b_rest_of .nil pass0 (pa_cons (pv 0) (pa_cons (pv 1) pa_nil))) (pa_cons (pe_lst pa_nil) (pa_cons pe_dnewK pa_nil))) (by rfl))
  (pss_cons (ps_par (by rfl) sc_mends.nd (i := 7) (j := 8) rfl rfl (by decide) rfl rfl (pa_cons (pe_call (G_rest_of T) (hr.mono (by decide)) (by rfl) T.g_rest_of T.F_rest_of.kp T.b_rest_of .nil pass0 (pa_cons (pv 0) (pa_cons pe_str pa_nil))) (pa_cons (pe_lst pa_nil) pa_nil)) (by rfl))
  (pss_cons (ps_for PassesOwn.never rfl (pi_range1 (by rfl) T.n_range (pa_cons (pe_callB call_len_str (by rfl) T.n_len (by decide +kernel) (pa_cons (pv 1) pa_nil)) pa_nil)) (pg_name (i := 3) sc_mends.nd rfl (by first | exact Or.inl rfl | exact Or.inr rfl))
    (pss_cons (ps_expr (pe_bm PySem.F.plainAttrs_list PySem.F.slot_list_append PySem.F.type_list_append mt_append (pv 8) (pa_cons (pv 7) pa_nil)))
  (pss_cons (ps_expr (pe_bm PySem.F.plainAttrs_list PySem.F.slot_list_append PySem.F.type_list_append mt_append (pe_dsetd (pv 6) (pv 7) (pe_lst pa_nil) ⟨by rfl, by rfl, by rfl, by rfl⟩) (pa_cons (pv 3) pa_nil)))
  (pss_one (ps_set (i := 7) sc_mends.nd rfl (by first | exact Or.inl rfl | exact Or.inr rfl) (pe_call (G_shifted T) (hr.mono (by decide)) (by rfl) T.g_shifted T.F_shifted.kp T.b_shifted .nil pass0 (pa_cons (pv 0) (pa_cons (pv 7) pa_nil))))))))
  (pss_cons (ps_if (pt_cmpR op_eq (pv 4) pe_int (nomark _))
    (pss_one (ps_expr (pe_bm PySem.F.plainAttrs_list PySem.F.slot_list_append PySem.F.type_list_append mt_append (pv 5) (pa_cons (pe_lst pa_nil) pa_nil))))
    pss_nil)
  (pss_cons (ps_if (pt_cmpR op_gt (pv 2) pe_int (nomark _))
    (pss_one (ps_expr (pe_bm PySem.F.plainAttrs_list PySem.F.slot_list_extend PySem.F.type_list_extend mt_extend (pv 5) (pa_cons (pe_lc (own := [("place", 3)]) (g := gName 3) (tt := tYes) (by rfl) sc_mends.nd (k_piL K rfl (pe_dget2 (hu_of hr) (pv 6) (pv 4) (pe_lst pa_nil) ⟨by rfl, by rfl, by rfl, by rfl⟩)) (blkOk_by (own := [("place", 3)]) (N := N_mends) (sc := defScope s_mends) (by decide +kernel)) (fun _ _ _ _ _ => (pg_name (i := 3) sc_mends.nd rfl (by first | exact Or.inl rfl | exact Or.inr rfl))) (fun _ _ _ _ _ => pts_nil) (fun _ _ _ _ _ => (pe_lst (pa_cons (pv 3) pa_nil)))) pa_nil))))
    pss_nil)
  (pss_cons (ps_if (pt_cmpR op_gt (pv 2) pe_int (nomark _))
    (pss_one (ps_for PassesOwn.never rfl (pi_range1 (by rfl) T.n_range (pa_cons (pe_callB call_len_str (by rfl) T.n_len (by decide +kernel) (pa_cons (pv 1) pa_nil)) pa_nil)) (pg_name (i := 9) sc_mends.nd rfl (by first | exact Or.inl rfl | exact Or.inr rfl))
    (pss_one (ps_expr (pe_bm PySem.F.plainAttrs_list PySem.F.slot_list_extend PySem.F.type_list_extend mt_extend (pv 5) (pa_cons (pe_lc (own := [("other", 10)]) (g := gName 10) (by rfl) sc_mends.nd (k_piL K rfl (pe_dget2 (hu_of hr) (pv 6) (pe_op op_xor (pv 4) (pe_ix (k_ixL K rfl) (pv 8) (pv 9) (fun _ _ => rfl))) (pe_lst pa_nil) ⟨by rfl, by rfl, by rfl, by rfl⟩)) (blkOk_by (own := [("other", 10)]) (N := N_mends) (sc := defScope s_mends) (by decide +kernel)) (fun _ _ _ _ _ => (pg_name (i := 10) sc_mends.nd rfl (by first | exact Or.inl rfl | exact Or.inr rfl))) (fun _ _ _ _ _ => (pts_one (pt_cmpR op_gt (pv 10) (pv 9) (nomark _)))) (fun _ _ _ _ _ => (pe_lst (pa_cons (pv 9) (pa_cons (pv 10) pa_nil))))) pa_nil))))))
    pss_nil)
  (pss_one (ps_ret (pv 5)))))))))))), ?_⟩
  obtain ⟨hK, hw, dx, ha⟩ := id hC
  refine ⟨_, rfl, a, wd, W, rfl, hC, ?_⟩
  refine ⟨_, rfl, bs, rfl, by omega, fun H1 s1 => ?_⟩
  refine ⟨_, rfl, most, 0, some 2, rfl, by omega, (fun j h => by cases h; omega), ?_⟩
  have hC1 := hC.same s1
  refine ⟨_, rfl, _, rfl, a, wd, W, bs, rfl, hC1, Nat.zero_le _, fun f nf => ?_⟩
  obtain ⟨H2, e2, s2, hf2⟩ := fresh (.lst []) nf
  rw [e2]
  intro sp nsp
  obtain ⟨H3, e3, s3, hsp3⟩ := fresh (.dK []) nsp
  rw [e3]
  refine ⟨_, _, _, rfl, ?_⟩
  have s13 := s1.trans (s2.trans s3)
  refine ⟨_, rfl, a, wd, W, [true], by rw [← str_one]; rfl, hC.same s13, Nat.zero_le _, fun pl npl => ?_⟩
  obtain ⟨H4, e4, s4, hpl4⟩ := fresh (.lst []) npl
  rw [e4]
  refine ⟨_, _, rfl, ?_⟩
  have s14 := s13.trans s4
  have e1 : restB wd W [true] = pw wd W 0 := by
    rw [restB_eq]
    rfl
  rw [e1]
  have hfpl : f ≠ pl := ne_of_none (s3 _ _ hf2) npl
  have hspf : sp ≠ f := (ne_of_none hf2 nsp).symm
  have hsppl : sp ≠ pl := ne_of_none hsp3 npl
  have n0f : H f = none := s1.free nf
  have n0sp : H sp = none := s1.free (s2.free nsp)
  have n0pl : H pl = none := s13.free npl
  -- for place in range(len(bits))
  refine ⟨_, rfl, _, rfl, by rw [bS_len]; exact Nat.le_of_lt (small1000' (by omega)), _, rfl, by rw [bS_len]; omega, by rw [bS_len]; omega, ?_⟩
  rw [bS_len]
  refine for_range (lo := 0) (n := ((bs.length : Int)).toNat) (fun i σ H5 => ∃ v3 kvs, σ = [some (.ref a), some (.str (bS bs)), some (.int most), v3, some (.int (restB wd W bs)), some (.ref f), some (.ref sp), some (.int (pw wd W i)), some (.ref pl), none, none] ∧ Same H H5 ∧ H5 f = some (.lst []) ∧ H5 pl = some (.lst ((powsL wd W i).map V.int)) ∧ H5 sp = some (.dK kvs) ∧ SpL wd W i f pl H H5 kvs) ⟨none, [], rfl, s14, s4 _ _ (s3 _ _ hf2), hpl4, s4 _ _ hsp3, .nil⟩ ?_ ?_
  · rintro i σ H5 hi ⟨v3, kvs, rfl, s5, hf5, hpl5, hsp5, hS5⟩
    rw [Int.toNat_natCast] at hi
    refine ⟨_, rfl, .inl ⟨rfl, _, .inl (.inl hpl5)⟩, _, rfl, pl, _, _, rfl, rfl, hpl5, by rw [List.length_map, powsL_len]; exact small1000' (by omega), ?_⟩
    obtain ⟨H6, e6⟩ : ∃ H6, upd H5 pl (.lst ((powsL wd W i).map V.int ++ [V.int (pw wd W i)])) = H6 := ⟨_, rfl⟩
    rw [e6]
    have hpl6 : H6 pl = some (.lst ((powsL wd W (i + 1)).map V.int)) := by
      rw [← e6, upd_same, powsL_next, List.map_append]
      rfl
    have o6 : ∀ b o, b ≠ pl → H5 b = some o → H6 b = some o := fun b o nb hb => by rw [← e6, upd_ne nb]; exact hb
    have s6 : Same H H6 := by rw [← e6]; exact same_over n0pl s5
    have hsp6 := o6 _ _ hsppl hsp5
    have hf6 := o6 _ _ hfpl hf5
    have hS6 := hS5.but (H' := H6) fun b o _ nb hb => o6 b o nb hb
    refine ⟨_, rfl, sp, rfl, .inl ⟨kvs, .inl hsp6⟩, _, rfl, Nat.zero_le _, fun l nl => ?_⟩
    obtain ⟨H7, e7, s7, hl7⟩ := fresh (.lst []) nl
    rw [e7]
    have hsp7 := s7 _ _ hsp6
    refine ⟨kvs, .inl ((pw wd W i : Nat) : Int), hsp7, rfl, Nat.lt_of_le_of_lt hS6.1 (small1000' (by omega)), fun v hv => ?_, fun hv => ?_⟩
    · -- met again
      have hS7 := hS6.but (H' := H7) fun b o _ _ hb => s7 b o hb
      obtain ⟨m, rfl, hm0, hmf, hmpl, hm7⟩ : ∃ m, v = .ref m ∧ H m = none ∧ m ≠ f ∧ m ≠ pl ∧ H7 m = some (.lst ((plI wd W i (pw wd W i)).map V.int)) := by
        rcases hS7.2.1 (pw wd W i) with ⟨z, _⟩ | ⟨m, z, h2, h3, h4, h5⟩
        · rw [hv] at z; cases z
        · rw [hv] at z
          cases z
          exact ⟨m, rfl, h2, h3, h4, h5⟩
      refine ⟨.inl ⟨rfl, _, .inl (.inl hm7)⟩, _, rfl, m, _, _, rfl, rfl, hm7, by rw [List.length_map]; exact Nat.lt_of_le_of_lt (plI_len ..) (small1000' (by omega)), ?_⟩
      have s8 : Same H (upd H7 m (.lst ((plI wd W i (pw wd W i)).map V.int ++ [V.int (0 + (i : Int))]))) := same_over hm0 (s6.trans s7)
      refine ⟨_, rfl, _, rfl, a, wd, W, _, rfl, hC.same s8, pw_lt hK i, ?_⟩
      rw [← pw_succ]
      have hspm : sp ≠ m := ne_of hsp7 hm7 (by intro z; cases z)
      refine ⟨_, kvs, rfl, s8, ?_, ?_, ?_, ?_⟩
      · rw [upd_ne hmf.symm]
        exact s7 _ _ hf6
      · rw [upd_ne hmpl.symm]
        exact s7 _ _ hpl6
      · rw [upd_ne hspm]
        exact hsp7
      · have := hS7.more hv
        rw [show (0 + (i : Int)) = (i : Int) by omega]
        exact this
    · -- met first
      obtain ⟨H8, e8⟩ : ∃ H8, upd H7 sp (.dK (putK kvs (.inl ((pw wd W i : Nat) : Int)) (.ref l))) = H8 := ⟨_, rfl⟩
      rw [e8]
      have hlsp : l ≠ sp := (ne_of_none hsp6 nl).symm
      have hlf : l ≠ f := (ne_of_none hf6 nl).symm
      have hlpl : l ≠ pl := (ne_of_none hpl6 nl).symm
      have o8 : ∀ b o, b ≠ sp → H7 b = some o → H8 b = some o := fun b o nb hb => by rw [← e8, upd_ne nb]; exact hb
      have hl8 := o8 _ _ hlsp hl7
      have n0l : H l = none := s6.free nl
      have s8 : Same H H8 := by rw [← e8]; exact same_over n0sp (s6.trans s7)
      refine ⟨.inl ⟨rfl, _, .inl (.inl hl8)⟩, _, rfl, l, _, _, rfl, rfl, hl8, (show 0 < sizeLine by rw [sizeLine_eq]; decide), ?_⟩
      have s9 : Same H (upd H8 l (.lst ([] ++ [V.int (0 + (i : Int))]))) := same_over n0l s8
      refine ⟨_, rfl, _, rfl, a, wd, W, _, rfl, hC.same s9, pw_lt hK i, ?_⟩
      rw [← pw_succ]
      refine ⟨_, putK kvs (.inl ((pw wd W i : Nat) : Int)) (.ref l), rfl, s9, ?_, ?_, ?_, ?_⟩
      · rw [upd_ne hlf.symm]
        exact o8 _ _ hspf.symm (s7 _ _ hf6)
      · rw [upd_ne hlpl.symm]
        exact o8 _ _ hsppl.symm (s7 _ _ hpl6)
      · rw [upd_ne hlsp.symm, ← e8, upd_same]
      · refine hS6.first hv n0l nl hlf hlpl (fun b o hx hb => ?_) ?_
        · obtain ⟨xs, rfl⟩ := hx
          rw [upd_ne (ne_of_none hb nl)]
          exact o8 _ _ (ne_of hb hsp6 (by intro z; cases z)) (s7 _ _ hb)
        · rw [upd_same, show (0 + (i : Int)) = (i : Int) by omega]
          rfl
  · rintro σ H5 ⟨v3, kvs, rfl, s5, hf5, hpl5, hsp5, hS5⟩
    rw [Int.toNat_natCast] at hpl5 hS5 ⊢
    generalize eN : bs.length = N at *
    generalize er : restB wd W bs = r at *
    -- if left == 0
    refine ⟨_, rfl, rfl, _, rfl, ?_⟩
    have St0 : St H f H5 [] H5 := ⟨[], s5, hf5, fun b o _ h => h, .nil⟩
    refine join2 (St H f H5 (mends0 r)) (fun H6 hSt => ?_) (fun c cont => ?_) (fun c => ?_)
    rotate_left
    · have c0 : r = 0 := by
        have := V.int.inj (of_decide_eq_true c)
        omega
      refine ⟨_, rfl, .inl ⟨rfl, _, .inl (.inl hf5)⟩, Nat.zero_le _, fun p np => ?_⟩
      have hpf : p ≠ f := (ne_of_none hf5 np).symm
      refine ⟨f, _, _, rfl, rfl, same_upd np _ _ hf5, (show 0 < sizeLine by rw [sizeLine_eq]; decide), ?_⟩
      refine cont _ ⟨[p], same_over n0f (s5.trans (same_upd np)), upd_same, fun b o nb hb => ?_, ?_⟩
      · rw [upd_ne nb]
        exact same_upd np _ _ hb
      · unfold mends0
        rw [if_pos c0]
        refine NewRows.one (s5.free np) hpf ?_
        rw [upd_ne hpf, upd_same]
        rfl
    · have c0 : ¬ r = 0 := fun z => by
        have := of_decide_eq_false c
        exact this (by rw [z]; rfl)
      unfold mends0
      rw [if_neg c0]
      exact St0
    have z1 : (mends1 wd W r N).length ≤ N := by
      unfold mends1
      rw [List.length_map]
      exact Nat.le_trans (List.length_filter_le _ _) (by rw [List.length_range]; exact Nat.le_refl _)
    have z0 : (mends0 r).length ≤ 1 := by unfold mends0; split <;> simp
    -- if most > 0
    refine ⟨_, rfl, _, _, rfl, rfl, _, rfl, ?_⟩
    refine join2 (St H f H5 (mends0 r ++ if 0 < most then mends1 wd W r N else [])) (fun H7 hSt7 => ?_) (fun c cont => ?_) (fun c => ?_)
    rotate_left
    · have c0 : 0 < most := by
        have := of_decide_eq_true c
        omega
      rw [if_pos c0] at cont
      obtain ⟨as, s6, hf6, o6, hN6⟩ := id hSt
      have hsp6 := o6 _ _ hspf hsp5
      have hS6 : SpL wd W N f pl H H6 kvs := hS5.but fun b o nb _ hb => o6 b o nb hb
      refine ⟨_, rfl, .inl ⟨rfl, _, .inl (.inl hf6)⟩, _, rfl, sp, rfl, .inl ⟨kvs, .inl hsp6⟩, _, rfl, Nat.zero_le _, fun l nl => ?_⟩
      obtain ⟨H8, e8, s8, hl8⟩ := fresh (.lst []) nl
      rw [e8]
      obtain ⟨m, em, hm8⟩ := hS6.get r s8 hl8
      refine ⟨_, DGet.k (k := .inl (r : Int)) (s8 _ _ hsp6), ?_⟩
      rw [em]
      refine ⟨m, rfl, ⟨_, .inl (.inl hm8)⟩, fun D nD => ?_⟩
      refine lc_rowsL (K := K) (xs := (plI wd W N r).map V.int) ((plI wd W N r).map fun j => some [j]) nD (.inl (.inl hm8)) (by rw [List.length_map, List.length_map]) (by rw [List.length_map]; exact Nat.lt_of_le_of_lt (plI_len ..) (small1000' (by omega))) (fun x => rfl) ?_ ?_
      · intro i x o H9 hx ho s9 Qt _ qt
        obtain ⟨n, hn, rfl⟩ := int_at hx
        rw [List.getElem?_map, hn] at ho
        cases ho
        unfold tYes
        dsimp only
        rw [if_pos (show true = true from rfl)]
        refine ⟨_, rfl, (show 1 ≤ sizeLine by decide), fun p np => ?_⟩
        exact qt _ rfl p _ (same_upd np) np upd_same
      · intro H9 bs' s9 hD hN9
        rw [mends1_rows] at hN9
        have s69 := s8.trans s9
        refine ⟨f, D, _, _, rfl, rfl, s69 _ _ hf6, hD, ?_, ?_⟩
        · have l1 := hN6.1
          have l2 := hN9.1
          rw [List.length_map, List.length_map, l1, l2]
          unfold rowsI
          rw [List.length_map, List.length_map]
          exact Nat.le_of_lt (small1000' (by omega))
        · exact cont _ (hSt.ext n0f s69 (hN9.base s8 (seq_ne (s8 _ _ hf6))))
    · have c0 : ¬ 0 < most := fun z => by
        have := of_decide_eq_false c
        exact this (by omega)
      rw [if_neg c0, List.append_nil]
      exact hSt
    -- if most > 1
    refine ⟨_, rfl, _, _, rfl, rfl, _, rfl, ?_⟩
    refine join2 (St H f H5 (mendsL wd W r N most)) (fun H8 hSt8 => ?_) (fun c cont => ?_) (fun c => ?_)
    rotate_left
    · have c0 : 1 < most := by
        have := of_decide_eq_true c
        omega
      unfold mendsL at cont
      rw [if_pos c0] at cont
      refine ⟨_, rfl, _, rfl, by rw [bS_len, eN]; exact Nat.le_of_lt (small1000' (by omega)), _, rfl, by rw [bS_len]; omega, by rw [bS_len]; omega, ?_⟩
      rw [bS_len, eN]
      refine for_range (lo := 0) (n := ((N : Int)).toNat) (fun i σ H8 => ∃ v9, σ = [some (.ref a), some (.str (bS bs)), some (.int most), v3, some (.int r), some (.ref f), some (.ref sp), some (.int (pw wd W N)), some (.ref pl), v9, none] ∧ St H f H5 (mends0 r ++ (if 0 < most then mends1 wd W r N else []) ++ mends2i wd W r N i) H8) ⟨none, rfl, by
        rw [show mends2i wd W r N 0 = [] from rfl, List.append_nil]
        exact hSt7⟩ ?_ ?_
      · rintro i σ H8 hi ⟨v9, rfl, hSt8⟩
        rw [Int.toNat_natCast] at hi
        rw [show (0 + (i : Int)) = (i : Int) by omega]
        obtain ⟨as, s6, hf6, o6, hN6⟩ := id hSt8
        have hsp6 := o6 _ _ hspf hsp5
        have hpl6 := o6 _ _ hfpl.symm hpl5
        have hS6 : SpL wd W N f pl H H8 kvs := hS5.but fun b o nb _ hb => o6 b o nb hb
        have eb := bx r (pw wd W i)
        have hg : ∀ H', Same H8 H' → DGet H' sp (V.int (Builtin.bitXor (r : Int) ((pw wd W i : Nat) : Int))) (valV kvs (.inl ((r ^^^ pw wd W i : Nat) : Int))) := fun H' s' => by
          rw [eb]
          exact DGet.k (k := .inl ((r ^^^ pw wd W i : Nat) : Int)) (s' _ _ hsp6)
        refine ⟨_, rfl, .inl ⟨rfl, _, .inl (.inl hf6)⟩, _, rfl, sp, rfl, .inl ⟨kvs, .inl hsp6⟩, _, rfl, _, rfl, _, rfl, pl, _, _, _, rfl, rfl, .inl (.inl hpl6), powsL_atI hi, _, _, rfl, rfl, Nat.zero_le _, fun l nl => ?_⟩
        obtain ⟨H9, e9, s9, hl9⟩ := fresh (.lst []) nl
        rw [e9]
        obtain ⟨m, em, hm9⟩ := hS6.get (r ^^^ pw wd W i) s9 hl9
        refine ⟨_, hg _ s9, ?_⟩
        rw [em]
        refine ⟨m, rfl, ⟨_, .inl (.inl hm9)⟩, fun D nD => ?_⟩
        refine lc_rowsL (K := K) (xs := (plI wd W N (r ^^^ pw wd W i)).map V.int) ((plI wd W N (r ^^^ pw wd W i)).map fun j => if (i : Int) < j then some [(i : Int), j] else none) nD (.inl (.inl hm9)) (by rw [List.length_map, List.length_map]) (by rw [List.length_map]; exact Nat.lt_of_le_of_lt (plI_len ..) (small1000' (by omega))) (fun x => rfl) ?_ ?_
        · intro k x o H10 hx ho s10 Qt qn qt
          obtain ⟨n, hn, rfl⟩ := int_at hx
          rw [List.getElem?_map, hn] at ho
          cases ho
          refine ⟨_, rfl, _, rfl, _, _, rfl, rfl, _, rfl, ?_⟩
          by_cases c : (i : Int) < n
          · refine iteDT c ⟨_, rfl, _, rfl, (show 2 ≤ sizeLine by decide), fun p np => ?_⟩
            exact qt _ (if_pos c) p _ (same_upd np) np upd_same
          · exact iteDF c (qn (if_neg c) _ (Same.refl _))
        · intro H10 bs' s10 hD hN10
          rw [row2_sel] at hN10
          have s8' := s9.trans s10
          refine ⟨f, D, _, _, rfl, rfl, s8' _ _ hf6, hD, ?_, ?_⟩
          · have l1 := hN6.1
            have l2 := hN10.1
            rw [List.length_map, List.length_map, l1, l2]
            unfold rowsI
            rw [List.length_map, List.length_map, List.length_map, List.length_append]
            have z2 : (mends2i wd W r N i).length ≤ i * N := mends2i_len ..
            have z3 : i * N ≤ 100 * 100 := Nat.mul_le_mul (by omega) (by omega)
            have z4 : (mends0 r ++ if 0 < most then mends1 wd W r N else []).length ≤ 1 + N := by
              rw [List.length_append]
              split
              · omega
              · simp; omega
            have z5 : ((List.range N).filter fun b => decide (pw wd W b = r ^^^ pw wd W i) && decide (i < b)).length ≤ N := Nat.le_trans (List.length_filter_le _ _) (by rw [List.length_range]; exact Nat.le_refl _)
            rw [sizeLine_eq]
            omega
          · refine ⟨some (.int i), rfl, ?_⟩
            rw [mends2i_next, ← List.append_assoc]
            exact hSt8.ext n0f s8' (hN10.base s9 (seq_ne (s9 _ _ hf6)))
      · rintro σ H8 ⟨v9, rfl, hSt8⟩
        rw [Int.toNat_natCast] at hSt8
        exact cont _ hSt8
    · have c0 : ¬ 1 < most := fun z => by
        have := of_decide_eq_false c
        exact this (by omega)
      unfold mendsL
      rw [if_neg c0, List.append_nil]
      exact hSt7
    obtain ⟨as, s8, hf8, o8, hN8⟩ := hSt8
    exact ⟨_, rfl, q _ f as s8 n0f hf8 hN8⟩
end
end My

namespace My
open PySem PySem.Spec PyProof.Rows L2 Pre
theorem oneShl (k : Nat) : (1 : Int) * 2 ^ ((k : Int)).toNat = ((2 ^ k : Nat) : Int) := by
  rw [Int.one_mul, Int.toNat_natCast, Int.natCast_pow]
  rfl
theorem rem_turn1 {wd W n a : Nat} (C : Ck wd W) : rem wd W (n ^^^ 2 ^ a) = 0 ↔ pw wd W a = rem wd W n := by
  rw [rem_xor C]
  exact xor_eq0.trans ⟨fun h => h.symm, fun h => h.symm⟩
theorem rem_turn2 {wd W n a b : Nat} (C : Ck wd W) : rem wd W (n ^^^ 2 ^ a ^^^ 2 ^ b) = 0 ↔ pw wd W b = rem wd W n ^^^ pw wd W a := by
  rw [rem_xor C, rem_xor C]
  exact xor_eq0.trans ⟨fun h => h.symm, fun h => h.symm⟩
theorem mends1_zero (wd W r : Nat) : mends1 wd W r 0 = [] := rfl
theorem mends1_next (wd W r i : Nat) : mends1 wd W r (i + 1) = mends1 wd W r i ++ (if pw wd W i = r then [[i]] else []) := by
  unfold mends1
  rw [List.range_succ, List.filter_append, List.map_append]
  congr 1
  by_cases h : pw wd W i = r <;> simp [h]
/-- the pairs of i and the first j places behind it -/
def mends2j (wd W r i j : Nat) : List (List Nat) := (((List.range j).map fun k => i + 1 + k).filter fun b => decide (pw wd W b = r ^^^ pw wd W i)).map fun b => [i, b]
theorem mends2j_next (wd W r i j : Nat) : mends2j wd W r i (j + 1) = mends2j wd W r i j ++ (if pw wd W (i + 1 + j) = r ^^^ pw wd W i then [[i, i + 1 + j]] else []) := by
  unfold mends2j
  rw [List.range_succ, List.map_append, List.filter_append, List.map_append]
  congr 1
  by_cases h : pw wd W (i + 1 + j) = r ^^^ pw wd W i <;> simp [h]
theorem mends2j_all (wd W r N i : Nat) : mends2i wd W r N i ++ mends2j wd W r i (N - (i + 1)) = mends2i wd W r N (i + 1) := by
  rw [mends2i_next]
  unfold mends2j
  rw [← behind_filter]
theorem mends2j_len (wd W r i j : Nat) : (mends2j wd W r i j).length ≤ j := by
  unfold mends2j
  rw [List.length_map]
  exact Nat.le_trans (List.length_filter_le _ _) (by rw [List.length_map, List.length_range]; exact Nat.le_refl _)
theorem xor_bound {n a : Nat} {k : Nat} (h : n < 2 ^ k) (ha : a < k) : n ^^^ 2 ^ a < 2 ^ k := Nat.xor_lt_two_pow h (Nat.pow_lt_pow_right (by decide) ha)
/-- a new list is put behind -/
theorem St.put {H H5 H6 : Hp} {f p : Addr} {rows : List (List Nat)} {r : List Nat} {as : List Addr} (h : St H f H5 rows H6) (n0f : H f = none) (np : H6 p = none) (ha : H6 f = some (.lst (as.map V.ref))) {xs : List V} (ex : xs = (r.map fun (n : Nat) => (n : Int)).map V.int) :
    St H f H5 (rows ++ [r]) (upd (upd H6 p (.lst xs)) f (.lst (as.map V.ref ++ [.ref p]))) := by
  have hpf : p ≠ f := (ne_of_none ha np).symm
  have hn : NewRows H6 f (upd H6 p (.lst xs)) [p] (rowsI [r]) := NewRows.one np hpf (by rw [upd_same, ex])
  exact St.ext (more := [r]) (bs := [p]) h n0f (same_upd (o := .lst xs) np) hn ha
local macro_rules | `(tactic| walk_at "go") => `(tactic| repeat (first | (with_reducible first | refine iteT ?_ | refine iteF ?_ | refine iteNtt ?_ | refine iteNff ?_ | refine iteET (by omega) ?_ | refine iteEF (by omega) ?_ | refine iteENT (by omega) ?_ | refine iteENF (by omega) ?_ | refine iteDT (by omega) ?_ | refine iteDF (by omega) ?_ | refine iteNT (by omega) ?_ | refine iteNF (by omega) ?_) | refine ⟨_, rfl, ?_⟩ | refine ⟨_, _, rfl, rfl, ?_⟩ | refine ⟨_, _, rfl, ?_⟩ | refine ⟨rfl, ?_⟩ | refine .inl ⟨_, rfl, ?_⟩ | refine .inr ⟨_, rfl, ?_⟩))
local macro_rules | `(tactic| walk_at "b") => `(tactic| try dsimp (config := { proj := false, iota := false, eta := false, zeta := false }) only)
section
variable {P : Program} {w : World} {K : PySem.W.Frag} {mg : Str → Option Value} {base : Heap}
def sp_law_mends : Sp := fun vs H Q _ => ∃ (wd W : Nat) (bs : List Bool) (most : Nat), vs = [.int W, .str (bS bs), .int most] ∧ Ck wd W ∧ wd ≤ 16 ∧ bs.length ≤ 100 ∧ most ≤ 2 ∧
  ∀ H' p as, Same H H' → H p = none → H' p = some (.lst (as.map V.ref)) → NewRows H p H' as (rowsI (mendsL wd W (rem wd W (numB bs)) bs.length most)) → Q (.ref p) H'
theorem G_law_mends (T : Top K mg) : FnOk P w K mg base CX0 2 T.f_law_mends T.fd_law_mends ["_law_whole", "_law_bits_here", "_law_most"] sp_law_mends := by
  refine T.F_law_mends.ok sc_law_mends (fun vs H Q E h => by obtain ⟨wd, W, bs, most, rfl, _⟩ := h; rfl) (fun cdv A outer s H vs Q E hr h => ?_)
  obtain ⟨wd, W, bs, most, rfl, hK, hw, hl, hm, q⟩ := h
  refine ⟨_, PSs.nox (pss_cons (ps_par (by rfl) sc_law_mends.nd (i := 4) (j := 5) rfl rfl (by decide) rfl rfl (pa_cons (pe_call (G_law_number T) (hr.mono (by decide)) (by rfl) T.g_law_number T.F_law_number.kp T.b_law_number .nil pass0 (pa_cons (pv 1) pa_nil)) (pa_cons (pe_lst pa_nil) pa_nil)) (by rfl))
  (pss_cons (ps_if (pt_cmpR op_eq (pe_call (G_law_rest T) (hr.mono (by decide)) (by rfl) T.g_law_rest T.F_law_rest.kp T.b_law_rest .nil pass0 (pa_cons (pv 0) (pa_cons (pv 4) pa_nil))) pe_int (nomark _))
    (pss_one (ps_expr (pe_bm PySem.F.plainAttrs_list PySem.F.slot_list_append PySem.F.type_list_append mt_append (pv 5) (pa_cons (pe_lst pa_nil) pa_nil))))
    pss_nil)
  (pss_cons (ps_for PassesOwn.never rfl (pi_range1 (by rfl) T.n_range (pa_cons (pe_op op_mul (pe_callB call_len_str (by rfl) T.n_len (by decide +kernel) (pa_cons (pv 1) pa_nil)) (pe_callTy call_int1 (by rfl) T.n_int (by decide +kernel) (pa_cons (pe_cmpR op_gt (pv 2) pe_int (nomark _)) pa_nil))) pa_nil)) (pg_name (i := 3) sc_law_mends.nd rfl (by first | exact Or.inl rfl | exact Or.inr rfl))
    (pss_one (ps_if (pt_cmpR op_eq (pe_call (G_law_rest T) (hr.mono (by decide)) (by rfl) T.g_law_rest T.F_law_rest.kp T.b_law_rest .nil pass0 (pa_cons (pv 0) (pa_cons (pe_op op_xor (pv 4) (pe_op op_shl pe_int (pv 3))) pa_nil))) pe_int (nomark _))
    (pss_one (ps_expr (pe_bm PySem.F.plainAttrs_list PySem.F.slot_list_append PySem.F.type_list_append mt_append (pv 5) (pa_cons (pe_lst (pa_cons (pv 3) pa_nil)) pa_nil))))
    pss_nil)))
  (pss_cons (ps_for PassesOwn.never rfl (pi_range1 (by rfl) T.n_range (pa_cons (pe_op op_mul (pe_callB call_len_str (by rfl) T.n_len (by decide +kernel) (pa_cons (pv 1) pa_nil)) (pe_callTy call_int1 (by rfl) T.n_int (by decide +kernel) (pa_cons (pe_cmpR op_gt (pv 2) pe_int (nomark _)) pa_nil))) pa_nil)) (pg_name (i := 3) sc_law_mends.nd rfl (by first | exact Or.inl rfl | exact Or.inr rfl))
    (pss_one (ps_for PassesOwn.never rfl (pi_range2 (by rfl) T.n_range (pa_cons (pe_op op_add (pv 3) pe_int) (pa_cons (pe_callB call_len_str (by rfl) T.n_len (by decide +kernel) (pa_cons (pv 1) pa_nil)) pa_nil))) (pg_name (i := 6) sc_law_mends.nd rfl (by first | exact Or.inl rfl | exact Or.inr rfl))
    (pss_one (ps_if (pt_cmpR op_eq (pe_call (G_law_rest T) (hr.mono (by decide)) (by rfl) T.g_law_rest T.F_law_rest.kp T.b_law_rest .nil pass0 (pa_cons (pv 0) (pa_cons (pe_op op_xor (pe_op op_xor (pv 4) (pe_op op_shl pe_int (pv 3))) (pe_op op_shl pe_int (pv 6))) pa_nil))) pe_int (nomark _))
    (pss_one (ps_expr (pe_bm PySem.F.plainAttrs_list PySem.F.slot_list_append PySem.F.type_list_append mt_append (pv 5) (pa_cons (pe_lst (pa_cons (pv 3) (pa_cons (pv 6) pa_nil))) pa_nil))))
    pss_nil)))))
  (pss_one (ps_ret (pv 5))))))), ?_⟩
  have hnum : numB bs < 2 ^ 110 := Nat.lt_of_lt_of_le (numB_lt bs) (Nat.pow_le_pow_right (by decide) (by omega))
  have h110 : 2 ^ 110 < 2 ^ 1000 := by decide +kernel
  generalize en : numB bs = n at *
  refine ⟨_, rfl, bs, rfl, ?_⟩
  rw [en]
  refine ⟨Nat.zero_le _, fun f nf => ?_⟩
  obtain ⟨H1, e1, s1, hf1⟩ := fresh (.lst []) nf
  rw [e1]
  refine ⟨_, _, rfl, ?_⟩
  have St0 : St H f H1 [] H1 := ⟨[], s1, hf1, fun b o _ h => h, .nil⟩
  refine ⟨_, rfl, _, rfl, wd, W, n, rfl, hK, hw, by omega, rfl, _, rfl, ?_⟩
  generalize er : rem wd W n = r at *
  refine join2 (St H f H1 (mends0 r)) (fun H2 hSt2 => ?_) (fun c cont => ?_) (fun c => ?_)
  rotate_left
  · have c0 : r = 0 := by
      have := V.int.inj (of_decide_eq_true c)
      omega
    refine ⟨_, rfl, .inl ⟨rfl, _, .inl (.inl hf1)⟩, Nat.zero_le _, fun p np => ?_⟩
    refine ⟨f, _, _, rfl, rfl, same_upd np _ _ hf1, (show 0 < sizeLine by rw [sizeLine_eq]; decide), ?_⟩
    unfold mends0 at cont
    rw [if_pos c0] at cont
    exact cont _ (St0.put (r := []) nf np (as := []) hf1 rfl)
  · have c0 : ¬ r = 0 := fun z => by
      have := of_decide_eq_false c
      exact this (by rw [z]; rfl)
    unfold mends0
    rw [if_neg c0]
    exact St0
  have z0 : (mends0 r).length ≤ 1 := by unfold mends0; split <;> simp
  generalize eN : bs.length = N at *
  have hN : (bS bs).length = N := by rw [bS_len]; exact eN
  -- one place
  have emul : ∀ (b : Bool), (N : Int) * (if b = true then (1 : Int) else 0) = ((if b = true then N else 0 : Nat) : Int) := fun b => by cases b <;> simp
  refine ⟨_, rfl, _, rfl, by rw [hN]; exact Nat.le_of_lt (small1000' (by omega)), _, rfl, _, _, rfl, rfl, .inr ⟨_, rfl, _, _, rfl, rfl, .inl ⟨by rw [hN]; omega, by rw [hN]; omega⟩, ?_⟩⟩
  walk_at "b"
  rw [hN, emul]
  have e1 : (if decide ((0 : Int) < (most : Int)) = true then N else 0) = if 0 < most then N else 0 := by
    by_cases c : 0 < most
    · rw [if_pos c, decide_eq_true (by omega), if_pos rfl]
    · rw [if_neg c, decide_eq_false (by omega), if_neg (by decide)]
  have e2 : (if decide ((1 : Int) < (most : Int)) = true then N else 0) = if 1 < most then N else 0 := by
    by_cases c : 1 < most
    · rw [if_pos c, decide_eq_true (by omega), if_pos rfl]
    · rw [if_neg c, decide_eq_false (by omega), if_neg (by decide)]
  rw [e1]
  have eM1 : (if 0 < most then mends1 wd W r N else []) = mends1 wd W r (if 0 < most then N else 0) := by split <;> rfl
  have eM2 : (if 1 < most then mends2 wd W r N else []) = mends2i wd W r N (if 1 < most then N else 0) := by split <;> rfl
  have n1N : (if 0 < most then N else 0) ≤ N := by split <;> omega
  have n2N : (if 1 < most then N else 0) ≤ N := by split <;> omega
  unfold mendsL at q
  rw [eM1, eM2] at q
  generalize (if 0 < most then N else 0) = N1 at *
  generalize (if 1 < most then N else 0) = N2 at *
  have z1 : ∀ i, (mends1 wd W r i).length ≤ i := fun i => by
    unfold mends1
    rw [List.length_map]
    exact Nat.le_trans (List.length_filter_le _ _) (by rw [List.length_range]; exact Nat.le_refl _)
  have few : ∀ (rows : List (List Nat)) (as : List Addr) (HH : Hp), NewRows H f HH as (rowsI rows) → rows.length ≤ 20000 → (as.map V.ref).length < sizeLine := fun rows as HH h hr => by
    rw [List.length_map, h.1]
    unfold rowsI
    rw [List.length_map, sizeLine_eq]
    omega
  refine ⟨_, rfl, by omega, by omega, ?_⟩
  refine for_range (lo := 0) (n := ((N1 : Int)).toNat) (fun i σ H3 => ∃ v3, σ = [some (.int W), some (.str (bS bs)), some (.int most), v3, some (.int n), some (.ref f), none] ∧ St H f H1 (mends0 r ++ mends1 wd W r i) H3) ⟨none, rfl, by rw [mends1_zero, List.append_nil]; exact hSt2⟩ ?_ ?_
  · rintro i σ H3 hi ⟨v3, rfl, hSt⟩
    rw [Int.toNat_natCast] at hi
    rw [show (0 + (i : Int)) = (i : Int) by omega]
    have hx : n ^^^ 2 ^ i < 2 ^ 110 := xor_bound hnum (by omega)
    refine ⟨_, rfl, _, rfl, _, rfl, _, _, rfl, rfl, ⟨by omega, by omega, by decide⟩, _, _, rfl, rfl, wd, W, n ^^^ 2 ^ i, by dsimp only; rw [oneShl, bx]; rfl, hK, hw, by omega, rfl, _, rfl, ?_⟩
    rw [mends1_next, ← List.append_assoc]
    have t1 := rem_turn1 (n := n) (a := i) hK
    rw [er] at t1
    by_cases c : pw wd W i = r
    · refine iteET (by rw [t1.mpr c]; rfl) ?_
      rw [if_pos c]
      obtain ⟨as, s3, hf3, o3, hN3⟩ := id hSt
      refine ⟨_, rfl, .inl ⟨rfl, _, .inl (.inl hf3)⟩, _, rfl, (show 1 ≤ sizeLine by decide), fun p np => ?_⟩
      refine ⟨f, _, _, rfl, rfl, same_upd np _ _ hf3, few _ _ _ hN3 (by rw [List.length_append]; have := z1 i; omega), ?_⟩
      exact ⟨_, rfl, hSt.put (r := [i]) nf np hf3 rfl⟩
    · refine iteEF (fun z => c (t1.mp (by omega))) ?_
      rw [if_neg c, List.append_nil]
      exact ⟨_, rfl, hSt⟩
  · rintro σ H3 ⟨v3, rfl, hSt3⟩
    rw [Int.toNat_natCast] at hSt3
    -- two places
    refine ⟨_, rfl, _, rfl, by rw [hN]; exact Nat.le_of_lt (small1000' (by omega)), _, rfl, _, _, rfl, rfl, .inr ⟨_, rfl, _, _, rfl, rfl, .inl ⟨by rw [hN]; omega, by rw [hN]; omega⟩, ?_⟩⟩
    walk_at "b"
    rw [hN, emul, e2]
    refine ⟨_, rfl, by omega, by omega, ?_⟩
    refine for_range (lo := 0) (n := ((N2 : Int)).toNat) (fun i σ H4 => ∃ v3 v6, σ = [some (.int W), some (.str (bS bs)), some (.int most), v3, some (.int n), some (.ref f), v6] ∧ St H f H1 (mends0 r ++ mends1 wd W r N1 ++ mends2i wd W r N i) H4) ⟨v3, none, rfl, by rw [show mends2i wd W r N 0 = [] from rfl, List.append_nil]; exact hSt3⟩ ?_ ?_
    · rintro i σ H4 hi ⟨v3, v6, rfl, hSt4⟩
      rw [Int.toNat_natCast] at hi
      rw [show (0 + (i : Int)) = (i : Int) by omega]
      refine ⟨_, rfl, _, _, rfl, rfl, _, rfl, _, rfl, by rw [hN]; exact Nat.le_of_lt (small1000' (by omega)), _, _, rfl, ⟨by omega, by omega, by rw [hN]; omega, by rw [hN]; omega⟩, ?_⟩
      walk_at "b"
      rw [hN]
      refine for_range (lo := (i : Int) + 1) (n := ((N : Int) - ((i : Int) + 1)).toNat) (fun j σ H5 => ∃ v6, σ = [some (.int W), some (.str (bS bs)), some (.int most), some (.int i), some (.int n), some (.ref f), v6] ∧ St H f H1 (mends0 r ++ mends1 wd W r N1 ++ mends2i wd W r N i ++ mends2j wd W r i j) H5) ⟨v6, rfl, by rw [show mends2j wd W r i 0 = [] from rfl, List.append_nil]; exact hSt4⟩ ?_ ?_
      · rintro j σ H5 hj ⟨v6, rfl, hSt⟩
        rw [show ((i : Int) + 1 + (j : Int)) = ((i + 1 + j : Nat) : Int) by omega]
        have hx : n ^^^ 2 ^ i < 2 ^ 110 := xor_bound hnum (by omega)
        have hx2 : n ^^^ 2 ^ i ^^^ 2 ^ (i + 1 + j) < 2 ^ 110 := xor_bound hx (by omega)
        refine ⟨_, rfl, _, rfl, _, rfl, _, _, rfl, rfl, ⟨by omega, by omega, by decide⟩, _, _, rfl, rfl, _, rfl, _, _, rfl, rfl, ⟨by omega, by omega, by decide⟩, _, _, rfl, rfl, wd, W, n ^^^ 2 ^ i ^^^ 2 ^ (i + 1 + j), by dsimp only; rw [oneShl, oneShl, bx, bx]; rfl, hK, hw, by omega, rfl, _, rfl, ?_⟩
        rw [mends2j_next, ← List.append_assoc]
        have t1 := rem_turn2 (n := n) (a := i) (b := i + 1 + j) hK
        rw [er] at t1
        by_cases c : pw wd W (i + 1 + j) = r ^^^ pw wd W i
        · refine iteET (by rw [t1.mpr c]; rfl) ?_
          rw [if_pos c]
          obtain ⟨as, s3, hf3, o3, hN3⟩ := id hSt
          refine ⟨_, rfl, .inl ⟨rfl, _, .inl (.inl hf3)⟩, _, rfl, _, rfl, (show 2 ≤ sizeLine by decide), fun p np => ?_⟩
          have y1 := z1 N1
          have y2 := mends2i_len wd W r N i
          have y3 := mends2j_len wd W r i j
          have y4 : i * N ≤ 100 * 100 := Nat.mul_le_mul (by omega) (by omega)
          refine ⟨f, _, _, rfl, rfl, same_upd np _ _ hf3, few _ _ _ hN3 (by rw [List.length_append, List.length_append, List.length_append]; omega), ?_⟩
          exact ⟨_, rfl, hSt.put (r := [i, i + 1 + j]) nf np hf3 rfl⟩
        · refine iteEF (fun z => c (t1.mp (by omega))) ?_
          rw [if_neg c, List.append_nil]
          exact ⟨_, rfl, hSt⟩
      · rintro σ H5 ⟨v6, rfl, hSt⟩
        rw [show ((N : Int) - ((i : Int) + 1)).toNat = N - (i + 1) by omega, List.append_assoc, mends2j_all] at hSt
        exact ⟨_, _, rfl, hSt⟩
    · rintro σ H4 ⟨v3, v6, rfl, as, s4, hf4, o4, hN4⟩
      rw [Int.toNat_natCast] at hN4
      exact ⟨_, rfl, q _ f as s4 nf hf4 hN4⟩
end
end My

namespace My
open PySem PySem.Spec PyProof.Rows L2 Pre
local macro_rules | `(tactic| walk_at "go") => `(tactic| repeat (first | (with_reducible first | refine iteT ?_ | refine iteF ?_ | refine iteNtt ?_ | refine iteNff ?_ | refine iteET (by omega) ?_ | refine iteEF (by omega) ?_ | refine iteENT (by omega) ?_ | refine iteENF (by omega) ?_ | refine iteDT (by omega) ?_ | refine iteDF (by omega) ?_ | refine iteNT (by omega) ?_ | refine iteNF (by omega) ?_) | refine ⟨_, rfl, ?_⟩ | refine ⟨_, _, rfl, rfl, ?_⟩ | refine ⟨_, _, rfl, ?_⟩ | refine ⟨rfl, ?_⟩ | refine .inl ⟨_, rfl, ?_⟩ | refine .inr ⟨_, rfl, ?_⟩))
local macro_rules | `(tactic| walk_at "b") => `(tactic| try dsimp (config := { proj := false, iota := false, eta := false, zeta := false }) only)
section
variable {P : Program} {w : World} {K : PySem.W.Frag} {mg : Str → Option Value} {base : Heap}
def sp_law_right (C : Addr) : Sp := fun vs H Q _ => ∃ (a : Addr) (wd W : Nat) (bs : List Bool), vs = [.ref a, .int W, .str (bS bs)] ∧ CheckAt C H a wd W ∧ wd ≤ 11 ∧ bs.length ≤ 100 ∧ ∀ H', Same H H' → Q (.bl true) H'
theorem mendsL_len (wd W r N most : Nat) : (mendsL wd W r N most).length ≤ 1 + N + N * N := by
  unfold mendsL
  rw [List.length_append, List.length_append]
  have a : (mends0 r).length ≤ 1 := by unfold mends0; split <;> simp
  have b : (if 0 < most then mends1 wd W r N else []).length ≤ N := by
    split
    · unfold mends1
      rw [List.length_map]
      exact Nat.le_trans (List.length_filter_le _ _) (by rw [List.length_range]; exact Nat.le_refl _)
    · simp
  have c : (if 1 < most then mends2 wd W r N else []).length ≤ N * N := by
    split
    · exact mends2i_len wd W r N N
    · simp
  omega
theorem order_2048 {wd W : Nat} (C : Ck wd W) (h : wd ≤ 11) : ∀ d, IsOrder wd W d → d ≤ 2048 := fun d hd => by
  obtain ⟨e, he, hl⟩ := order_ex C
  rw [order_uniq hd he]
  have : 2 ^ wd ≤ 2 ^ 11 := Nat.pow_le_pow_right (by decide) h
  omega
theorem G_law_right (T : Top K mg) : FnOk P w K mg base CX0 5 T.f_law_right T.fd_law_right ["_law_check", "_law_whole", "_law_bits_here"] (sp_law_right T.C_Check) := by
  refine T.F_law_right.ok sc_law_right (fun vs H Q E h => by obtain ⟨a, wd, W, bs, rfl, _⟩ := h; rfl) (fun cdv A outer s H vs Q E hr h => ?_)
  obtain ⟨a, wd, W, bs, rfl, hC, hw, hl, q⟩ := h
  refine ⟨_, PSs.nox (pss_cons (ps_for PassesOwn.never rfl (pi_range1 (by rfl) T.n_range (pa_cons pe_int pa_nil)) (pg_name (i := 3) sc_law_right.nd rfl (by first | exact Or.inl rfl | exact Or.inr rfl))
    (pss_cons (ps_set (i := 4) sc_law_right.nd rfl (by first | exact Or.inl rfl | exact Or.inr rfl) (pe_call (G_law_mends T) (hr.mono (by decide)) (by rfl) T.g_law_mends T.F_law_mends.kp T.b_law_mends .nil pass0 (pa_cons (pv 1) (pa_cons (pv 2) (pa_cons (pv 3) pa_nil)))))
  (pss_cons (ps_set (i := 5) sc_law_right.nd rfl (by first | exact Or.inl rfl | exact Or.inr rfl) (pe_call (G_mends T) (hr.mono (by decide)) (by rfl) T.g_mends T.F_mends.kp T.b_mends .nil pass0 (pa_cons (pv 0) (pa_cons (pv 2) (pa_cons (pv 3) pa_nil)))))
  (pss_cons (ps_if (pt_cmpR (k_neD K rfl hr.units) (pv 5) (pv 4) (nomark _))
    (pss_one (ps_ret pe_bl))
    pss_nil)
  (pss_cons (ps_for PassesOwn.never rfl (k_piL K rfl (pe_op op_cat (pv 5) (pe_lst (pa_cons (pv 5) pa_nil)))) (pg_name (i := 6) sc_law_right.nd rfl (by first | exact Or.inl rfl | exact Or.inr rfl))
    (pss_one (ps_expr (pe_bm PySem.F.plainAttrs_list PySem.F.slot_list_append PySem.F.type_list_append mt_append (pv 6) (pa_cons pe_non pa_nil)))))
  (pss_cons (ps_if (pt_cmpR (k_neD K rfl hr.units) (pe_call (G_mends T) (hr.mono (by decide)) (by rfl) T.g_mends T.F_mends.kp T.b_mends .nil pass0 (pa_cons (pv 0) (pa_cons (pv 2) (pa_cons (pv 3) pa_nil)))) (pv 4) (nomark _))
    (pss_one (ps_ret pe_bl))
    pss_nil)
  (pss_one (ps_if (PW.pt (pw_and (pt_cmpR op_gt (pv 3) pe_int (nomark _)) (pw_and (pt_cmpR op_le (pe_callB call_len_str (by rfl) T.n_len (by decide +kernel) (pa_cons (pv 2) pa_nil)) (pe_call (G_longest T) (hr.mono (by decide)) (by rfl) T.g_longest T.F_longest.kp T.b_longest .nil pass0 (pa_cons (pv 0) (pa_cons (pe_op op_add (pe_op op_mul pe_int (pv 3)) pe_int) pa_nil))) (nomark _)) (pw_and1 (pt_cmpR op_gt (pe_callB (k_len K rfl) (by rfl) T.n_len (by decide +kernel) (pa_cons (pv 4) pa_nil)) pe_int (nomark _))))))
    (pss_one (ps_ret pe_bl))
    pss_nil))))))))
  (pss_one (ps_ret pe_bl))), ?_⟩
  obtain ⟨hK, hw16, dx, ha⟩ := id hC
  refine ⟨_, rfl, by decide, by decide, ?_⟩
  refine for_range (lo := 0) (n := ((3 : Int)).toNat) (fun i σ H1 => ∃ v3 v4 v5 v6, σ = [some (.ref a), some (.int W), some (.str (bS bs)), v3, v4, v5, v6] ∧ Same H H1) ⟨none, none, none, none, rfl, Same.refl _⟩ ?_ ?_
  · rintro i σ H0 hi ⟨v3, v4, v5, v6, rfl, s0⟩
    have hi3 : i < 3 := hi
    rw [show (0 + (i : Int)) = (i : Int) by omega]
    refine ⟨_, rfl, _, rfl, _, rfl, wd, W, bs, i, rfl, hK, hw16, hl, by omega, fun H1 p1 as1 s1 n1 h1 hN1 => ?_⟩
    refine ⟨_, rfl, _, rfl, _, rfl, a, wd, W, bs, i, rfl, (hC.same s0).same s1, hl, by omega, fun H2 p2 as2 s2 n2 h2 hN2 => ?_⟩
    have hR1 := (hN1.rows h1)
    rw [restB_eq] at hN2
    have hR2 := (hN2.rows h2)
    have zl := mendsL_len wd W (rem wd W (numB bs)) bs.length i
    have zN : bs.length * bs.length ≤ 100 * 100 := Nat.mul_le_mul hl hl
    have hshort : ∀ r ∈ mendsL wd W (rem wd W (numB bs)) bs.length i, r.length ≤ 2 := fun r hr => by
      rcases (mends_mem.mp hr).2 with z | ⟨_, _, _, z⟩ | ⟨_, _, _, _, _, z⟩ <;> rw [z] <;> simp
    have hfew : ∀ L, 0 < i → IsLongest wd W (2 * i + 1) L → bs.length ≤ L → (mendsL wd W (rem wd W (numB bs)) bs.length i).length ≤ 1 := fun L h0 hL hN => mends_few hK h0 hi3 hL hN
    generalize eR : mendsL wd W (rem wd W (numB bs)) bs.length i = rows at *
    have zr : (rowsI rows).length ≤ 10101 := by unfold rowsI; rw [List.length_map]; omega
    refine ⟨_, rfl, _, rfl, ne_rows hR2 (hR1.same s2) rfl ⟨_, rfl, iteF ?_⟩⟩
    -- for one in told + [told]
    refine ⟨_, rfl, _, rfl, (show 1 ≤ sizeLine by decide), fun t nt => ?_⟩
    obtain ⟨H3, e3, s3, h3⟩ := fresh (.lst [V.ref p2]) nt
    rw [e3]
    have la2 : as2.length ≤ 10101 := by rw [hN2.1]; exact zr
    refine ⟨p2, t, _, _, rfl, rfl, s3 _ _ h2, h3, by rw [List.length_map, sizeLine_eq]; show as2.length + 1 ≤ _; omega, fun L nL => ?_⟩
    obtain ⟨H4, e4, s4, h4⟩ := fresh (.lst (as2.map V.ref ++ [V.ref p2])) nL
    rw [e4]
    have eL : as2.map V.ref ++ [V.ref p2] = (as2 ++ [p2]).map V.ref := by rw [List.map_append]; rfl
    rw [eL] at h4
    refine ⟨L, rfl, ⟨_, .inl (.inl (by rw [h4]))⟩, ?_⟩
    have big : ∀ b ∈ as2 ++ [p2], H1 b = none ∧ b ≠ L ∧ ∃ xs, H4 b = some (.lst xs) ∧ xs.length ≤ 10101 := fun b hb => by
      rcases List.mem_append.mp hb with z | z
      · obtain ⟨k, hk, rfl⟩ := List.mem_iff_getElem.mp z
        have hk2 : k < (rowsI rows).length := by rw [← hN2.1]; exact hk
        obtain ⟨a1, a2, a3⟩ := hN2.2 k as2[k] ((rowsI rows)[k]) (List.getElem?_eq_getElem hk) (List.getElem?_eq_getElem hk2)
        refine ⟨a1, ne_of_none (s3 _ _ a3) nL, _, s4 _ _ (s3 _ _ a3), ?_⟩
        have hm := List.getElem_mem hk2
        unfold rowsI at hm
        obtain ⟨r, hr, er⟩ := List.mem_map.mp hm
        have := hshort r hr
        rw [List.length_map, show (rowsI rows)[k] = _ from er.symm, List.length_map]
        omega
      · rw [List.mem_singleton.mp z]
        exact ⟨n2, ne_of_none (s3 _ _ h2) nL, _, s4 _ _ (s3 _ _ h2), by rw [List.length_map]; omega⟩
    refine for_list (K := K) (a := L) (xs := (as2 ++ [p2]).map V.ref) (fun k σ H5 => ∃ v6, σ = [some (.ref a), some (.int W), some (.str (bS bs)), some (.int i), some (.ref p1), some (.ref p2), v6] ∧ Same H1 H5 ∧ H5 L = some (.lst ((as2 ++ [p2]).map V.ref)) ∧ ∀ b ∈ as2 ++ [p2], ∃ xs, H5 b = some (.lst xs) ∧ xs.length ≤ 10101 + k) ⟨v6, rfl, s2.trans (s3.trans s4), h4, fun b hb => by
      obtain ⟨_, _, xs, x1, x2⟩ := big b hb
      exact ⟨xs, x1, by omega⟩⟩ (fun k σ H5 _ ⟨_, _, _, h, _⟩ => .inl (.inl h)) ?_ ?_
    · rintro k x σ H5 hx ⟨v6, rfl, s5, h5, hb5⟩
      rw [List.getElem?_map] at hx
      obtain ⟨b, hb, rfl⟩ := Option.map_eq_some_iff.mp hx
      have hm := List.mem_of_getElem? hb
      have hk : k < (as2 ++ [p2]).length := (List.getElem?_eq_some_iff.mp hb).1
      rw [List.length_append, List.length_singleton] at hk
      obtain ⟨b1, b2, _⟩ := big b hm
      obtain ⟨xs, x1, x2⟩ := hb5 b hm
      refine ⟨_, rfl, .inl ⟨rfl, _, .inl (.inl x1)⟩, b, _, _, rfl, rfl, x1, by rw [sizeLine_eq]; omega, ?_⟩
      refine ⟨_, rfl, same_over b1 s5, by rw [upd_ne b2.symm]; exact h5, fun c hc => ?_⟩
      by_cases e : c = b
      · subst e
        exact ⟨_, upd_same, by rw [List.length_append, List.length_singleton]; omega⟩
      · obtain ⟨ys, y1, y2⟩ := hb5 c hc
        exact ⟨ys, by rw [upd_ne e]; exact y1, by omega⟩
    · rintro σ H5 ⟨v6, rfl, s5, h5, hb5⟩
      have s05 := s1.trans s5
      refine ⟨_, rfl, _, rfl, _, rfl, a, wd, W, bs, i, rfl, (hC.same s0).same s05, hl, by omega, fun H6 p6 as6 s6 n6 h6 hN6 => ?_⟩
      rw [restB_eq, eR] at hN6
      have s15 := s5.trans s6
      refine ⟨_, rfl, ne_rows (hN6.rows h6) (hR1.same s15) rfl ⟨_, rfl, iteF ?_⟩⟩
      have s06 := s05.trans s6
      refine ⟨_, rfl, _, _, rfl, rfl, _, rfl, ?_⟩
      by_cases c0 : 0 < i
      · refine iteDT (by omega) ?_
        refine ⟨_, rfl, _, rfl, by rw [bS_len]; exact Nat.le_of_lt (small1000' (by omega)), _, rfl, _, rfl, _, _, rfl, rfl, .inl ⟨by decide, by decide⟩, _, _, rfl, rfl, a, wd, W, 2 * i + 1, rfl, (hC.same s0).same s06, order_2048 hK hw, by omega, by omega, fun Lo H7 s7 hLo => ?_⟩
        refine ⟨_, _, rfl, rfl, _, rfl, ?_⟩
        by_cases c1 : bs.length ≤ Lo
        · refine iteDT (by rw [bS_len]; omega) ?_
          obtain ⟨as1', k1, k2, k3⟩ := (hR1.same s15).same s7
          refine ⟨_, rfl, p1, _, rfl, .inl (.inl (.inl k1)), _, _, rfl, rfl, _, rfl, iteDF ?_ ?_⟩
          · have := hfew Lo c0 hLo c1
            rw [List.length_map, k2]
            unfold rowsI
            rw [List.length_map]
            omega
          · exact ⟨_, _, _, _, rfl, s0.trans (s06.trans s7)⟩
        · refine iteDF (by rw [bS_len]; omega) ?_
          exact ⟨_, _, _, _, rfl, s0.trans (s06.trans s7)⟩
      · refine iteDF (by omega) ?_
        exact ⟨_, _, _, _, rfl, s0.trans s06⟩
  · rintro σ H1 ⟨v3, v4, v5, v6, rfl, s1⟩
    exact q _ s1
end
end My

namespace My
open PySem PySem.Spec PyProof.Rows L2 Pre
/-! ### turned places -/
theorem valP_from (wd W : Nat) (xs : List Nat) : ∀ s, xs.foldl (fun v x => v ^^^ pw wd W x) s = s ^^^ valP wd W xs := by
  unfold valP
  induction xs with
  | nil => intro s; simp
  | cons x r ih =>
    intro s
    rw [List.foldl_cons, List.foldl_cons, ih, ih (0 ^^^ pw wd W x), Nat.zero_xor, Nat.xor_assoc]
theorem valP_cons (wd W x : Nat) (r : List Nat) : valP wd W (x :: r) = pw wd W x ^^^ valP wd W r := by
  show r.foldl (fun v x => v ^^^ pw wd W x) (0 ^^^ pw wd W x) = _
  rw [valP_from, Nat.zero_xor]
theorem valP_perm {wd W : Nat} {xs ys : List Nat} (h : xs.Perm ys) : valP wd W xs = valP wd W ys := by
  induction h with
  | nil => rfl
  | cons x _ ih => rw [valP_cons, valP_cons, ih]
  | swap x y l =>
    rw [valP_cons, valP_cons, valP_cons, valP_cons, ← Nat.xor_assoc, ← Nat.xor_assoc, Nat.xor_comm (pw wd W y)]
  | trans _ _ a b => rw [a, b]
theorem valP_snoc (wd W x : Nat) (r : List Nat) : valP wd W (r ++ [x]) = valP wd W r ^^^ pw wd W x := by
  unfold valP
  rw [List.foldl_append]
  rfl
theorem sorted_mend {wd W N m : Nat} {ts xs : List Nat} (hp : xs.Perm ts) (nd : ts.Nodup) (hN : ∀ t ∈ ts, t < N) (hs : xs.Pairwise (· ≤ ·)) (hm : ts.length ≤ m) (m2 : m ≤ 2) : xs ∈ mendsL wd W (valP wd W ts) N m := by
  have hl := hp.length_eq
  have ndx : xs.Nodup := hp.nodup_iff.mpr nd
  have hNx : ∀ t ∈ xs, t < N := fun t ht => hN t (hp.mem_iff.mp ht)
  refine mends_mem.mpr ⟨valP_perm hp, ?_⟩
  match xs, hl, ndx, hNx, hs with
  | [], _, _, _, _ => exact .inl rfl
  | [a], hl, _, hNx, _ => exact .inr (.inl ⟨by simp at hl; omega, a, hNx a (by simp), rfl⟩)
  | [a, b], hl, nd, hNx, hs =>
    refine .inr (.inr ⟨by simp at hl; omega, a, b, ?_, hNx b (by simp), rfl⟩)
    have h1 : a ≤ b := by simpa using hs
    have h2 : a ≠ b := by simpa using nd
    omega
  | _ :: _ :: _ :: _, hl, _, _, _ => simp at hl; omega
/-- a list sorted -/
theorem sorted_nat {ts : List Nat} {ns : List Int} (hp : ns.Perm (ts.map fun (t : Nat) => (t : Int))) (hs : ns.Pairwise (· ≤ ·)) : ∃ xs : List Nat, xs.Perm ts ∧ ns = xs.map (fun (t : Nat) => (t : Int)) ∧ xs.Pairwise (· ≤ ·) := by
  have e : ns = (ns.map Int.toNat).map fun (t : Nat) => (t : Int) := by
    rw [List.map_map]
    have : ∀ n ∈ ns, ((fun (t : Nat) => (t : Int)) ∘ Int.toNat) n = n := fun n hn => by
      obtain ⟨t, _, rfl⟩ := List.mem_map.mp (hp.mem_iff.mp hn)
      simp
    conv => lhs; rw [← List.map_id ns]
    exact (List.map_congr_left this).symm
  refine ⟨ns.map Int.toNat, ?_, e, ?_⟩
  · have := hp.map Int.toNat
    rw [List.map_map] at this
    have e2 : (ts.map (Int.toNat ∘ fun (t : Nat) => (t : Int))) = ts := by
      conv => rhs; rw [← List.map_id ts]
      exact List.map_congr_left fun t _ => by simp
    rwa [e2] at this
  · refine List.pairwise_map.mpr (hs.imp fun {a b} h => ?_)
    exact Int.toNat_le_toNat h
theorem RowsIn.nil {H : Hp} {q : Addr} (h : H q = some (.lst [])) : RowsIn H q [] := ⟨[], h, rfl, fun i a r ha => by simp at ha⟩
theorem rows_of {H : Hp} {q : Addr} {as : List Addr} {rows : List (List Int)} (h : H q = some (.lst (as.map V.ref))) (k : NewRows (fun _ => none) q H as rows) : RowsIn H q rows := ⟨as, h, k.1, fun i a r ha hr => (k.2 i a r ha hr).2.2⟩
theorem sealed_right {wd W : Nat} (C : Ck wd W) (bs : List Bool) : rem wd W (numB (bs ++ bitsB (wordB wd W bs) wd)) = 0 := by
  have hw : wordB wd W bs < 2 ^ wd := by
    unfold wordB
    rw [restB_eq]
    exact rem_lt C _
  have e1 : wordB wd W bs = rem wd W (numB bs * 2 ^ wd) := by
    unfold wordB
    rw [restB_eq, numB_app, List.length_replicate]
    have : ∀ k, numB (List.replicate k false) = 0 := fun k => by
      induction k with
      | zero => rfl
      | succ k ih => rw [List.replicate_succ']; rw [numB_snoc, ih]; rfl
    rw [this, Nat.add_zero]
  rw [numB_app, bitsB_len, numB_bits, Nat.mod_eq_of_lt hw]
  have e2 : numB bs * 2 ^ wd + wordB wd W bs = (numB bs * 2 ^ wd) ^^^ wordB wd W bs := by
    have h := Nat.shiftLeft_add_eq_or_of_lt hw (numB bs)
    rw [Nat.shiftLeft_eq] at h
    rw [h]
    refine Nat.eq_of_testBit_eq fun i => ?_
    rw [Nat.testBit_or, Nat.testBit_xor]
    have t1 : (numB bs * 2 ^ wd).testBit i = (decide (i ≥ wd) && (numB bs).testBit (i - wd)) := by rw [← Nat.shiftLeft_eq, Nat.testBit_shiftLeft]
    rw [t1]
    by_cases c : i ≥ wd
    · have : 2 ^ wd ≤ 2 ^ i := Nat.pow_le_pow_right (by decide) c
      rw [Nat.testBit_lt_two_pow (x := wordB wd W bs) (by omega)]
      simp
    · simp [c]
  rw [e2, rem_xor C, ← e1, rem_small C _ hw, Nat.xor_self]
end My

namespace My
open PySem PySem.Spec PyProof.Rows L2 Pre
/-- ways of an `and` that meet again behind it -/
theorem join3 {b : Bool} {A B : Prop} {R : Hp → Prop} {H : Hp} (Pv : Hp → Prop) (cont : ∀ H', Pv H' → R H') (h1 : b = true → (∀ H', Pv H' → R H') → A) (h2 : b = false → Pv H) : if b = true then A else (if false = true then B else R H) := by
  cases b with
  | true => rw [if_pos rfl]; exact h1 rfl cont
  | false => rw [if_neg (by decide), if_neg (by decide)]; exact cont _ (h2 rfl)
theorem k_sortedI {X : Cx} (K : PySem.W.Frag) (h : X.K = K) : CallR X (.builtin "sorted") (rSortedI K) := by subst h; exact cr_sortedI
theorem inV_ints (x : Int) : ∀ l : List Int, inV (.int x) (l.map V.int) = decide (x ∈ l)
  | [] => rfl
  | y :: l => by
    have ih := inV_ints x l
    unfold inV at ih ⊢
    rw [List.map_cons, List.any_cons, ih]
    show ((y == x) || decide (x ∈ l)) = decide (x ∈ y :: l)
    by_cases h : y = x
    · subst h; simp
    · have : ¬ x = y := fun z => h z.symm
      simp [h, this]
theorem flat_ints : ∀ l : List Int, (l.map V.int).all flatV = true
  | [] => rfl
  | y :: l => by
    rw [List.map_cons, List.all_cons, flat_ints l]
    rfl
local macro_rules | `(tactic| walk_at "go") => `(tactic| repeat (first | (with_reducible first | refine iteT ?_ | refine iteF ?_ | refine iteNtt ?_ | refine iteNff ?_ | refine iteET (by omega) ?_ | refine iteEF (by omega) ?_ | refine iteENT (by omega) ?_ | refine iteENF (by omega) ?_ | refine iteDT (by omega) ?_ | refine iteDF (by omega) ?_ | refine iteNT (by omega) ?_ | refine iteNF (by omega) ?_) | refine ⟨_, rfl, ?_⟩ | refine ⟨_, _, rfl, rfl, ?_⟩ | refine ⟨_, _, rfl, ?_⟩ | refine ⟨rfl, ?_⟩ | refine .inl ⟨_, rfl, ?_⟩ | refine .inr ⟨_, rfl, ?_⟩))
local macro_rules | `(tactic| walk_at "b") => `(tactic| try dsimp (config := { proj := false, iota := false, eta := false, zeta := false }) only)
section
variable {P : Program} {w : World} {K : PySem.W.Frag} {mg : Str → Option Value} {base : Heap}
def sp_law (K : PySem.W.Frag) : Sp := fun vs H Q _ => ∃ (a : Addr) (ns : List Int), vs = [.ref a] ∧ SqL K H a (ns.map V.int) ∧ ns.length ≤ 63 ∧ ∀ H', Q (.bl true) H'
def nI (ts : List Nat) : List Int := ts.map fun (t : Nat) => (t : Int)
theorem G_law (T : Top K mg) : FnOk P w K mg base CX0 6 T.f_law T.fd_law ["_law_script"] (sp_law K) := by
  refine T.F_law.ok sc_law (fun vs H Q E h => by obtain ⟨a, ns, rfl, _⟩ := h; rfl) (fun cdv A outer s H vs Q E hr h => ?_)
  obtain ⟨a, ns, rfl, hS, hn, q⟩ := h
  refine ⟨_, PSs.nox (pss_cons (ps_for PassesOwn.never rfl (pi_range1 (by rfl) T.n_range (pa_cons pe_int pa_nil)) (pg_name (i := 1) sc_law.nd rfl (by first | exact Or.inl rfl | exact Or.inr rfl))
    (pss_cons (ps_set (i := 3) sc_law.nd rfl (by first | exact Or.inl rfl | exact Or.inr rfl) (pe_call (G_law_generator T) (hr.mono (by decide)) (by rfl) T.g_law_generator T.F_law_generator.kp T.b_law_generator .nil pass0 (pa_cons (pv 0) (pa_cons (pv 1) pa_nil))))
  (pss_cons (ps_set (i := 4) sc_law.nd rfl (by first | exact Or.inl rfl | exact Or.inr rfl) (pe_op op_add pe_int (pe_call (G_law_random T) (hr.mono (by decide)) (by rfl) T.g_law_random T.F_law_random.kp T.b_law_random .nil pass0 (pa_cons (pv 3) (pa_cons pe_int pa_nil)))))
  (pss_cons (ps_set (i := 5) sc_law.nd rfl (by first | exact Or.inl rfl | exact Or.inr rfl) (pe_call (G_law_drawn T) (hr.mono (by decide)) (by rfl) T.g_law_drawn T.F_law_drawn.kp T.b_law_drawn .nil pass0 (pa_cons (pv 3) (pa_cons (pv 4) pa_nil))))
  (pss_cons (ps_par (by rfl) sc_law.nd (i := 11) (j := 12) rfl rfl (by decide) rfl rfl (pa_cons (pe_make T.mk_Check (G_Check___init__ T) (hr.mono (by decide)) (by rfl) T.gc_Check T.b_Check___init__ .nil pass0 (pa_cons (pv 4) (pa_cons (pv 5) pa_nil))) (pa_cons (pe_op op_add (pe_op op_shl pe_int (pv 4)) (pv 5)) pa_nil)) (by rfl))
  (pss_cons (ps_set (i := 6) sc_law.nd rfl (by first | exact Or.inl rfl | exact Or.inr rfl) (pe_call (G_sealed T) (hr.mono (by decide)) (by rfl) T.g_sealed T.F_sealed.kp T.b_sealed .nil pass0 (pa_cons (pv 11) (pa_cons (pe_call (G_law_row T) (hr.mono (by decide)) (by rfl) T.g_law_row T.F_law_row.kp T.b_law_row .nil pass0 (pa_cons (pv 3) (pa_cons (pe_call (G_law_random T) (hr.mono (by decide)) (by rfl) T.g_law_random T.F_law_random.kp T.b_law_random .nil pass0 (pa_cons (pv 3) (pa_cons pe_int pa_nil))) pa_nil))) pa_nil))))
  (pss_cons (ps_par (by rfl) sc_law.nd (i := 13) (j := 14) rfl rfl (by decide) rfl rfl (pa_cons (pe_call (G_law_number T) (hr.mono (by decide)) (by rfl) T.g_law_number T.F_law_number.kp T.b_law_number .nil pass0 (pa_cons (pv 6) pa_nil)) (pa_cons (pe_lst pa_nil) pa_nil)) (by rfl))
  (pss_cons (ps_for PassesOwn.never rfl (pi_range1 (by rfl) T.n_range (pa_cons (pe_call (G_law_random T) (hr.mono (by decide)) (by rfl) T.g_law_random T.F_law_random.kp T.b_law_random .nil pass0 (pa_cons (pv 3) (pa_cons pe_int pa_nil))) pa_nil)) (pg_name (i := 7) sc_law.nd rfl (by first | exact Or.inl rfl | exact Or.inr rfl))
    (pss_cons (ps_set (i := 15) sc_law.nd rfl (by first | exact Or.inl rfl | exact Or.inr rfl) (pe_call (G_law_random T) (hr.mono (by decide)) (by rfl) T.g_law_random T.F_law_random.kp T.b_law_random .nil pass0 (pa_cons (pv 3) (pa_cons (pe_callB call_len_str (by rfl) T.n_len (by decide +kernel) (pa_cons (pv 6) pa_nil)) pa_nil))))
  (pss_one (ps_if (pt_cmpR (k_notIn K rfl) (pv 15) (pv 14) (by rfl))
    (pss_cons (ps_expr (pe_bm PySem.F.plainAttrs_list PySem.F.slot_list_append PySem.F.type_list_append mt_append (pv 14) (pa_cons (pv 15) pa_nil)))
  (pss_one (ps_set (i := 13) sc_law.nd rfl (by first | exact Or.inl rfl | exact Or.inr rfl) (pe_op op_xor (pv 13) (pe_op op_shl pe_int (pv 15))))))
    pss_nil))))
  (pss_cons (ps_set (i := 8) sc_law.nd rfl (by first | exact Or.inl rfl | exact Or.inr rfl) (pe_call (G_law_bits T) (hr.mono (by decide)) (by rfl) T.g_law_bits T.F_law_bits.kp T.b_law_bits .nil pass0 (pa_cons (pv 13) (pa_cons (pe_callB call_len_str (by rfl) T.n_len (by decide +kernel) (pa_cons (pv 6) pa_nil)) pa_nil))))
  (pss_cons (ps_set (i := 9) sc_law.nd rfl (by first | exact Or.inl rfl | exact Or.inr rfl) (pe_call (G_law_row T) (hr.mono (by decide)) (by rfl) T.g_law_row T.F_law_row.kp T.b_law_row .nil pass0 (pa_cons (pv 3) (pa_cons (pe_call (G_law_random T) (hr.mono (by decide)) (by rfl) T.g_law_random T.F_law_random.kp T.b_law_random .nil pass0 (pa_cons (pv 3) (pa_cons pe_int pa_nil))) pa_nil))))
  (pss_cons (ps_if (PW.pt (pw_or (pt_not (pt_val (pe_call (G_law_right T) (hr.mono (by decide)) (by rfl) T.g_law_right T.F_law_right.kp T.b_law_right .nil pass0 (pa_cons (pv 11) (pa_cons (pv 12) (pa_cons (pv 8) pa_nil)))))) (pw_or1 (pt_not (pt_val (pe_call (G_law_right T) (hr.mono (by decide)) (by rfl) T.g_law_right T.F_law_right.kp T.b_law_right .nil pass0 (pa_cons (pv 11) (pa_cons (pv 12) (pa_cons (pv 9) pa_nil)))))))))
    (pss_one (ps_ret pe_bl))
    pss_nil)
  (pss_cons (ps_if (PW.pt (pw_and (pt_cmpR op_lt (pe_callB (k_len K rfl) (by rfl) T.n_len (by decide +kernel) (pa_cons (pv 14) pa_nil)) pe_int (nomark _)) (pw_and1 (pt_cmpR (k_notInD K rfl (huD hr)) (pe_callB (k_sortedI K rfl) (by rfl) T.n_sorted (by decide +kernel) (pa_cons (pv 14) pa_nil)) (pe_call (G_mends T) (hr.mono (by decide)) (by rfl) T.g_mends T.F_mends.kp T.b_mends .nil pass0 (pa_cons (pv 11) (pa_cons (pv 8) (pa_cons pe_int pa_nil)))) (by rfl)))))
    (pss_one (ps_ret pe_bl))
    pss_nil)
  (pss_cons (ps_set (i := 10) sc_law.nd rfl (by first | exact Or.inl rfl | exact Or.inr rfl) (pe_callB (call_max2 rfl) (by rfl) T.n_max (by decide +kernel) (pa_cons pe_int (pa_cons (pe_callB (k_len K rfl) (by rfl) T.n_len (by decide +kernel) (pa_cons (pv 14) pa_nil)) pa_nil))))
  (pss_one (ps_if (PW.pt (pw_and (pt_cmpR op_lt (pv 10) pe_int (nomark _)) (pw_and (pt_cmpR op_le (pe_callB call_len_str (by rfl) T.n_len (by decide +kernel) (pa_cons (pv 6) pa_nil)) (pe_call (G_longest T) (hr.mono (by decide)) (by rfl) T.g_longest T.F_longest.kp T.b_longest .nil pass0 (pa_cons (pv 11) (pa_cons (pe_op op_add (pe_op op_mul pe_int (pv 10)) pe_int) pa_nil))) (nomark _)) (pw_and1 (pt_cmpR (k_neD K rfl hr.units) (pe_call (G_mends T) (hr.mono (by decide)) (by rfl) T.g_mends T.F_mends.kp T.b_mends .nil pass0 (pa_cons (pv 11) (pa_cons (pv 8) (pa_cons (pv 10) pa_nil)))) (pe_lst (pa_cons (pe_callB (k_sortedI K rfl) (by rfl) T.n_sorted (by decide +kernel) (pa_cons (pv 14) pa_nil)) pa_nil)) (nomark _))))))
    (pss_one (ps_ret pe_bl))
    pss_nil)))))))))))))))
  (pss_cons (ps_set (i := 2) sc_law.nd rfl (by first | exact Or.inl rfl | exact Or.inr rfl) (pe_make T.mk_Check (G_Check___init__ T) (hr.mono (by decide)) (by rfl) T.gc_Check T.b_Check___init__ .nil pass0 (pa_cons pe_int (pa_cons pe_int pa_nil))))
  (pss_cons (ps_if (PW.pt (pw_or (pt_cmpR (k_neD K rfl hr.units) (pe_call (G_mends T) (hr.mono (by decide)) (by rfl) T.g_mends T.F_mends.kp T.b_mends .nil pass0 (pa_cons (pv 2) (pa_cons pe_str (pa_cons pe_int pa_nil)))) (pe_lst (pa_cons (pe_lst pa_nil) pa_nil)) (nomark _)) (pw_or (pt_cmpR (k_neD K rfl hr.units) (pe_call (G_mends T) (hr.mono (by decide)) (by rfl) T.g_mends T.F_mends.kp T.b_mends .nil pass0 (pa_cons (pv 2) (pa_cons pe_str (pa_cons pe_int pa_nil)))) (pe_lst (pa_cons (pe_lst (pa_cons pe_int pa_nil)) pa_nil)) (nomark _)) (pw_or1 (pt_cmpR (k_neD K rfl hr.units) (pe_call (G_mends T) (hr.mono (by decide)) (by rfl) T.g_mends T.F_mends.kp T.b_mends .nil pass0 (pa_cons (pv 2) (pa_cons pe_str (pa_cons pe_int pa_nil)))) (pe_lst pa_nil) (nomark _))))))
    (pss_one (ps_ret pe_bl))
    pss_nil)
  (pss_cons (ps_if (PW.pt (pw_or (pt_cmpR (k_neD K rfl hr.units) (pe_call (G_mends T) (hr.mono (by decide)) (by rfl) T.g_mends T.F_mends.kp T.b_mends .nil pass0 (pa_cons (pv 2) (pa_cons pe_str (pa_cons pe_int pa_nil)))) (pe_lst (pa_cons (pe_lst pa_nil) pa_nil)) (nomark _)) (pw_or1 (pt_cmpR (k_neD K rfl hr.units) (pe_call (G_mends T) (hr.mono (by decide)) (by rfl) T.g_mends T.F_mends.kp T.b_mends .nil pass0 (pa_cons (pv 2) (pa_cons pe_str (pa_cons pe_int pa_nil)))) (pe_lst (pa_cons (pe_lst (pa_cons pe_int pa_nil)) pa_nil)) (nomark _)))))
    (pss_one (ps_ret pe_bl))
    pss_nil)
  (pss_one (ps_ret (pe_cmpR (k_eqD K rfl hr.units) (pe_call (G_mends T) (hr.mono (by decide)) (by rfl) T.g_mends T.F_mends.kp T.b_mends .nil pass0 (pa_cons (pv 2) (pa_cons pe_str (pa_cons pe_int pa_nil)))) (pe_lst (pa_cons (pe_lst (pa_cons pe_int pa_nil)) (pa_cons (pe_lst (pa_cons pe_int (pa_cons pe_int pa_nil))) (pa_cons (pe_lst (pa_cons pe_int (pa_cons pe_int pa_nil))) (pa_cons (pe_lst (pa_cons pe_int (pa_cons pe_int pa_nil))) pa_nil))))) (nomark _)))))))), ?_⟩
  refine ⟨_, rfl, by decide, by decide, ?_⟩
  refine for_range (lo := 0) (n := ((2 : Int)).toNat) (fun i σ H1 => ∃ v1 v2 v3 v4 v5 v6 v7 v8 v9 v10 v11 v12 v13 v14 v15, σ = [some (.ref a), v1, v2, v3, v4, v5, v6, v7, v8, v9, v10, v11, v12, v13, v14, v15] ∧ Same H H1) ⟨none, none, none, none, none, none, none, none, none, none, none, none, none, none, none, rfl, Same.refl _⟩ ?_ ?_
  · rintro i σ H1 hi ⟨v1, v2, v3, v4, v5, v6, v7, v8, v9, v10, v11, v12, v13, v14, v15, rfl, s1⟩
    rw [show (0 : Int) + (i : Int) = i by omega]
    have hi2 : i < 2 := hi
    refine ⟨_, rfl, _, rfl, a, ns, i, rfl, s1.seq hS, fun H2 g s2 ng g2 => ?_⟩
    have s02 := s1.trans s2
    have nHg : H g = none := s1.free ng
    -- width, low
    refine ⟨_, rfl, g, _, _, rfl, g2, by omega, by decide, small_2900 (by decide), fun r1 H3 r10 r11 g3 b3 => ?_⟩
    refine ⟨_, _, rfl, rfl, ?_⟩
    obtain ⟨wd, hwd⟩ : ∃ wd : Nat, 1 + r1 = (wd : Int) := ⟨(1 + r1).toNat, by omega⟩
    have w1 : 1 ≤ wd := by omega
    have w9 : wd ≤ 9 := by omega
    dsimp only
    rw [hwd]
    refine ⟨_, rfl, _, rfl, g, _, wd, rfl, g3, by omega, w1, by omega, fun l H4 l1 l2 g4 b4 => ?_⟩
    -- Check
    refine ⟨_, rfl, _, rfl, ?_⟩
    intro c dx nc ndx nec
    obtain ⟨H5, e5⟩ : ∃ H5, upd (upd H4 dx (.own c)) c (.ins T.C_Check dx []) = H5 := ⟨_, rfl⟩
    rw [e5]
    have s5 : Same H4 H5 := fun b o e => by
      rw [← e5, upd_ne (ne_of_none e nc), upd_ne (ne_of_none e ndx)]
      exact e
    refine ⟨c, dx, wd, l, rfl, by rw [← e5]; exact upd_same, w1, by omega, l1, l2, fun H6 kp hC6 => ⟨rfl, ?_⟩⟩
    have s6 : Same H4 H6 := fun b o e => kp b o (ne_of_none e nc) (s5 b o e)
    have g6 := g4.same s6
    have b26 : But g H2 H6 := (b3.trans b4).same s6
    have eW : (1 : Int) * 2 ^ ((wd : Int)).toNat + (l : Int) = ((2 ^ wd + l : Nat) : Int) := by rw [oneShl]; omega
    refine ⟨_, rfl, _, _, rfl, rfl, ⟨by omega, by omega, by decide⟩, _, rfl, _, _, rfl, rfl, _, _, rfl, ?_⟩
    dsimp only
    rw [eW]
    generalize eWW : 2 ^ wd + l = W at hC6 ⊢
    have hK : Ck wd W := hC6.1
    -- sealed
    refine ⟨_, rfl, _, rfl, _, rfl, g, _, _, rfl, g6, by omega, by decide, small_2900 (by decide), fun r2 H7 r20 r21 g7 b7 => ?_⟩
    obtain ⟨k2, rfl⟩ : ∃ k : Nat, r2 = (k : Int) := ⟨r2.toNat, by omega⟩
    refine ⟨g, _, k2, rfl, g7, by omega, by omega, fun bs0 H8 hb0 g8 b8 => ?_⟩
    obtain ⟨xg, yg, zg, hg6, _⟩ := id g6
    have ncg : c ≠ g := hC6.ne hg6
    have hC8 := (hC6.but ncg b7).but ncg b8
    refine ⟨c, wd, W, bs0, rfl, hC8, by omega, fun H9 s9 => ?_⟩
    have hz := sealed_right hK bs0
    have hlen : (bs0 ++ bitsB (wordB wd W bs0) wd).length = k2 + wd := by rw [List.length_append, bitsB_len, hb0]
    generalize bs0 ++ bitsB (wordB wd W bs0) wd = bs at hz hlen
    have g9 := g8.same s9
    have hC9 := hC8.same s9
    have b29 : But g H2 H9 := ((b26.trans b7).trans b8).same s9
    -- number, turned
    refine ⟨_, rfl, bs, rfl, Nat.zero_le _, fun t nt => ?_⟩
    obtain ⟨H10, e10, s10, ht10⟩ := fresh (.lst []) nt
    rw [e10]
    refine ⟨_, _, rfl, ?_⟩
    have g10 := g9.same s10
    have ntg : t ≠ g := g9.ne nt
    have hCt : c ≠ t := (hC9.same s10).ne ht10
    have b210 : But g H2 H10 := b29.same s10
    have nH2t : H2 t = none := b29.free ntg nt
    have hn0 : numB bs < 2 ^ (k2 + wd) := by rw [← hlen]; exact numB_lt bs
    -- the turned places
    refine ⟨_, rfl, g, _, _, rfl, g10, by omega, by decide, small_2900 (by decide), fun r3 H11 r30 r31 g11 b11 => ?_⟩
    obtain ⟨k3, rfl⟩ : ∃ k : Nat, r3 = (k : Int) := ⟨r3.toNat, by omega⟩
    refine ⟨_, rfl, by omega, by omega, ?_⟩
    refine for_range (lo := 0) (n := ((k3 : Int)).toNat) (fun j σ H12 => ∃ (v7 v15 : Option V) (ts : List Nat) (n' : Nat), σ = [some (.ref a), some (.int i), v2, some (.ref g), some (.int wd), some (.int l), some (.str (bS bs)), v7, v8, v9, v10, some (.ref c), some (.int W), some (.int n'), some (.ref t), v15] ∧
      (∀ b o, b ≠ t → b ≠ g → H2 b = some o → H12 b = some o) ∧ GenAt H12 g (1000 * i + 600 + 100 * j) ∧ CheckAt T.C_Check H12 c wd W ∧ H12 t = some (.lst ((nI ts).map V.int)) ∧ ts.Nodup ∧ (∀ x ∈ ts, x < k2 + wd) ∧ ts.length ≤ j ∧ n' < 2 ^ (k2 + wd) ∧ rem wd W n' = valP wd W ts)
      ⟨v7, v15, [], numB bs, rfl, fun b o _ ng hb => b11 b o ng (b210 b o ng hb), g11.mono (by omega), (hC9.same s10).but ncg b11, b11 _ _ ntg ht10, List.nodup_nil, fun x hx => by simp at hx, Nat.le_refl _, hn0, by rw [hz]; rfl⟩ ?_ ?_
    · rintro j σ H12 hj ⟨v7, v15, ts, n', rfl, o12, g12, hC12, ht12, nd, hts, htl, hn', hr'⟩
      rw [Int.toNat_natCast] at hj
      refine ⟨_, rfl, _, rfl, _, rfl, by rw [bS_len, hlen]; exact Nat.le_of_lt (small1000' (by omega)), g, _, _, rfl, g12, by omega, by rw [bS_len, hlen]; omega, small_2900 (by rw [bS_len, hlen]; omega), fun r4 H13 r40 r41 g13 b13 => ?_⟩
      rw [bS_len, hlen] at r41
      obtain ⟨p, rfl⟩ : ∃ k : Nat, r4 = (k : Int) := ⟨r4.toNat, by omega⟩
      have ht13 := b13 _ _ ntg ht12
      have o13 : ∀ b o, b ≠ t → b ≠ g → H2 b = some o → H13 b = some o := fun b o n1 n2 hb => b13 b o n2 (o12 b o n1 n2 hb)
      have hC13 := hC12.but ncg b13
      have g13' : GenAt H13 g (1000 * i + 600 + 100 * (j + 1)) := g13.mono (by omega)
      refine ⟨_, rfl, _, rfl, t, _, rfl, .inl (.inl (.inl ht13)), rfl, flat_ints _, _, rfl, ?_⟩
      rw [if_pos rfl, inV_ints]
      have em : decide ((p : Int) ∈ nI ts) = decide (p ∈ ts) := by
        refine decide_eq_decide.mpr ⟨fun h => ?_, fun h => List.mem_map.mpr ⟨p, h, rfl⟩⟩
        obtain ⟨x, hx, e⟩ := List.mem_map.mp h
        have : x = p := by omega
        rw [← this]
        exact hx
      rw [em]
      by_cases cp : p ∈ ts
      · rw [decide_eq_true cp]
        refine iteF ?_
        exact ⟨_, _, ts, n', rfl, o13, g13', hC13, ht13, nd, hts, by omega, hn', hr'⟩
      · rw [decide_eq_false cp]
        refine iteT ?_
        refine ⟨_, rfl, .inl ⟨rfl, _, .inl (.inl ht13)⟩, _, rfl, t, _, _, rfl, rfl, ht13, by unfold nI; rw [List.length_map, List.length_map]; exact small1000' (by omega), ?_⟩
        refine ⟨_, rfl, _, rfl, _, _, rfl, rfl, ⟨by omega, by omega, by decide⟩, _, _, rfl, rfl, ?_⟩
        dsimp only
        rw [oneShl, bx]
        refine ⟨_, _, ts ++ [p], n' ^^^ 2 ^ p, rfl, fun b o n1 n2 hb => by rw [upd_ne n1]; exact o13 b o n1 n2 hb, ?_, ?_, ?_, ?_, ?_, ?_, xor_bound hn' (by omega), ?_⟩
        · obtain ⟨x1, x2, x3, x4, x5⟩ := g13'
          exact ⟨x1, x2, x3, by rw [upd_ne ntg.symm]; exact x4, x5⟩
        · obtain ⟨c1, c2, dx', c3⟩ := hC13
          exact ⟨c1, c2, dx', by rw [upd_ne hCt]; exact c3⟩
        · rw [upd_same]
          unfold nI
          rw [List.map_append, List.map_append]
          rfl
        · refine List.nodup_append.mpr ⟨nd, by simp, fun x hx y hy e => ?_⟩
          rw [List.mem_singleton.mp hy] at e
          exact cp (e ▸ hx)
        · intro x hx
          rcases List.mem_append.mp hx with z | z
          · exact hts x z
          · rw [List.mem_singleton.mp z]
            omega
        · rw [List.length_append, List.length_singleton]
          omega
        · rw [rem_xor hK, valP_snoc, hr']
          rfl
    · rintro σ H12 ⟨v7, v15, ts, n', rfl, o12, g12, hC12, ht12, nd, hts, htl, hn', hr'⟩
      rw [Int.toNat_natCast] at g12 htl
      refine ⟨_, rfl, _, rfl, _, rfl, by rw [bS_len, hlen]; exact Nat.le_of_lt (small1000' (by omega)), n', k2 + wd, by first | (rw [bS_len, hlen]; done) | (rw [bS_len, hlen]; rfl), by omega, fun H13 s13 => ?_⟩
      have hbl := bitsB_len n' (k2 + wd)
      have hbr : restB wd W (bitsB n' (k2 + wd)) = valP wd W ts := by rw [restB_eq, numB_bits, Nat.mod_eq_of_lt hn', hr']
      generalize bitsB n' (k2 + wd) = bent at hbl hbr ⊢
      have g13 := g12.same s13
      refine ⟨_, rfl, _, rfl, g, _, _, rfl, g13, by omega, by decide, small_2900 (by decide), fun r5 H14 r50 r51 g14 b14 => ?_⟩
      obtain ⟨k5, rfl⟩ : ∃ k : Nat, r5 = (k : Int) := ⟨r5.toNat, by omega⟩
      refine ⟨g, _, k5, rfl, g14, by omega, by omega, fun other H15 ho g15 b15 => ?_⟩
      have hC15 := ((hC12.same s13).but ncg b14).but ncg b15
      have ht15 := b15 _ _ ntg (b14 _ _ ntg (s13 _ _ ht12))
      have o15 : ∀ b o, b ≠ t → b ≠ g → H2 b = some o → H15 b = some o := fun b o n1 n2 hb => b15 _ _ n2 (b14 _ _ n2 (s13 _ _ (o12 b o n1 n2 hb)))
      have sHH : Same H H15 := fun b o hb => o15 b o (ne_of_none hb (s02.free nH2t)) (ne_of_none hb nHg) (s02 b o hb)
      refine ⟨_, rfl, _, rfl, _, rfl, c, wd, W, bent, rfl, hC15, by omega, by omega, fun H16 s16 => ⟨_, rfl, iteF ?_⟩⟩
      refine ⟨_, rfl, _, rfl, _, rfl, c, wd, W, other, rfl, hC15.same s16, by omega, by omega, fun H17 s17 => ⟨_, rfl, iteF ?_⟩⟩
      have s157 := s16.trans s17
      have hC17 := hC15.same s157
      have ht17 := s157 _ _ ht15
      have sH17 := sHH.trans s157
      have lT : ((nI ts).map V.int).length = ts.length := by unfold nI; rw [List.length_map, List.length_map]
      -- len(turned) < 3 and ..
      refine ⟨_, rfl, t, _, rfl, .inl (.inl (.inl ht17)), _, _, rfl, rfl, _, rfl, ?_⟩
      walk_at "b"
      refine join3 (fun H' => Same H17 H') (fun H18 s18 => ?_) (fun cc cont => ?_) (fun cc => ?_)
      rotate_left
      · 
        have c3 : ts.length < 3 := by
          have := of_decide_eq_true cc
          rw [lT] at this
          omega
        refine ⟨_, rfl, t, nI ts, rfl, .inl (.inl ht17), fun ns' p hp hs np => ?_⟩
        obtain ⟨xs, hx1, rfl, hx2⟩ := sorted_nat hp hs
        obtain ⟨H18, e18, s18, h18⟩ := fresh (.lst ((xs.map fun (t : Nat) => (t : Int)).map V.int)) np
        rw [e18]
        refine ⟨_, rfl, _, rfl, c, wd, W, bent, 2, rfl, hC17.same s18, by omega, by omega, fun H19 p9 as9 s19 n19 h19 hN19 => ?_⟩
        rw [hbr, hbl] at hN19
        have hmem := sorted_mend (wd := wd) (W := W) hx1 nd hts hx2 (m := 2) (by omega) (by omega)
        generalize mendsL wd W (valP wd W ts) (k2 + wd) 2 = rows at hmem hN19
        obtain ⟨bs9, k1, k2', k3'⟩ := hN19.rows h19
        refine ⟨rowD (xs.map fun (t : Nat) => (t : Int)), (rowsI rows).map rowD, .lst (.inl (.inl (s19 _ _ h18))) (dp_ints _), .lst (.inl (.inl k1)) (rows_dp k2' k3'), shaped_ints _, rows_shaped _, _, rfl, ?_⟩
        have ea : (((rowsI rows).map rowD).any fun z => PyData.eqv z (rowD (xs.map fun (t : Nat) => (t : Int)))) = true := by
          rw [List.any_eq_true]
          refine ⟨rowD (xs.map fun (t : Nat) => (t : Int)), List.mem_map.mpr ⟨_, List.mem_map.mpr ⟨xs, hmem, rfl⟩, rfl⟩, ?_⟩
          rw [rowD_eqv]
          exact decide_eq_true rfl
        rw [ea]
        refine iteF ?_
        exact cont H19 (s18.trans s19)
      · exact Same.refl _
      have hC18 := hC17.same s18
      have ht18 := s18 _ _ ht17
      refine ⟨_, rfl, t, _, rfl, .inl (.inl (.inl ht18)), _, _, rfl, ?_⟩
      have emax : (if (((nI ts).map V.int).length : Int) > 1 then (((nI ts).map V.int).length : Int) else 1) = ((max 1 ts.length : Nat) : Int) := by rw [lT]; omega
      rw [emax]
      generalize em : max 1 ts.length = m
      refine ⟨_, rfl, _, _, rfl, rfl, _, rfl, ?_⟩
      have done : ∀ H', Same H18 H' → Same H H' := fun H' s' => sH17.trans (s18.trans s')
      walk_at "b"
      refine join3 (fun H' => Same H18 H') (fun H19 s19 => ⟨_, _, _, _, _, _, _, _, _, _, _, _, _, _, _, rfl, done _ s19⟩) (fun cc cont => ?_) (fun cc => ?_)
      rotate_left
      · exact Same.refl _
      have m3 : m < 3 := by
        have := of_decide_eq_true cc
        omega
      refine ⟨_, rfl, _, rfl, by rw [bS_len]; exact Nat.le_of_lt (small1000' (by omega)), _, rfl, _, rfl, _, _, rfl, rfl, .inl ⟨by decide, by decide⟩, _, _, rfl, rfl, c, wd, W, 2 * m + 1, rfl, hC18, order_2048 hK (by omega), by omega, by omega, fun Lo H19 s19 hLo => ?_⟩
      refine ⟨_, _, rfl, rfl, _, rfl, ?_⟩
      by_cases c5 : bs.length ≤ Lo
      · refine iteDT (by rw [bS_len]; omega) ?_
        refine ⟨_, rfl, _, rfl, _, rfl, c, wd, W, bent, m, rfl, hC18.same s19, by omega, by omega, fun H20 p9 as9 s20 n20 h20 hN20 => ?_⟩
        have ht20 := s20 _ _ (s19 _ _ ht18)
        refine ⟨_, rfl, t, nI ts, rfl, .inl (.inl ht20), fun ns' p hp hs np => ?_⟩
        obtain ⟨xs, hx1, rfl, hx2⟩ := sorted_nat hp hs
        obtain ⟨H21, e21, s21, h21⟩ := fresh (.lst ((xs.map fun (t : Nat) => (t : Int)).map V.int)) np
        rw [e21]
        refine ⟨(show 1 ≤ sizeLine by decide), fun p2 np2 => ?_⟩
        obtain ⟨H22, e22, s22, h22⟩ := fresh (.lst [V.ref p]) np2
        rw [e22]
        rw [hbr, hbl] at hN20
        have hmem := sorted_mend (wd := wd) (W := W) hx1 nd hts hx2 (m := m) (by omega) (by omega)
        have hone := mends_only hK (by omega) m3 hLo (by omega) hmem
        rw [hone] at hN20
        have hQ : RowsIn H22 p2 (rowsI [xs]) := ⟨[p], h22, rfl, fun k b r hb hr => by
          cases k with
          | zero =>
            cases hb
            cases hr
            exact s22 _ _ h21
          | succ k => simp at hb⟩
        refine ne_rows ((hN20.rows h20).same (s21.trans s22)) hQ rfl ⟨_, rfl, iteF ?_⟩
        exact cont _ (s19.trans (s20.trans (s21.trans s22)))
      · refine iteDF (by rw [bS_len]; omega) ?_
        exact cont _ s19
  · rintro σ H1 ⟨v1, v2, v3, v4, v5, v6, v7, v8, v9, v10, v11, v12, v13, v14, v15, rfl, s1⟩
    intro c dx nc ndx nec
    obtain ⟨H5, e5⟩ : ∃ H5, upd (upd H1 dx (.own c)) c (.ins T.C_Check dx []) = H5 := ⟨_, rfl⟩
    rw [e5]
    refine ⟨c, dx, 3, 3, rfl, by rw [← e5]; exact upd_same, by decide, by decide, by decide, by decide, fun H6 kp hC => ⟨rfl, ?_⟩⟩
    have hC6 : CheckAt T.C_Check H6 c 3 11 := hC
    have t1 : (("1101001" : String) : Str) = bS [true, true, false, true, false, false, true] := by decide +kernel
    have t2 : (("1111001" : String) : Str) = bS [true, true, true, true, false, false, true] := by decide +kernel
    refine ⟨_, rfl, c, 3, 11, [true, true, false, true, false, false, true], 1, by rw [← t1]; rfl, hC6, by decide, by decide, fun M1 p1 as1 s1 n1 h1 hN1 => ?_⟩
    refine ⟨(show 0 ≤ sizeLine by decide), fun q1_0 nq1_0 => ?_⟩
    obtain ⟨N1_0, eN1_0, sN1_0, hq1_0⟩ := fresh (.lst []) nq1_0
    rw [eN1_0]
    refine ⟨(show 1 ≤ sizeLine by decide), fun o1 no1 => ?_⟩
    obtain ⟨G1, eG1, sG1, hG1⟩ := fresh (.lst [V.ref q1_0]) no1
    rw [eG1]
    have hA1 : RowsIn G1 p1 _ := (hN1.rows h1).same (sN1_0.trans sG1)
    have hB1 : RowsIn G1 o1 [[]] := ⟨[q1_0], hG1, rfl, fun k b r hb hr => by
      match k, hb, hr with
      | 0, hb, hr => cases hb; cases hr; exact sG1 _ _ hq1_0
      | k + 1, hb, hr => simp at hb⟩
    have hC1_ := hC6.same ((s1.trans sN1_0).trans sG1)
    refine ne_rows hA1 hB1 (by decide +kernel) ⟨_, rfl, iteF ?_⟩
    refine ⟨_, rfl, c, 3, 11, [true, true, true, true, false, false, true], 1, by rw [← t2]; rfl, hC1_, by decide, by decide, fun M2 p2 as2 s2 n2 h2 hN2 => ?_⟩
    refine ⟨(show 1 ≤ sizeLine by decide), fun q2_0 nq2_0 => ?_⟩
    obtain ⟨N2_0, eN2_0, sN2_0, hq2_0⟩ := fresh (.lst [V.int 4]) nq2_0
    rw [eN2_0]
    refine ⟨(show 1 ≤ sizeLine by decide), fun o2 no2 => ?_⟩
    obtain ⟨G2, eG2, sG2, hG2⟩ := fresh (.lst [V.ref q2_0]) no2
    rw [eG2]
    have hA2 : RowsIn G2 p2 _ := (hN2.rows h2).same (sN2_0.trans sG2)
    have hB2 : RowsIn G2 o2 [[4]] := ⟨[q2_0], hG2, rfl, fun k b r hb hr => by
      match k, hb, hr with
      | 0, hb, hr => cases hb; cases hr; exact sG2 _ _ hq2_0
      | k + 1, hb, hr => simp at hb⟩
    have hC2_ := hC1_.same ((s2.trans sN2_0).trans sG2)
    refine ne_rows hA2 hB2 (by decide +kernel) ⟨_, rfl, iteF ?_⟩
    refine ⟨_, rfl, c, 3, 11, [true, true, true, true, false, false, true], 0, by rw [← t2]; rfl, hC2_, by decide, by decide, fun M3 p3 as3 s3 n3 h3 hN3 => ?_⟩
    refine ⟨(show 0 ≤ sizeLine by decide), fun o3 no3 => ?_⟩
    obtain ⟨G3, eG3, sG3, hG3⟩ := fresh (.lst []) no3
    rw [eG3]
    have hA3 : RowsIn G3 p3 _ := (hN3.rows h3).same sG3
    have hB3 : RowsIn G3 o3 [] := .nil hG3
    have hC3_ := hC2_.same (s3.trans sG3)
    refine ne_rows hA3 hB3 (by decide +kernel) ⟨_, rfl, iteF ?_⟩
    refine ⟨_, rfl, c, 3, 11, [], 2, by rw [← str_nil]; rfl, hC3_, by decide, by decide, fun M4 p4 as4 s4 n4 h4 hN4 => ?_⟩
    refine ⟨(show 0 ≤ sizeLine by decide), fun q4_0 nq4_0 => ?_⟩
    obtain ⟨N4_0, eN4_0, sN4_0, hq4_0⟩ := fresh (.lst []) nq4_0
    rw [eN4_0]
    refine ⟨(show 1 ≤ sizeLine by decide), fun o4 no4 => ?_⟩
    obtain ⟨G4, eG4, sG4, hG4⟩ := fresh (.lst [V.ref q4_0]) no4
    rw [eG4]
    have hA4 : RowsIn G4 p4 _ := (hN4.rows h4).same (sN4_0.trans sG4)
    have hB4 : RowsIn G4 o4 [[]] := ⟨[q4_0], hG4, rfl, fun k b r hb hr => by
      match k, hb, hr with
      | 0, hb, hr => cases hb; cases hr; exact sG4 _ _ hq4_0
      | k + 1, hb, hr => simp at hb⟩
    have hC4_ := hC3_.same ((s4.trans sN4_0).trans sG4)
    refine ne_rows hA4 hB4 (by decide +kernel) ⟨_, rfl, iteF ?_⟩
    refine ⟨_, rfl, c, 3, 11, [true], 2, by rw [← str_one]; rfl, hC4_, by decide, by decide, fun M5 p5 as5 s5 n5 h5 hN5 => ?_⟩
    refine ⟨(show 1 ≤ sizeLine by decide), fun q5_0 nq5_0 => ?_⟩
    obtain ⟨N5_0, eN5_0, sN5_0, hq5_0⟩ := fresh (.lst [V.int 0]) nq5_0
    rw [eN5_0]
    refine ⟨(show 1 ≤ sizeLine by decide), fun o5 no5 => ?_⟩
    obtain ⟨G5, eG5, sG5, hG5⟩ := fresh (.lst [V.ref q5_0]) no5
    rw [eG5]
    have hA5 : RowsIn G5 p5 _ := (hN5.rows h5).same (sN5_0.trans sG5)
    have hB5 : RowsIn G5 o5 [[0]] := ⟨[q5_0], hG5, rfl, fun k b r hb hr => by
      match k, hb, hr with
      | 0, hb, hr => cases hb; cases hr; exact sG5 _ _ hq5_0
      | k + 1, hb, hr => simp at hb⟩
    have hC5_ := hC4_.same ((s5.trans sN5_0).trans sG5)
    refine ne_rows hA5 hB5 (by decide +kernel) ⟨_, rfl, iteF ?_⟩
    refine ⟨_, rfl, c, 3, 11, [true, true, true, true, false, false, true], 2, by rw [← t2]; rfl, hC5_, by decide, by decide, fun M6 p6 as6 s6 n6 h6 hN6 => ?_⟩
    refine ⟨(show 1 ≤ sizeLine by decide), fun q6_0 nq6_0 => ?_⟩
    obtain ⟨N6_0, eN6_0, sN6_0, hq6_0⟩ := fresh (.lst [V.int 4]) nq6_0
    rw [eN6_0]
    refine ⟨(show 2 ≤ sizeLine by decide), fun q6_1 nq6_1 => ?_⟩
    obtain ⟨N6_1, eN6_1, sN6_1, hq6_1⟩ := fresh (.lst [V.int 0, V.int 5]) nq6_1
    rw [eN6_1]
    refine ⟨(show 2 ≤ sizeLine by decide), fun q6_2 nq6_2 => ?_⟩
    obtain ⟨N6_2, eN6_2, sN6_2, hq6_2⟩ := fresh (.lst [V.int 1, V.int 2]) nq6_2
    rw [eN6_2]
    refine ⟨(show 2 ≤ sizeLine by decide), fun q6_3 nq6_3 => ?_⟩
    obtain ⟨N6_3, eN6_3, sN6_3, hq6_3⟩ := fresh (.lst [V.int 3, V.int 6]) nq6_3
    rw [eN6_3]
    refine ⟨(show 4 ≤ sizeLine by decide), fun o6 no6 => ?_⟩
    obtain ⟨G6, eG6, sG6, hG6⟩ := fresh (.lst [V.ref q6_0, V.ref q6_1, V.ref q6_2, V.ref q6_3]) no6
    rw [eG6]
    have hA6 : RowsIn G6 p6 _ := (hN6.rows h6).same ((((sN6_0.trans sN6_1).trans sN6_2).trans sN6_3).trans sG6)
    have hB6 : RowsIn G6 o6 [[4], [0, 5], [1, 2], [3, 6]] := ⟨[q6_0, q6_1, q6_2, q6_3], hG6, rfl, fun k b r hb hr => by
      match k, hb, hr with
      | 0, hb, hr => cases hb; cases hr; exact (((sN6_1.trans sN6_2).trans sN6_3).trans sG6) _ _ hq6_0
      | 1, hb, hr => cases hb; cases hr; exact ((sN6_2.trans sN6_3).trans sG6) _ _ hq6_1
      | 2, hb, hr => cases hb; cases hr; exact (sN6_3.trans sG6) _ _ hq6_2
      | 3, hb, hr => cases hb; cases hr; exact sG6 _ _ hq6_3
      | k + 4, hb, hr => simp at hb⟩
    have hC6_ := hC5_.same (((((s6.trans sN6_0).trans sN6_1).trans sN6_2).trans sN6_3).trans sG6)
    exact eq_rows hA6 hB6 (by decide +kernel) (q _)
end
end My

open PySem PySem.W PySem.Calls PyProof.Rows
set_option maxRecDepth 100000 in
set_option maxHeartbeats 0 in
theorem PySem.Challenge.cw_wholesound_k65_mends_holds : PySem.Challenge.rw_wholesound_k65_mends.Holds := by
  w_on; o_law
  refine HandSHeadRun.head_any (r := OpenLaw.row PySem.Challenge.rw_wholesound_k65_mends) (q := view (OpenLaw.row PySem.Challenge.rw_wholesound_k65_mends).prog [41]) (H := My.hk) (ob := My.ob) (M := 8000) (loose := My.loose) (d := HandSHeadRun.topDef (OpenLaw.row PySem.Challenge.rw_wholesound_k65_mends).prog 41) (kwd := []) My.ob_eq
    (by kernel_rfl) (fun s => by kernel_rfl) My.run (by kernel_rfl) (by kernel_rfl) (by kernel_rfl) (by rfl) (by first | assumption | decide +kernel) (by decide +kernel) ⟨rfl, rfl, rfl, rfl, rfl, by decide +kernel⟩ ?hw ?hc
  case hw => w_witness2
  case hc =>
    refine L2.walk_ofE (l := PySem.Challenge.rw_wholesound_k65_mends) (n := 63) (k := 6) (x := "_law_script") (CX := L2.CX0) rfl (by decide) (by kernel_rfl) ⟨rfl, by decide, by decide⟩ ?F (fun _ _ _ _ z => z)
    intro w mg fa h Y G hmg0
    obtain ⟨K, KX, c⟩ := Y
    have hmg : mg ("law" : PySem.Str) = some (.ref fa) := by
      have e : (HandSHeadRun.topDef (OpenLaw.row PySem.Challenge.rw_wholesound_k65_mends).prog 41).name = ("law" : PySem.Str) := by kernel_rfl
      rw [← e]
      exact hmg0
    have T : My.Top K mg := My.top_mk KX G c
    have e := hmg.symm.trans T.g_law
    cases e
    have b := L2.FunD.bindsA (ps := ["_law_script"]) T.F_law fun _ _ _ _ _ _ us hl => match us, hl with | [_], _ => rfl
    exact ⟨K, T.fd_law, My.sp_law K, KX, fun s v => b s [v] rfl, fun H a ns hl _ hS => ⟨a, ns, rfl, hS, hl, fun _ => rfl⟩, fun base _ _ => My.G_law T⟩


