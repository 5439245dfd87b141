import PyProof.Rows.All
import Wide.All
import OpenK.AllK
import Wide.FinOn
import KE.KStateDown
import Lean
import HandS.ForMost
import HandS.Exc
import HandS.Flow
import HandS.DictComp
import HandS.Style
import HandS.Wide
import HandS.WideBits
import HandS.IsInst
import HandS.Codes
import HandS.Walk
import HandS.Words
import HandS.WordsExc
import HandS.Defaults
import HandS.Head0
import HandS.Head1
import HandS.Head2
import HandS.HeadEnd
import HandS.HeadHook1
import HandS.HeadHook2
import PySem.Challenge.RW_wholesound_k50_rows_of_each_size
set_option Elab.async false
set_option linter.all false
set_option maxRecDepth 100000
set_option maxHeartbeats 4000000
set_option exponentiation.threshold 100000
namespace Pre
open PySem PySem.Spec PyProof.Rows L2
/-! ### heaps -/
theorem same_upd {H : Hp} {p : Addr} {o : HO} (h : H p = none) : Same H (upd H p o) := fun b x e => by
  rw [upd_ne (ne_of_none e h)]
  exact e
/-- a fresh thing that is then changed is no change of what was -/
theorem same_over {H H' : Hp} {p : Addr} {o : HO} (n : H p = none) (s : Same H H') : Same H (upd H' p o) := fun b x e => by
  rw [upd_ne (ne_of_none e n)]
  exact s b x e
theorem Same.tup {K : PySem.W.Frag} {H H' : Hp} {a : Addr} {xs : List V} (e : Same H H') (h : SqT K H a xs) : SqT K H' a xs := by
  rcases h with (h | ⟨o, h⟩) | h
  · exact .inl (.inl (e _ _ h))
  · exact .inl (.inr ⟨o, e _ _ h⟩)
  · exact .inr h
mutual
theorem dp_same {K : PySem.W.Frag} {H H' : Hp} (s : Same H H') : ∀ (d : PyData) (v : V), Dp K H v d → Dp K H' v d
  | .none, _, h => by cases h; exact .non
  | .bool _, _, h => by cases h; exact .bl _
  | .int _, _, h => by cases h; exact .int _
  | .str _, _, h => by cases h; exact .str _
  | .list ds, _, h => by cases h with | lst a b => exact .lst (s.seq a) (dps_same s ds _ b)
  | .tuple ds, _, h => by cases h with | tup a b => exact .tup (Same.tup s a) (dps_same s ds _ b)
  | .dict _, _, h => nomatch h
theorem dps_same {K : PySem.W.Frag} {H H' : Hp} (s : Same H H') : ∀ (ds : List PyData) (vs : List V), DpAll K H vs ds → DpAll K H' vs ds
  | [], _, h => by cases h; exact .nil
  | d :: ds, _, h => by cases h with | cons a b => exact .cons (dp_same s d _ a) (dps_same s ds _ b)
end
theorem dp_ints {K : PySem.W.Frag} {H : Hp} : ∀ ns : List Int, DpAll K H (ns.map V.int) (ns.map PyData.int)
  | [] => .nil
  | n :: r => .cons (.int n) (dp_ints r)
theorem eqv_ints : ∀ ns ms : List Int, PyData.eqvAll (ns.map PyData.int) (ms.map PyData.int) = decide (ns = ms)
  | [], [] => rfl
  | [], _ :: _ => rfl
  | _ :: _, [] => rfl
  | n :: r, m :: q => by
    show (PyData.eqv (.int n) (.int m) && PyData.eqvAll (r.map PyData.int) (q.map PyData.int)) = decide (n :: r = m :: q)
    rw [eqv_ints r q]
    show ((n == m) && decide (r = q)) = decide (n :: r = m :: q)
    by_cases h : n = m
    · subst h; simp
    · simp [h]
theorem lay_ints : ∀ ns : List Int, PyData.canLayAll0 (ns.map PyData.int) = true
  | [] => rfl
  | n :: r => by
    show (PyData.canLay0 (.int n) && PyData.canLayAll0 (r.map PyData.int)) = true
    rw [lay_ints r]
    rfl
theorem depth_ints : ∀ ns : List Int, PyData.depthAll (ns.map PyData.int) = 0
  | [] => by simp [PyData.depthAll]
  | n :: r => by
    show PyData.depthAll (.int n :: r.map PyData.int) = 0
    rw [PyData.depthAll, depth_ints r]
    simp [PyData.depth]
theorem shaped_ints (ns : List Int) : SeqAt.shaped (.list (ns.map PyData.int)) = true := by
  unfold SeqAt.shaped
  rw [PyData.canLay0, lay_ints, PyData.depth, depth_ints]
  rfl
theorem shaped_tup (ns : List Int) : SeqAt.shaped (.tuple (ns.map PyData.int)) = true := by
  unfold SeqAt.shaped
  rw [PyData.canLay0, lay_ints, PyData.depth, depth_ints]
  rfl
/-! ### comparisons of lists and tuples of whole numbers that are told alike -/
theorem ne_tup {K : PySem.W.Frag} {H : Hp} {a b : Addr} {ns : List Int} {Q : V → Hp → Prop} (ha : SqT K H a (ns.map V.int)) (hb : SqT K H b (ns.map V.int)) (q : Q (.bl false) H) : rNeD K (.ref a) (.ref b) H Q := by
  refine ⟨.tuple (ns.map PyData.int), .tuple (ns.map PyData.int), .tup ha (dp_ints ns), .tup hb (dp_ints ns), shaped_tup ns, shaped_tup ns, ?_⟩
  rw [PyData.eqv, eqv_ints, decide_eq_true rfl]
  exact q
theorem eq_tup {K : PySem.W.Frag} {H : Hp} {a b : Addr} {ns : List Int} {Q : V → Hp → Prop} (ha : SqT K H a (ns.map V.int)) (hb : SqT K H b (ns.map V.int)) (q : Q (.bl true) H) : rEqD K (.ref a) (.ref b) H Q := by
  refine ⟨.tuple (ns.map PyData.int), .tuple (ns.map PyData.int), .tup ha (dp_ints ns), .tup hb (dp_ints ns), shaped_tup ns, shaped_tup ns, ?_⟩
  rw [PyData.eqv, eqv_ints, decide_eq_true rfl]
  exact q
/-- lists of whole numbers, compared -/
theorem eqD_lst {K : PySem.W.Frag} {H : Hp} {a b : Addr} {ns ms : List Int} {Q : V → Hp → Prop} (ha : SqL K H a (ns.map V.int)) (hb : SqL K H b (ms.map V.int)) (q : Q (.bl (decide (ns = ms))) H) : rEqD K (.ref a) (.ref b) H Q := by
  refine ⟨.list (ns.map PyData.int), .list (ms.map PyData.int), .lst ha (dp_ints ns), .lst hb (dp_ints ms), shaped_ints ns, shaped_ints ms, ?_⟩
  rw [PyData.eqv, eqv_ints]
  exact q
theorem neD_lst {K : PySem.W.Frag} {H : Hp} {a b : Addr} {ns ms : List Int} {Q : V → Hp → Prop} (ha : SqL K H a (ns.map V.int)) (hb : SqL K H b (ms.map V.int)) (q : Q (.bl (!decide (ns = ms))) H) : rNeD K (.ref a) (.ref b) H Q := by
  refine ⟨.list (ns.map PyData.int), .list (ms.map PyData.int), .lst ha (dp_ints ns), .lst hb (dp_ints ms), shaped_ints ns, shaped_ints ms, ?_⟩
  rw [PyData.eqv, eqv_ints]
  exact q
theorem ne_lst {K : PySem.W.Frag} {H : Hp} {a b : Addr} {ns : List Int} {Q : V → Hp → Prop} (ha : SqL K H a (ns.map V.int)) (hb : SqL K H b (ns.map V.int)) (q : Q (.bl false) H) : rNeD K (.ref a) (.ref b) H Q :=
  neD_lst ha hb (by rw [decide_eq_true rfl]; exact q)
theorem eq_lst {K : PySem.W.Frag} {H : Hp} {a b : Addr} {ns : List Int} {Q : V → Hp → Prop} (ha : SqL K H a (ns.map V.int)) (hb : SqL K H b (ns.map V.int)) (q : Q (.bl true) H) : rEqD K (.ref a) (.ref b) H Q :=
  eqD_lst ha hb (by rw [decide_eq_true rfl]; exact q)
/-! ### powers -/
def CPowW (i j : Int) : Prop := 0 ≤ j ∧ (Builtin.Int.intBits i : Int) * j ≤ 2 ^ 27
theorem op_powW {X : Cx} : OpR X (binaryOp .Pow) (rI CPowW fun i j => .int (i ^ j.toNat)) := opI fun _ _ _ _ _ _ _ hc q => pow_int hc.1 hc.2 q
/-! ### comprehensions whose parts leave what is tracked as it is: sel tells of each item what comes of it -/
theorem take_fm {α : Type} {l : List (Option α)} {i : Nat} {o : Option α} (h : l[i]? = some o) : (l.take (i + 1)).filterMap id = (l.take i).filterMap id ++ o.toList := by
  rw [List.take_add_one, h, List.filterMap_append]
  cases o <;> rfl
theorem fm_len {α : Type} (l : List (Option α)) (i : Nat) : ((l.take i).filterMap id).length ≤ l.length :=
  Nat.le_trans (List.length_filterMap_le _ _) (by rw [List.length_take]; omega)
theorem lc_selL {K : PySem.W.Frag} {a : Addr} {xs : List V} {j : Nat} {tt : TT} {te : TE} {vs : List Nat} {σ : L2.St} {H1 : Hp} {D : Addr} {Qd : Hp → Prop} (sel : List (Option V)) (nD : H1 D = none) (hS : SqL K H1 a xs) (hlen : sel.length = xs.length) (hz : xs.length < sizeLine)
    (hw : ∀ x, wipe ((wipe σ vs).set j (some x)) vs = wipe σ vs)
    (hs : ∀ (i : Nat) (x : V) (o : Option V) (H' : Hp), xs[i]? = some x → sel[i]? = some o → Same H1 H' → ∀ Qt : Option V → Hp → Prop, (∀ H'', Same H' H'' → Qt o H'') →
      tt ((wipe σ vs).set j (some x)) H' fun b H3 => if b = true then te ((wipe σ vs).set j (some x)) H3 fun y H4 => Qt (some y) H4 else Qt none H3)
    (hd : ∀ H', Same H1 H' → H' D = some (.lst (sel.filterMap id)) → Qd H') :
    ∃ W : Nat → Nat → Hp → Prop, (∃ m, W 0 m (upd H1 D (.lst []))) ∧ ∀ i m H, W i m H →
      ((Itl K a).stop i H ∧ Qd H) ∨ ((Itl K a).go i H ∧ ∃ Nx : Hp → Prop, (∀ H', Nx H' → ∃ m', m' < m ∧ W (i + 1) m' H') ∧ ∀ x H', (Itl K a).yld i H x H' → gName j x (wipe σ vs) H' fun σ2 H2 => wipe σ2 vs = wipe σ vs ∧ tt σ2 H2 fun b H3 =>
        if b = true then te σ2 H3 fun y H4 => ∃ acc, H4 D = some (.lst acc) ∧ acc.length < sizeLine ∧ Nx (upd H4 D (.lst (acc ++ [y]))) else Nx H3) := by
  refine lc_list (K := K) (a := a) (xs := xs) (fun i H => Same H1 H ∧ H D = some (.lst ((sel.take i).filterMap id))) ⟨same_upd nD, upd_same⟩ (fun i H _ p => p.1.seq hS) ?_ ?_
  · rintro i x H hx ⟨s, hD⟩
    refine ⟨hw x, ?_⟩
    have hi : i < sel.length := by rw [hlen]; exact (List.getElem?_eq_some_iff.mp hx).1
    have ho : sel[i]? = some sel[i] := List.getElem?_eq_getElem hi
    have hl : ((sel.take i).filterMap id).length < sizeLine := Nat.lt_of_le_of_lt (fm_len sel i) (by omega)
    refine hs i x sel[i] H hx ho s (fun o H4 => match o with
      | some y => ∃ acc, H4 D = some (.lst acc) ∧ acc.length < sizeLine ∧ (Same H1 (upd H4 D (.lst (acc ++ [y]))) ∧ (upd H4 D (.lst (acc ++ [y]))) D = some (.lst ((sel.take (i + 1)).filterMap id)))
      | none => Same H1 H4 ∧ H4 D = some (.lst ((sel.take (i + 1)).filterMap id))) fun H4 s4 => ?_
    generalize sel[i] = o at ho ⊢
    cases o with
    | some y =>
      refine ⟨_, s4 _ _ hD, hl, same_over nD (s.trans s4), ?_⟩
      rw [upd_same, take_fm ho]
      rfl
    | none =>
      refine ⟨s.trans s4, ?_⟩
      rw [take_fm ho, s4 _ _ hD]
      simp
  · rintro H ⟨s, hD⟩
    refine hd H s ?_
    rw [hD, ← hlen, List.take_length]
/-- the items of a range -/
def rgV (lo : Int) (n : Nat) : List V := (List.range n).map fun (i : Nat) => V.int (lo + (i : Int))
theorem lc_selR {lo : Int} {n : Nat} {j : Nat} {tt : TT} {te : TE} {vs : List Nat} {σ : L2.St} {H1 : Hp} {D : Addr} {Qd : Hp → Prop} (sel : List (Option V)) (nD : H1 D = none) (hlen : sel.length = n) (hz : n < sizeLine)
    (hw : ∀ x, wipe ((wipe σ vs).set j (some x)) vs = wipe σ vs)
    (hs : ∀ (i : Nat) (o : Option V) (H' : Hp), i < n → sel[i]? = some o → Same H1 H' → ∀ Qt : Option V → Hp → Prop, (∀ H'', Same H' H'' → Qt o H'') →
      tt ((wipe σ vs).set j (some (.int (lo + (i : Int))))) H' fun b H3 => if b = true then te ((wipe σ vs).set j (some (.int (lo + (i : Int))))) H3 fun y H4 => Qt (some y) H4 else Qt none H3)
    (hd : ∀ H', Same H1 H' → H' D = some (.lst (sel.filterMap id)) → Qd H') :
    ∃ W : Nat → Nat → Hp → Prop, (∃ m, W 0 m (upd H1 D (.lst []))) ∧ ∀ i m H, W i m H →
      ((Itr lo n).stop i H ∧ Qd H) ∨ ((Itr lo n).go i H ∧ ∃ Nx : Hp → Prop, (∀ H', Nx H' → ∃ m', m' < m ∧ W (i + 1) m' H') ∧ ∀ x H', (Itr lo n).yld i H x H' → gName j x (wipe σ vs) H' fun σ2 H2 => wipe σ2 vs = wipe σ vs ∧ tt σ2 H2 fun b H3 =>
        if b = true then te σ2 H3 fun y H4 => ∃ acc, H4 D = some (.lst acc) ∧ acc.length < sizeLine ∧ Nx (upd H4 D (.lst (acc ++ [y]))) else Nx H3) := by
  refine lc_range (lo := lo) (n := n) (fun i H => Same H1 H ∧ H D = some (.lst ((sel.take i).filterMap id))) ⟨same_upd nD, upd_same⟩ ?_ ?_
  · rintro i H hi' ⟨s, hD⟩
    refine ⟨hw _, ?_⟩
    have hi : i < sel.length := by rw [hlen]; exact hi'
    have ho : sel[i]? = some sel[i] := List.getElem?_eq_getElem hi
    have hl : ((sel.take i).filterMap id).length < sizeLine := Nat.lt_of_le_of_lt (fm_len sel i) (by omega)
    refine hs i sel[i] H hi' ho s (fun o H4 => match o with
      | some y => ∃ acc, H4 D = some (.lst acc) ∧ acc.length < sizeLine ∧ (Same H1 (upd H4 D (.lst (acc ++ [y]))) ∧ (upd H4 D (.lst (acc ++ [y]))) D = some (.lst ((sel.take (i + 1)).filterMap id)))
      | none => Same H1 H4 ∧ H4 D = some (.lst ((sel.take (i + 1)).filterMap id))) fun H4 s4 => ?_
    generalize sel[i] = o at ho ⊢
    cases o with
    | some y =>
      refine ⟨_, s4 _ _ hD, hl, same_over nD (s.trans s4), ?_⟩
      rw [upd_same, take_fm ho]
      rfl
    | none =>
      refine ⟨s.trans s4, ?_⟩
      rw [take_fm ho, s4 _ _ hD]
      simp
  · rintro H ⟨s, hD⟩
    refine hd H s ?_
    rw [hD, ← hlen, List.take_length]
theorem fm_some {α : Type} (ys : List α) : (ys.map some).filterMap id = ys := by
  rw [List.filterMap_map]
  show List.filterMap (fun y => some y) ys = ys
  exact List.filterMap_some
/-- no test: ys tells what comes of each item -/
theorem lc_mapL {K : PySem.W.Frag} {a : Addr} {xs : List V} {j : Nat} {te : TE} {vs : List Nat} {σ : L2.St} {H1 : Hp} {D : Addr} {Qd : Hp → Prop} (ys : List V) (nD : H1 D = none) (hS : SqL K H1 a xs) (hlen : ys.length = xs.length) (hz : xs.length < sizeLine)
    (hw : ∀ x, wipe ((wipe σ vs).set j (some x)) vs = wipe σ vs)
    (hs : ∀ (i : Nat) (x y : V) (H' : Hp), xs[i]? = some x → ys[i]? = some y → Same H1 H' → ∀ Qt : V → Hp → Prop, (∀ H'', Same H' H'' → Qt y H'') → te ((wipe σ vs).set j (some x)) H' Qt)
    (hd : ∀ H', Same H1 H' → H' D = some (.lst ys) → Qd H') :
    ∃ W : Nat → Nat → Hp → Prop, (∃ m, W 0 m (upd H1 D (.lst []))) ∧ ∀ i m H, W i m H →
      ((Itl K a).stop i H ∧ Qd H) ∨ ((Itl K a).go i H ∧ ∃ Nx : Hp → Prop, (∀ H', Nx H' → ∃ m', m' < m ∧ W (i + 1) m' H') ∧ ∀ x H', (Itl K a).yld i H x H' → gName j x (wipe σ vs) H' fun σ2 H2 => wipe σ2 vs = wipe σ vs ∧ tYes σ2 H2 fun b H3 =>
        if b = true then te σ2 H3 fun y H4 => ∃ acc, H4 D = some (.lst acc) ∧ acc.length < sizeLine ∧ Nx (upd H4 D (.lst (acc ++ [y]))) else Nx H3) := by
  refine lc_selL (K := K) (a := a) (xs := xs) (tt := tYes) (ys.map some) nD hS (by rw [List.length_map]; exact hlen) hz hw ?_ ?_
  · intro i x o H' hx ho s Qt qt
    rw [List.getElem?_map] at ho
    obtain ⟨y, hy, rfl⟩ := Option.map_eq_some_iff.mp ho
    show if true = true then te ((wipe σ vs).set j (some x)) H' (fun y H4 => Qt (some y) H4) else Qt none H'
    exact iteT (hs i x y H' hx hy s (fun y H4 => Qt (some y) H4) qt)
  · intro H' s hD
    rw [fm_some] at hD
    exact hd H' s hD
theorem lc_mapR {lo : Int} {n : Nat} {j : Nat} {te : TE} {vs : List Nat} {σ : L2.St} {H1 : Hp} {D : Addr} {Qd : Hp → Prop} (ys : List V) (nD : H1 D = none) (hlen : ys.length = n) (hz : n < sizeLine)
    (hw : ∀ x, wipe ((wipe σ vs).set j (some x)) vs = wipe σ vs)
    (hs : ∀ (i : Nat) (y : V) (H' : Hp), i < n → ys[i]? = some y → Same H1 H' → ∀ Qt : V → Hp → Prop, (∀ H'', Same H' H'' → Qt y H'') → te ((wipe σ vs).set j (some (.int (lo + (i : Int))))) H' Qt)
    (hd : ∀ H', Same H1 H' → H' D = some (.lst ys) → Qd H') :
    ∃ W : Nat → Nat → Hp → Prop, (∃ m, W 0 m (upd H1 D (.lst []))) ∧ ∀ i m H, W i m H →
      ((Itr lo n).stop i H ∧ Qd H) ∨ ((Itr lo n).go i H ∧ ∃ Nx : Hp → Prop, (∀ H', Nx H' → ∃ m', m' < m ∧ W (i + 1) m' H') ∧ ∀ x H', (Itr lo n).yld i H x H' → gName j x (wipe σ vs) H' fun σ2 H2 => wipe σ2 vs = wipe σ vs ∧ tYes σ2 H2 fun b H3 =>
        if b = true then te σ2 H3 fun y H4 => ∃ acc, H4 D = some (.lst acc) ∧ acc.length < sizeLine ∧ Nx (upd H4 D (.lst (acc ++ [y]))) else Nx H3) := by
  refine lc_selR (lo := lo) (n := n) (tt := tYes) (ys.map some) nD (by rw [List.length_map]; exact hlen) hz hw ?_ ?_
  · intro i o H' hi ho s Qt qt
    rw [List.getElem?_map] at ho
    obtain ⟨y, hy, rfl⟩ := Option.map_eq_some_iff.mp ho
    show if true = true then te ((wipe σ vs).set j (some (.int (lo + (i : Int))))) H' (fun y H4 => Qt (some y) H4) else Qt none H'
    exact iteT (hs i y H' hi hy s (fun y H4 => Qt (some y) H4) qt)
  · intro H' s hD
    rw [fm_some] at hD
    exact hd H' s hD
/-- an item of a list of whole numbers -/
theorem int_at {ns : List Int} {i : Nat} {x : V} (h : (ns.map V.int)[i]? = some x) : ∃ n, ns[i]? = some n ∧ x = .int n := by
  rw [List.getElem?_map] at h
  obtain ⟨n, hn, e⟩ := Option.map_eq_some_iff.mp h
  exact ⟨n, hn, e.symm⟩
/-! ### rules with the written part named (within a comprehension Lean doesn't find it) -/
section
variable {X : Cx}
theorem k_len (K : PySem.W.Frag) (h : X.K = K) : CallR X (.builtin "len") (fun xs H Q => ∃ p ys, xs = [.ref p] ∧ (SqL K H p ys ∨ SqT K H p ys) ∧ Q (.int ys.length) H) := by subst h; exact call_len_seq
theorem k_sum (K : PySem.W.Frag) (h : X.K = K) (hc : X.calm = true) : CallR X (.builtin "sum") (rSum K) := by subst h; exact cr_sum hc
theorem k_max (K : PySem.W.Frag) (h : X.K = K) (hc : X.calm = true) : CallR X (.builtin "max") (rMax K) := by subst h; exact cr_max hc
theorem k_min (K : PySem.W.Frag) (h : X.K = K) (hc : X.calm = true) : CallR X (.builtin "min") (rMin K) := by subst h; exact cr_min hc
theorem k_isi (K : PySem.W.Frag) (h : X.K = K) : CallR X (.builtin "isinstance") (rIsi K) := by subst h; exact call_isi
theorem k_listOf (K : PySem.W.Frag) (h : X.K = K) : CallR X (.type "list") (fun xs H Q => ∃ p ys, xs = [.ref p] ∧ (SqL K H p ys ∨ SqT K H p ys) ∧ ∀ l, H l = none → Q (.ref l) (upd H l (.lst ys))) := by subst h; exact call_list_of
theorem k_tupleOf (K : PySem.W.Frag) (h : X.K = K) : CallR X (.type "tuple") (fun xs H Q => ∃ p ys, xs = [.ref p] ∧ ((SqL K H p ys ∧ ∀ l, H l = none → Q (.ref l) (upd H l (.tup ys))) ∨ (SqT K H p ys ∧ Q (.ref p) H))) := by subst h; exact call_tuple_of
theorem k_ixL (K : PySem.W.Frag) (h : X.K = K) : IxR X (rIxL K) := by subst h; exact ix_list
theorem k_ixT (K : PySem.W.Frag) (h : X.K = K) : IxR X (rIxT K) := by subst h; exact ix_tup
theorem k_slL (K : PySem.W.Frag) (h : X.K = K) : SlR X (rSlL K) := by subst h; exact sl_list
theorem k_slT (K : PySem.W.Frag) (h : X.K = K) : SlR X (rSlT K) := by subst h; exact sl_tup
theorem k_eqD (K : PySem.W.Frag) (h : X.K = K) (hu : X.A.units + 64 < cLine) : OpR X (compareOp .Eq) (rEqD K) := by subst h; exact op_eqD hu
theorem k_neD (K : PySem.W.Frag) (h : X.K = K) (hu : X.A.units + 64 < cLine) : OpR X (compareOp .NotEq) (rNeD K) := by subst h; exact op_neD hu
theorem k_in (K : PySem.W.Frag) (h : X.K = K) : OpR X (compareOp .In) (rIn K false) := by subst h; exact op_in_seq
theorem k_notIn (K : PySem.W.Frag) (h : X.K = K) : OpR X (compareOp .NotIn) (rIn K true) := by subst h; exact op_notIn_seq
theorem k_piL (K : PySem.W.Frag) (h : X.K = K) {tg l : Expr} {tl : TE} (hl : PE X l tl) : PI X tg l (iList K tl) := by subst h; exact pi_list hl
theorem k_piT (K : PySem.W.Frag) (h : X.K = K) {tg l : Expr} {tl : TE} (hl : PE X l tl) : PI X tg l (iTup K tl) := by subst h; exact pi_tup hl
theorem k_piE (K : PySem.W.Frag) (h : X.K = K) {e : Expr} {ta : TA} {p pos tpos : Pos} {elts : List Expr} {kk : Nat} (hg : Gl X "enumerate") (hm : X.mg "enumerate" = none) (ha : PA X [e] ta) (hs : starEach [e] X.env = [(false, eval e X.env)] := by rfl) : PI X (.Tuple elts kk tpos) (.Call (.Name "enumerate" p) [e] [] pos) (iEnum K ta) := by subst h; exact pi_enum hg hm ha hs
theorem k_pgT (K : PySem.W.Frag) (h : X.K = K) {es : List Expr} {k : Nat} {t : TGs} {n : Nat} {pos : Pos} (hc : X.calm = true) (hp : PGs X es t) (hn : (assignEach es X.env).length = n := by rfl) (hst : (assignEach es X.env).findIdx? (·.1) = none := by rfl) : PG X (.Tuple es k pos) (gTup K n t) := by subst h; exact pg_tup hc hp hn hst
theorem k_index (K : PySem.W.Frag) (h : X.K = K) : MtR X "list.index" (rIndex K) := by subst h; exact mt_index
end
/-! ### small things -/
theorem fresh {H : Hp} {p : Addr} (o : HO) (np : H p = none) : ∃ H', upd H p o = H' ∧ Same H H' ∧ H' p = some o := ⟨_, rfl, same_upd np, upd_same⟩
theorem cut_take (xs : List V) (k : Nat) : cutV xs none (some (k : Int)) = xs.take k := by
  unfold cutV
  rw [HT.sIx_nat, HT.sIx_none, List.drop_zero, Nat.sub_zero]
  rcases Nat.le_total k xs.length with h | h
  · rw [Nat.min_eq_left h]
  · rw [Nat.min_eq_right h, List.take_of_length_le h, List.take_length]
theorem cut_drop (xs : List V) (k : Nat) : cutV xs (some (k : Int)) none = xs.drop k := by
  unfold cutV
  rw [HT.sIx_nat, HT.sIx_none]
  rcases Nat.le_total k xs.length with h | h
  · rw [Nat.min_eq_left h, List.take_of_length_le (by rw [List.length_drop]; exact Nat.le_refl _)]
  · rw [Nat.min_eq_right h, List.drop_length, List.drop_of_length_le h, List.take_nil]
theorem rep_ints (k : Nat) (ks : List Int) : (List.replicate k (ks.map V.int)).flatten = ((List.replicate k ks).flatten).map V.int := by
  rw [List.map_flatten, List.map_replicate]
theorem rep_len {α : Type} (k : Nat) (ks : List α) : ((List.replicate k ks).flatten).length = k * ks.length := by
  induction k with
  | zero => simp
  | succ k ih => rw [List.replicate_succ, List.flatten_cons, List.length_append, ih, Nat.succ_mul]; omega
theorem rep_mem {α : Type} {k : Nat} {ks : List α} {x : α} (h : x ∈ (List.replicate k ks).flatten) : x ∈ ks := by
  obtain ⟨l, hl, hx⟩ := List.mem_flatten.mp h
  rw [(List.mem_replicate.mp hl).2] at hx
  exact hx
/-! ### comprehensions that make new things: R tells what is known of the i-th; D is no part of it -/
def Off (D : Addr) (H H' : Hp) : Prop := ∀ b o, b ≠ D → H b = some o → H' b = some o
def RelPv (R : Nat → V → Hp → Prop) (H1 : Hp) (D : Addr) (i : Nat) (H : Hp) : Prop := ∃ ys : List V, Same H1 H ∧ H D = some (.lst ys) ∧ ys.length = i ∧ ∀ (k : Nat) (y : V), ys[k]? = some y → R k y H
theorem lc_relR {lo : Int} {n : Nat} {j : Nat} {te : TE} {vs : List Nat} {σ : L2.St} {H1 : Hp} {D : Addr} {Qd : Hp → Prop} (R : Nat → V → Hp → Prop) (nD : H1 D = none) (hz : n < sizeLine)
    (mono : ∀ i y H H', Off D H H' → R i y H → R i y H')
    (hw : ∀ x, wipe ((wipe σ vs).set j (some x)) vs = wipe σ vs)
    (hs : ∀ (i : Nat) (H' : Hp) (xs : List V), i < n → Same H1 H' → H' D = some (.lst xs) → ∀ Qt : V → Hp → Prop, (∀ y H'', Same H' H'' → R i y H'' → Qt y H'') → te ((wipe σ vs).set j (some (.int (lo + (i : Int))))) H' Qt)
    (hd : ∀ H' ys, Same H1 H' → H' D = some (.lst ys) → ys.length = n → (∀ (i : Nat) (y : V), ys[i]? = some y → R i y H') → Qd H') :
    ∃ W : Nat → Nat → Hp → Prop, (∃ m, W 0 m (upd H1 D (.lst []))) ∧ ∀ i m H, W i m H →
      ((Itr lo n).stop i H ∧ Qd H) ∨ ((Itr lo n).go i H ∧ ∃ Nx : Hp → Prop, (∀ H', Nx H' → ∃ m', m' < m ∧ W (i + 1) m' H') ∧ ∀ x H', (Itr lo n).yld i H x H' → gName j x (wipe σ vs) H' fun σ2 H2 => wipe σ2 vs = wipe σ vs ∧ tYes σ2 H2 fun b H3 =>
        if b = true then te σ2 H3 fun y H4 => ∃ acc, H4 D = some (.lst acc) ∧ acc.length < sizeLine ∧ Nx (upd H4 D (.lst (acc ++ [y]))) else Nx H3) := by
  refine lc_range (lo := lo) (n := n) (RelPv R H1 D) ⟨[], same_upd nD, upd_same, rfl, fun k y h => by simp at h⟩ ?_ ?_
  · rintro i H hi ⟨ys, s, hD, hl, hR⟩
    refine ⟨hw _, ?_⟩
    show if true = true then te ((wipe σ vs).set j (some (.int (lo + (i : Int))))) H (fun y H4 => ∃ acc, H4 D = some (.lst acc) ∧ acc.length < sizeLine ∧ RelPv R H1 D (i + 1) (upd H4 D (.lst (acc ++ [y])))) else RelPv R H1 D (i + 1) H
    refine iteT (hs i H ys hi s hD _ fun y H4 s4 r4 => ?_)
    refine ⟨ys, s4 _ _ hD, by omega, ys ++ [y], same_over nD (s.trans s4), upd_same, by rw [List.length_append, hl]; rfl, fun k z hz => ?_⟩
    have off : Off D H4 (upd H4 D (.lst (ys ++ [y]))) := fun b o nb h => by rw [upd_ne nb]; exact h
    by_cases hk : k < ys.length
    · rw [List.getElem?_append_left hk] at hz
      exact mono k z H _ (fun b o nb h => off b o nb (s4 b o h)) (hR k z hz)
    · rw [List.getElem?_append_right (by omega)] at hz
      have hk2 : k - ys.length = 0 := by
        have h2 := (List.getElem?_eq_some_iff.mp hz).1
        rw [List.length_singleton] at h2
        omega
      rw [hk2] at hz
      cases hz
      have ek : k = i := by omega
      rw [ek]
      exact mono i y H4 _ off r4
  · rintro H ⟨ys, s, hD, hl, hR⟩
    exact hd H ys s hD hl hR
end Pre

namespace My
open PySem PySem.Spec PyProof.Rows L2
theorem nil_binds {K : PySem.W.Frag} {fd : FuncData} {ps : List Str} (h : ∃ ds, Vals [] ds ∧ Binds K fd ps ds) : Binds K fd ps [] := by
  obtain ⟨ds, v, b⟩ := h
  cases v
  exact b
def top (i : Nat) : Stmt := PySem.Challenge.pw_wholesound_k50_rows_of_each_size.main.body.getD i (.Pass ⟨0, 0, 0, 0⟩)
abbrev s_is_whole : Stmt := top 12
abbrev N_is_whole : List Str := ["value"]
theorem sc_is_whole : FnScope N_is_whole ["value"] (defScope s_is_whole) := ⟨rfl, rfl, rfl, by decide +kernel, rfl, by decide +kernel, by decide +kernel⟩
abbrev s_is_between : Stmt := top 13
abbrev N_is_between : List Str := ["value", "low", "high"]
theorem sc_is_between : FnScope N_is_between ["value", "low", "high"] (defScope s_is_between) := ⟨rfl, rfl, rfl, by decide +kernel, rfl, by decide +kernel, by decide +kernel⟩
abbrev s_check_depth : Stmt := top 14
abbrev N_check_depth : List Str := ["depth", "most"]
theorem sc_check_depth : FnScope N_check_depth ["depth", "most"] (defScope s_check_depth) := ⟨rfl, rfl, rfl, by decide +kernel, rfl, by decide +kernel, by decide +kernel⟩
abbrev s_check_number : Stmt := top 15
abbrev N_check_number : List Str := ["number", "low", "high"]
theorem sc_check_number : FnScope N_check_number ["number", "low", "high"] (defScope s_check_number) := ⟨rfl, rfl, rfl, by decide +kernel, rfl, by decide +kernel, by decide +kernel⟩
abbrev s_is_sample : Stmt := top 17
abbrev N_is_sample : List Str := ["value", "depth"]
theorem sc_is_sample : FnScope N_is_sample ["value", "depth"] (defScope s_is_sample) := ⟨rfl, rfl, rfl, by decide +kernel, rfl, by decide +kernel, by decide +kernel⟩
abbrev s_are_samples : Stmt := top 18
abbrev N_are_samples : List Str := ["value", "depth", "item"]
theorem sc_are_samples : FnScope N_are_samples ["value", "depth"] (defScope s_are_samples) := ⟨rfl, rfl, rfl, by decide +kernel, rfl, by decide +kernel, by decide +kernel⟩
abbrev s_wrapped : Stmt := top 19
abbrev N_wrapped : List Str := ["number", "depth", "half"]
theorem sc_wrapped : FnScope N_wrapped ["number", "depth"] (defScope s_wrapped) := ⟨rfl, rfl, rfl, by decide +kernel, rfl, by decide +kernel, by decide +kernel⟩
abbrev s_check_guesser : Stmt := top 26
abbrev N_check_guesser : List Str := ["value"]
theorem sc_check_guesser : FnScope N_check_guesser ["value"] (defScope s_check_guesser) := ⟨rfl, rfl, rfl, by decide +kernel, rfl, by decide +kernel, by decide +kernel⟩
abbrev s_check_row : Stmt := top 27
abbrev N_check_row : List Str := ["depth", "value"]
theorem sc_check_row : FnScope N_check_row ["depth", "value"] (defScope s_check_row) := ⟨rfl, rfl, rfl, by decide +kernel, rfl, by decide +kernel, by decide +kernel⟩
abbrev s_sum_before : Stmt := top 28
abbrev N_sum_before : List Str := ["guesser", "before", "found", "number", "weight"]
theorem sc_sum_before : FnScope N_sum_before ["guesser", "before"] (defScope s_sum_before) := ⟨rfl, rfl, rfl, by decide +kernel, rfl, by decide +kernel, by decide +kernel⟩
abbrev s_guess_behind : Stmt := top 29
abbrev N_guess_behind : List Str := ["guesser", "before"]
theorem sc_guess_behind : FnScope N_guess_behind ["guesser", "before"] (defScope s_guess_behind) := ⟨rfl, rfl, rfl, by decide +kernel, rfl, by decide +kernel, by decide +kernel⟩
abbrev s_told_rests : Stmt := top 30
abbrev N_told_rests : List Str := ["guesser", "row", "many", "found", "place"]
theorem sc_told_rests : FnScope N_told_rests ["guesser", "row"] (defScope s_told_rests) := ⟨rfl, rfl, rfl, by decide +kernel, rfl, by decide +kernel, by decide +kernel⟩
abbrev s_rests : Stmt := top 31
abbrev N_rests : List Str := ["guesser", "depth", "row", "item"]
theorem sc_rests : FnScope N_rests ["guesser", "depth", "row"] (defScope s_rests) := ⟨rfl, rfl, rfl, by decide +kernel, rfl, by decide +kernel, by decide +kernel⟩
abbrev s_check_width : Stmt := top 34
abbrev N_check_width : List Str := ["width", "depth"]
theorem sc_check_width : FnScope N_check_width ["width", "depth"] (defScope s_check_width) := ⟨rfl, rfl, rfl, by decide +kernel, rfl, by decide +kernel, by decide +kernel⟩
abbrev s_chosen : Stmt := top 35
abbrev N_chosen : List Str := ["many", "few", "found", "turn"]
theorem sc_chosen : FnScope N_chosen ["many", "few"] (defScope s_chosen) := ⟨rfl, rfl, rfl, by decide +kernel, rfl, by decide +kernel, by decide +kernel⟩
abbrev s_sums_below : Stmt := top 36
abbrev N_sums_below : List Str := ["many", "bound", "total", "found", "turn", "part"]
theorem sc_sums_below : FnScope N_sums_below ["many", "bound", "total"] (defScope s_sums_below) := ⟨rfl, rfl, rfl, by decide +kernel, rfl, by decide +kernel, by decide +kernel⟩
abbrev s_how_many : Stmt := top 37
abbrev N_how_many : List Str := ["depth", "width", "many", "size", "total"]
theorem sc_how_many : FnScope N_how_many ["depth", "width", "many", "size"] (defScope s_how_many) := ⟨rfl, rfl, rfl, by decide +kernel, rfl, by decide +kernel, by decide +kernel⟩
abbrev s_size_bounds : Stmt := top 38
abbrev N_size_bounds : List Str := ["depth", "width", "many"]
theorem sc_size_bounds : FnScope N_size_bounds ["depth", "width", "many"] (defScope s_size_bounds) := ⟨rfl, rfl, rfl, by decide +kernel, rfl, by decide +kernel, by decide +kernel⟩
abbrev s_law_cell : Stmt := top 40
abbrev N_law_cell : List Str := ["_law_script", "_law_index"]
theorem sc_law_cell : FnScope N_law_cell ["_law_script", "_law_index"] (defScope s_law_cell) := ⟨rfl, rfl, rfl, by decide +kernel, rfl, by decide +kernel, by decide +kernel⟩
abbrev s_law_hash : Stmt := top 41
abbrev N_law_hash : List Str := ["_law_seed", "_law_index", "_law_mixed"]
theorem sc_law_hash : FnScope N_law_hash ["_law_seed", "_law_index"] (defScope s_law_hash) := ⟨rfl, rfl, rfl, by decide +kernel, rfl, by decide +kernel, by decide +kernel⟩
abbrev s_law_generator : Stmt := top 42
abbrev N_law_generator : List Str := ["_law_script", "_law_index", "_law_seed"]
theorem sc_law_generator : FnScope N_law_generator ["_law_script", "_law_index"] (defScope s_law_generator) := ⟨rfl, rfl, rfl, by decide +kernel, rfl, by decide +kernel, by decide +kernel⟩
abbrev s_law_random : Stmt := top 43
abbrev N_law_random : List Str := ["_law_generator_here", "_law_bound", "_law_drawn", "_law_turn"]
theorem sc_law_random : FnScope N_law_random ["_law_generator_here", "_law_bound"] (defScope s_law_random) := ⟨rfl, rfl, rfl, by decide +kernel, rfl, by decide +kernel, by decide +kernel⟩
abbrev s_law_folded : Stmt := top 44
abbrev N_law_folded : List Str := ["_law_number"]
theorem sc_law_folded : FnScope N_law_folded ["_law_number"] (defScope s_law_folded) := ⟨rfl, rfl, rfl, by decide +kernel, rfl, by decide +kernel, by decide +kernel⟩
abbrev s_law_weights : Stmt := top 45
abbrev N_law_weights : List Str := ["_law_generator_here", "_law_many", "_law_found", "_law_number", "_law_great", "_law_kind"]
theorem sc_law_weights : FnScope N_law_weights ["_law_generator_here", "_law_many"] (defScope s_law_weights) := ⟨rfl, rfl, rfl, by decide +kernel, rfl, by decide +kernel, by decide +kernel⟩
abbrev s_law_all_rows : Stmt := top 46
abbrev N_law_all_rows : List Str := ["_law_depth", "_law_many", "_law_found", "_law_place", "_law_longer", "_law_row", "_law_sample"]
theorem sc_law_all_rows : FnScope N_law_all_rows ["_law_depth", "_law_many"] (defScope s_law_all_rows) := ⟨rfl, rfl, rfl, by decide +kernel, rfl, by decide +kernel, by decide +kernel⟩
abbrev s_law_counted : Stmt := top 47
abbrev N_law_counted : List Str := ["_law_guesser", "_law_depth", "_law_width", "_law_many", "_law_found", "_law_row", "_law_size", "_law_rest"]
theorem sc_law_counted : FnScope N_law_counted ["_law_guesser", "_law_depth", "_law_width", "_law_many"] (defScope s_law_counted) := ⟨rfl, rfl, rfl, by decide +kernel, rfl, by decide +kernel, by decide +kernel⟩
abbrev s_law_right : Stmt := top 48
abbrev N_law_right : List Str := ["_law_generator_here", "_law_depth", "_law_width", "_law_many", "_law_told", "_law_size", "_law_turn", "_law_least", "_law_greatest", "_law_number", "_law_guesser"]
theorem sc_law_right : FnScope N_law_right ["_law_generator_here", "_law_depth", "_law_width", "_law_many"] (defScope s_law_right) := ⟨rfl, rfl, rfl, by decide +kernel, rfl, by decide +kernel, by decide +kernel⟩
abbrev s_law_halves_right : Stmt := top 49
abbrev N_law_halves_right : List Str := ["_law_generator_here", "_law_depth", "_law_width", "_law_size", "_law_part", "_law_one", "_law_other", "_law_total", "_law_least"]
theorem sc_law_halves_right : FnScope N_law_halves_right ["_law_generator_here"] (defScope s_law_halves_right) := ⟨rfl, rfl, rfl, by decide +kernel, rfl, by decide +kernel, by decide +kernel⟩
abbrev s_law : Stmt := top 50
abbrev N_law : List Str := ["_law_script", "_law_index", "_law_generator_here", "_law_depth", "_law_width"]
theorem sc_law : FnScope N_law ["_law_script"] (defScope s_law) := ⟨rfl, rfl, rfl, by decide +kernel, rfl, by decide +kernel, by decide +kernel⟩
abbrev s_Guesser___init__ : Stmt := inClass (top 25) 0
abbrev N_Guesser___init__ : List Str := ["self", "weights", "shift", "weight"]
theorem sc_Guesser___init__ : FnScope N_Guesser___init__ ["self", "weights", "shift"] (defScope s_Guesser___init__) := ⟨rfl, rfl, rfl, by decide +kernel, rfl, by decide +kernel, by decide +kernel⟩
/-- what the top has left -/
structure Top (K : PySem.W.Frag) (mg : Str → Option Value) where
  C_Guesser : Addr
  gc_Guesser : mg "Guesser" = some (.ref C_Guesser)
  cl_Guesser : Cls K C_Guesser
  ic_Guesser : C8.InsC K C_Guesser
  na_Guesser_parts : NoAttr K C_Guesser "parts"
  na_Guesser_down : NoAttr K C_Guesser "down"
  f_is_whole : Addr
  fd_is_whole : FuncData
  F_is_whole : FunD K "is_whole" "is_whole" (defArgs s_is_whole) (defBody s_is_whole) (defScope s_is_whole) [] [] f_is_whole fd_is_whole
  b_is_whole : Binds K fd_is_whole ["value"] []
  g_is_whole : mg "is_whole" = some (.ref f_is_whole)
  f_is_between : Addr
  fd_is_between : FuncData
  F_is_between : FunD K "is_between" "is_between" (defArgs s_is_between) (defBody s_is_between) (defScope s_is_between) [] [] f_is_between fd_is_between
  b_is_between : Binds K fd_is_between ["value", "low", "high"] []
  g_is_between : mg "is_between" = some (.ref f_is_between)
  f_check_depth : Addr
  fd_check_depth : FuncData
  F_check_depth : FunD K "check_depth" "check_depth" (defArgs s_check_depth) (defBody s_check_depth) (defScope s_check_depth) [.int 24] [] f_check_depth fd_check_depth
  b_check_depth : Binds K fd_check_depth ["depth", "most"] []
  g_check_depth : mg "check_depth" = some (.ref f_check_depth)
  e0_check_depth : List Value
  v0_check_depth : Vals [.int 24] e0_check_depth
  b0_check_depth : Binds K fd_check_depth ["depth", "most"] e0_check_depth
  f_check_number : Addr
  fd_check_number : FuncData
  F_check_number : FunD K "check_number" "check_number" (defArgs s_check_number) (defBody s_check_number) (defScope s_check_number) [] [] f_check_number fd_check_number
  b_check_number : Binds K fd_check_number ["number", "low", "high"] []
  g_check_number : mg "check_number" = some (.ref f_check_number)
  f_is_sample : Addr
  fd_is_sample : FuncData
  F_is_sample : FunD K "is_sample" "is_sample" (defArgs s_is_sample) (defBody s_is_sample) (defScope s_is_sample) [] [] f_is_sample fd_is_sample
  b_is_sample : Binds K fd_is_sample ["value", "depth"] []
  g_is_sample : mg "is_sample" = some (.ref f_is_sample)
  f_are_samples : Addr
  fd_are_samples : FuncData
  F_are_samples : FunD K "are_samples" "are_samples" (defArgs s_are_samples) (defBody s_are_samples) (defScope s_are_samples) [] [] f_are_samples fd_are_samples
  b_are_samples : Binds K fd_are_samples ["value", "depth"] []
  g_are_samples : mg "are_samples" = some (.ref f_are_samples)
  f_wrapped : Addr
  fd_wrapped : FuncData
  F_wrapped : FunD K "wrapped" "wrapped" (defArgs s_wrapped) (defBody s_wrapped) (defScope s_wrapped) [] [] f_wrapped fd_wrapped
  b_wrapped : Binds K fd_wrapped ["number", "depth"] []
  g_wrapped : mg "wrapped" = some (.ref f_wrapped)
  f_check_guesser : Addr
  fd_check_guesser : FuncData
  F_check_guesser : FunD K "check_guesser" "check_guesser" (defArgs s_check_guesser) (defBody s_check_guesser) (defScope s_check_guesser) [] [] f_check_guesser fd_check_guesser
  b_check_guesser : Binds K fd_check_guesser ["value"] []
  g_check_guesser : mg "check_guesser" = some (.ref f_check_guesser)
  f_check_row : Addr
  fd_check_row : FuncData
  F_check_row : FunD K "check_row" "check_row" (defArgs s_check_row) (defBody s_check_row) (defScope s_check_row) [] [] f_check_row fd_check_row
  b_check_row : Binds K fd_check_row ["depth", "value"] []
  g_check_row : mg "check_row" = some (.ref f_check_row)
  f_sum_before : Addr
  fd_sum_before : FuncData
  F_sum_before : FunD K "sum_before" "sum_before" (defArgs s_sum_before) (defBody s_sum_before) (defScope s_sum_before) [] [] f_sum_before fd_sum_before
  b_sum_before : Binds K fd_sum_before ["guesser", "before"] []
  g_sum_before : mg "sum_before" = some (.ref f_sum_before)
  f_guess_behind : Addr
  fd_guess_behind : FuncData
  F_guess_behind : FunD K "guess_behind" "guess_behind" (defArgs s_guess_behind) (defBody s_guess_behind) (defScope s_guess_behind) [] [] f_guess_behind fd_guess_behind
  b_guess_behind : Binds K fd_guess_behind ["guesser", "before"] []
  g_guess_behind : mg "guess_behind" = some (.ref f_guess_behind)
  f_told_rests : Addr
  fd_told_rests : FuncData
  F_told_rests : FunD K "told_rests" "told_rests" (defArgs s_told_rests) (defBody s_told_rests) (defScope s_told_rests) [] [] f_told_rests fd_told_rests
  b_told_rests : Binds K fd_told_rests ["guesser", "row"] []
  g_told_rests : mg "told_rests" = some (.ref f_told_rests)
  f_rests : Addr
  fd_rests : FuncData
  F_rests : FunD K "rests" "rests" (defArgs s_rests) (defBody s_rests) (defScope s_rests) [] [] f_rests fd_rests
  b_rests : Binds K fd_rests ["guesser", "depth", "row"] []
  g_rests : mg "rests" = some (.ref f_rests)
  f_check_width : Addr
  fd_check_width : FuncData
  F_check_width : FunD K "check_width" "check_width" (defArgs s_check_width) (defBody s_check_width) (defScope s_check_width) [] [] f_check_width fd_check_width
  b_check_width : Binds K fd_check_width ["width", "depth"] []
  g_check_width : mg "check_width" = some (.ref f_check_width)
  f_chosen : Addr
  fd_chosen : FuncData
  F_chosen : FunD K "chosen" "chosen" (defArgs s_chosen) (defBody s_chosen) (defScope s_chosen) [] [] f_chosen fd_chosen
  b_chosen : Binds K fd_chosen ["many", "few"] []
  g_chosen : mg "chosen" = some (.ref f_chosen)
  f_sums_below : Addr
  fd_sums_below : FuncData
  F_sums_below : FunD K "sums_below" "sums_below" (defArgs s_sums_below) (defBody s_sums_below) (defScope s_sums_below) [] [] f_sums_below fd_sums_below
  b_sums_below : Binds K fd_sums_below ["many", "bound", "total"] []
  g_sums_below : mg "sums_below" = some (.ref f_sums_below)
  f_how_many : Addr
  fd_how_many : FuncData
  F_how_many : FunD K "how_many" "how_many" (defArgs s_how_many) (defBody s_how_many) (defScope s_how_many) [] [] f_how_many fd_how_many
  b_how_many : Binds K fd_how_many ["depth", "width", "many", "size"] []
  g_how_many : mg "how_many" = some (.ref f_how_many)
  f_size_bounds : Addr
  fd_size_bounds : FuncData
  F_size_bounds : FunD K "size_bounds" "size_bounds" (defArgs s_size_bounds) (defBody s_size_bounds) (defScope s_size_bounds) [] [] f_size_bounds fd_size_bounds
  b_size_bounds : Binds K fd_size_bounds ["depth", "width", "many"] []
  g_size_bounds : mg "size_bounds" = some (.ref f_size_bounds)
  f_law_cell : Addr
  fd_law_cell : FuncData
  F_law_cell : FunD K "_law_cell" "_law_cell" (defArgs s_law_cell) (defBody s_law_cell) (defScope s_law_cell) [] [] f_law_cell fd_law_cell
  b_law_cell : Binds K fd_law_cell ["_law_script", "_law_index"] []
  g_law_cell : mg "_law_cell" = some (.ref f_law_cell)
  f_law_hash : Addr
  fd_law_hash : FuncData
  F_law_hash : FunD K "_law_hash" "_law_hash" (defArgs s_law_hash) (defBody s_law_hash) (defScope s_law_hash) [] [] f_law_hash fd_law_hash
  b_law_hash : Binds K fd_law_hash ["_law_seed", "_law_index"] []
  g_law_hash : mg "_law_hash" = some (.ref f_law_hash)
  f_law_generator : Addr
  fd_law_generator : FuncData
  F_law_generator : FunD K "_law_generator" "_law_generator" (defArgs s_law_generator) (defBody s_law_generator) (defScope s_law_generator) [] [] f_law_generator fd_law_generator
  b_law_generator : Binds K fd_law_generator ["_law_script", "_law_index"] []
  g_law_generator : mg "_law_generator" = some (.ref f_law_generator)
  f_law_random : Addr
  fd_law_random : FuncData
  F_law_random : FunD K "_law_random" "_law_random" (defArgs s_law_random) (defBody s_law_random) (defScope s_law_random) [] [] f_law_random fd_law_random
  b_law_random : Binds K fd_law_random ["_law_generator_here", "_law_bound"] []
  g_law_random : mg "_law_random" = some (.ref f_law_random)
  f_law_folded : Addr
  fd_law_folded : FuncData
  F_law_folded : FunD K "_law_folded" "_law_folded" (defArgs s_law_folded) (defBody s_law_folded) (defScope s_law_folded) [] [] f_law_folded fd_law_folded
  b_law_folded : Binds K fd_law_folded ["_law_number"] []
  g_law_folded : mg "_law_folded" = some (.ref f_law_folded)
  f_law_weights : Addr
  fd_law_weights : FuncData
  F_law_weights : FunD K "_law_weights" "_law_weights" (defArgs s_law_weights) (defBody s_law_weights) (defScope s_law_weights) [] [] f_law_weights fd_law_weights
  b_law_weights : Binds K fd_law_weights ["_law_generator_here", "_law_many"] []
  g_law_weights : mg "_law_weights" = some (.ref f_law_weights)
  f_law_all_rows : Addr
  fd_law_all_rows : FuncData
  F_law_all_rows : FunD K "_law_all_rows" "_law_all_rows" (defArgs s_law_all_rows) (defBody s_law_all_rows) (defScope s_law_all_rows) [] [] f_law_all_rows fd_law_all_rows
  b_law_all_rows : Binds K fd_law_all_rows ["_law_depth", "_law_many"] []
  g_law_all_rows : mg "_law_all_rows" = some (.ref f_law_all_rows)
  f_law_counted : Addr
  fd_law_counted : FuncData
  F_law_counted : FunD K "_law_counted" "_law_counted" (defArgs s_law_counted) (defBody s_law_counted) (defScope s_law_counted) [] [] f_law_counted fd_law_counted
  b_law_counted : Binds K fd_law_counted ["_law_guesser", "_law_depth", "_law_width", "_law_many"] []
  g_law_counted : mg "_law_counted" = some (.ref f_law_counted)
  f_law_right : Addr
  fd_law_right : FuncData
  F_law_right : FunD K "_law_right" "_law_right" (defArgs s_law_right) (defBody s_law_right) (defScope s_law_right) [] [] f_law_right fd_law_right
  b_law_right : Binds K fd_law_right ["_law_generator_here", "_law_depth", "_law_width", "_law_many"] []
  g_law_right : mg "_law_right" = some (.ref f_law_right)
  f_law_halves_right : Addr
  fd_law_halves_right : FuncData
  F_law_halves_right : FunD K "_law_halves_right" "_law_halves_right" (defArgs s_law_halves_right) (defBody s_law_halves_right) (defScope s_law_halves_right) [] [] f_law_halves_right fd_law_halves_right
  b_law_halves_right : Binds K fd_law_halves_right ["_law_generator_here"] []
  g_law_halves_right : mg "_law_halves_right" = some (.ref f_law_halves_right)
  f_law : Addr
  fd_law : FuncData
  F_law : FunD K "law" "law" (defArgs s_law) (defBody s_law) (defScope s_law) [] [] f_law fd_law
  b_law : Binds K fd_law ["_law_script"] []
  g_law : mg "law" = some (.ref f_law)
  f_Guesser___init__ : Addr
  fd_Guesser___init__ : FuncData
  F_Guesser___init__ : FunD K "__init__" "Guesser.__init__" (defArgs s_Guesser___init__) (defBody s_Guesser___init__) (defScope s_Guesser___init__) [] [] f_Guesser___init__ fd_Guesser___init__
  b_Guesser___init__ : Binds K fd_Guesser___init__ ["self", "weights", "shift"] []
  me_Guesser___init__ : Meth K C_Guesser "__init__" f_Guesser___init__
  mk_Guesser : Mk K C_Guesser f_Guesser___init__
  n_len : mg "len" = none
  n_sum : mg "sum" = none
  n_max : mg "max" = none
  n_min : mg "min" = none
  n_int : mg "int" = none
  n_bool : mg "bool" = none
  n_list : mg "list" = none
  n_range : mg "range" = none
  n_isinstance : mg "isinstance" = none
  n_enumerate : mg "enumerate" = none
  t_MOST_DEPTH_kinds : Tok
  m_MOST_DEPTH_kinds : mg "MOST_DEPTH_kinds" = some (.int 24 t_MOST_DEPTH_kinds)
  t_MOST_ORDER : Tok
  m_MOST_ORDER : mg "MOST_ORDER" = some (.int 8 t_MOST_ORDER)
  t_MOST_WEIGHT : Tok
  m_MOST_WEIGHT : mg "MOST_WEIGHT" = some (.int 32768 t_MOST_WEIGHT)
  t_MOST_SHIFT : Tok
  m_MOST_SHIFT : mg "MOST_SHIFT" = some (.int 15 t_MOST_SHIFT)
  t_MOST_DEPTH_guessers : Tok
  m_MOST_DEPTH_guessers : mg "MOST_DEPTH_guessers" = some (.int 32 t_MOST_DEPTH_guessers)
  t_MOST_MANY : Tok
  m_MOST_MANY : mg "MOST_MANY" = some (.int 200 t_MOST_MANY)
def d_is_whole : He.DefD := ⟨("is_whole", none), "is_whole", "is_whole", defArgs s_is_whole, defBody s_is_whole, defScope s_is_whole, [], []⟩
def d_is_between : He.DefD := ⟨("is_between", none), "is_between", "is_between", defArgs s_is_between, defBody s_is_between, defScope s_is_between, [], []⟩
def d_check_depth : He.DefD := ⟨("check_depth", none), "check_depth", "check_depth", defArgs s_check_depth, defBody s_check_depth, defScope s_check_depth, [.int 24], []⟩
def d_check_number : He.DefD := ⟨("check_number", none), "check_number", "check_number", defArgs s_check_number, defBody s_check_number, defScope s_check_number, [], []⟩
def d_is_sample : He.DefD := ⟨("is_sample", none), "is_sample", "is_sample", defArgs s_is_sample, defBody s_is_sample, defScope s_is_sample, [], []⟩
def d_are_samples : He.DefD := ⟨("are_samples", none), "are_samples", "are_samples", defArgs s_are_samples, defBody s_are_samples, defScope s_are_samples, [], []⟩
def d_wrapped : He.DefD := ⟨("wrapped", none), "wrapped", "wrapped", defArgs s_wrapped, defBody s_wrapped, defScope s_wrapped, [], []⟩
def d_check_guesser : He.DefD := ⟨("check_guesser", none), "check_guesser", "check_guesser", defArgs s_check_guesser, defBody s_check_guesser, defScope s_check_guesser, [], []⟩
def d_check_row : He.DefD := ⟨("check_row", none), "check_row", "check_row", defArgs s_check_row, defBody s_check_row, defScope s_check_row, [], []⟩
def d_sum_before : He.DefD := ⟨("sum_before", none), "sum_before", "sum_before", defArgs s_sum_before, defBody s_sum_before, defScope s_sum_before, [], []⟩
def d_guess_behind : He.DefD := ⟨("guess_behind", none), "guess_behind", "guess_behind", defArgs s_guess_behind, defBody s_guess_behind, defScope s_guess_behind, [], []⟩
def d_told_rests : He.DefD := ⟨("told_rests", none), "told_rests", "told_rests", defArgs s_told_rests, defBody s_told_rests, defScope s_told_rests, [], []⟩
def d_rests : He.DefD := ⟨("rests", none), "rests", "rests", defArgs s_rests, defBody s_rests, defScope s_rests, [], []⟩
def d_check_width : He.DefD := ⟨("check_width", none), "check_width", "check_width", defArgs s_check_width, defBody s_check_width, defScope s_check_width, [], []⟩
def d_chosen : He.DefD := ⟨("chosen", none), "chosen", "chosen", defArgs s_chosen, defBody s_chosen, defScope s_chosen, [], []⟩
def d_sums_below : He.DefD := ⟨("sums_below", none), "sums_below", "sums_below", defArgs s_sums_below, defBody s_sums_below, defScope s_sums_below, [], []⟩
def d_how_many : He.DefD := ⟨("how_many", none), "how_many", "how_many", defArgs s_how_many, defBody s_how_many, defScope s_how_many, [], []⟩
def d_size_bounds : He.DefD := ⟨("size_bounds", none), "size_bounds", "size_bounds", defArgs s_size_bounds, defBody s_size_bounds, defScope s_size_bounds, [], []⟩
def d_law_cell : He.DefD := ⟨("_law_cell", none), "_law_cell", "_law_cell", defArgs s_law_cell, defBody s_law_cell, defScope s_law_cell, [], []⟩
def d_law_hash : He.DefD := ⟨("_law_hash", none), "_law_hash", "_law_hash", defArgs s_law_hash, defBody s_law_hash, defScope s_law_hash, [], []⟩
def d_law_generator : He.DefD := ⟨("_law_generator", none), "_law_generator", "_law_generator", defArgs s_law_generator, defBody s_law_generator, defScope s_law_generator, [], []⟩
def d_law_random : He.DefD := ⟨("_law_random", none), "_law_random", "_law_random", defArgs s_law_random, defBody s_law_random, defScope s_law_random, [], []⟩
def d_law_folded : He.DefD := ⟨("_law_folded", none), "_law_folded", "_law_folded", defArgs s_law_folded, defBody s_law_folded, defScope s_law_folded, [], []⟩
def d_law_weights : He.DefD := ⟨("_law_weights", none), "_law_weights", "_law_weights", defArgs s_law_weights, defBody s_law_weights, defScope s_law_weights, [], []⟩
def d_law_all_rows : He.DefD := ⟨("_law_all_rows", none), "_law_all_rows", "_law_all_rows", defArgs s_law_all_rows, defBody s_law_all_rows, defScope s_law_all_rows, [], []⟩
def d_law_counted : He.DefD := ⟨("_law_counted", none), "_law_counted", "_law_counted", defArgs s_law_counted, defBody s_law_counted, defScope s_law_counted, [], []⟩
def d_law_right : He.DefD := ⟨("_law_right", none), "_law_right", "_law_right", defArgs s_law_right, defBody s_law_right, defScope s_law_right, [], []⟩
def d_law_halves_right : He.DefD := ⟨("_law_halves_right", none), "_law_halves_right", "_law_halves_right", defArgs s_law_halves_right, defBody s_law_halves_right, defScope s_law_halves_right, [], []⟩
def d_law : He.DefD := ⟨("law", none), "law", "law", defArgs s_law, defBody s_law, defScope s_law, [], []⟩
def d_Guesser___init__ : He.DefD := ⟨("Guesser", some "__init__"), "__init__", "Guesser.__init__", defArgs s_Guesser___init__, defBody s_Guesser___init__, defScope s_Guesser___init__, [], []⟩
def fn : List He.DefD := [d_is_whole, d_is_between, d_check_depth, d_check_number, d_is_sample, d_are_samples, d_wrapped, d_check_guesser, d_check_row, d_sum_before, d_guess_behind, d_told_rests, d_rests, d_check_width, d_chosen, d_sums_below, d_how_many, d_size_bounds, d_law_cell, d_law_hash, d_law_generator, d_law_random, d_law_folded, d_law_weights, d_law_all_rows, d_law_counted, d_law_right, d_law_halves_right, d_law, d_Guesser___init__]
def fa0 : List He.Fa := [.glo "is_whole", .glo "is_between", .glo "check_depth", .glo "check_number", .glo "is_sample", .glo "are_samples", .glo "wrapped", .glo "check_guesser", .glo "check_row", .glo "sum_before", .glo "guess_behind", .glo "told_rests", .glo "rests", .glo "check_width", .glo "chosen", .glo "sums_below", .glo "how_many", .glo "size_bounds", .glo "_law_cell", .glo "_law_hash", .glo "_law_generator", .glo "_law_random", .glo "_law_folded", .glo "_law_weights", .glo "_law_all_rows", .glo "_law_counted", .glo "_law_right", .glo "_law_halves_right", .glo "law", .free "len"]
def fa1 : List He.Fa := [.free "sum", .free "max", .free "min", .free "int", .free "bool", .free "list", .free "range", .free "isinstance", .free "enumerate", .int "MOST_DEPTH_kinds" 24, .int "MOST_ORDER" 8, .int "MOST_WEIGHT" 32768, .int "MOST_SHIFT" 15, .int "MOST_DEPTH_guessers" 32, .int "MOST_MANY" 200, .glo "Guesser", .cls "Guesser", .noat "Guesser" "parts", .noat "Guesser" "down", .mkr "Guesser", .meth "Guesser" "__init__"]
def fa : List He.Fa := fa0 ++ fa1
/-- isinstance of an own class -/
def insB (K : PySem.W.Frag) (x : Str) : Bool := decide (PySem.W.findIn K (.ref (He.ga K x)) "__class__" = some (some (.builtin "object.__class__"))) && (decide (PySem.W.specialIn K (.builtin "object.__class__") "__get__" = some (some (.builtin "getset_descriptor.__get__"))) && (decide (PySem.W.takesIn K (.builtin "object.__class__") = some true) && (decide (PySem.W.mroIn K (He.ga K x) (.type "object") = some true) && decide (PySem.W.kitOne K (.ref (He.ga K x)) (.ref (He.ga K x)) = some true))))
theorem insB_ok {K : PySem.W.Frag} {x : Str} (cl : Cls K (He.ga K x)) (h : insB K x = true) : C8.InsC K (He.ga K x) := by
  unfold insB at h
  simp only [Bool.and_eq_true, decide_eq_true_eq] at h
  exact ⟨cl, h.1, h.2.1, h.2.2.1, h.2.2.2.1, h.2.2.2.2⟩
def own : List Str := ["Guesser"]
def ex (K : PySem.W.Frag) : Bool := own.all fun x => insB K x
abbrev R : PySem.W.OpenRow := PySem.W.OpenLaw.row PySem.Challenge.rw_wholesound_k50_rows_of_each_size
abbrev Al : Type := He.AlD × Bool
def obsG (g : Addr → Option Obj) : Al := (He.obsDG 5 fa fn g, ex (He.frG g (He.asD g 5)))
def Says (K : PySem.W.Frag) : Prop := He.SaysD fa fn K ∧ ex K = true
def hk : PySem.W.Hook where
  α := Al
  obs := fun s => obsG s.heap.get?
  val := fun _ => (He.valD fn, true)
  says := fun _ h => ∃ K : PySem.W.Frag, K.In h ∧ Says K
  of := fun _ _ e => ⟨_, He.frG_in, congrArg Prod.fst e, congrArg Prod.snd e⟩
  keeps := fun _ _ _ ⟨K, hK, c⟩ k => ⟨K, PySem.W.Frag.In.keeps hK k, c⟩
def ob (s : PySem.W.SharedT) : Al := obsG (HandSHeadRun.getT s)
theorem ob_eq (s : PySem.W.SharedT) : ob s = hk.obs s.abs := by
  have e : HandSHeadRun.getT s = s.abs.heap.get? := funext (HandSHeadRun.getT_eq s)
  show obsG (HandSHeadRun.getT s) = obsG s.abs.heap.get?
  rw [e]
def loose0 : List PySem.Str := ["_wall", "SoundError", "InvalidNumber", "InvalidDepth", "InvalidList", "InvalidItem", "InvalidRow", "InvalidGuesser", "InvalidWidth", "MOST_DEPTH_kinds", "is_whole", "is_between", "check_depth", "check_number", "is_sample", "are_samples", "wrapped", "MOST_ORDER", "MOST_WEIGHT", "MOST_SHIFT", "MOST_DEPTH_guessers", "Guesser", "check_guesser", "check_row", "sum_before", "guess_behind", "told_rests", "rests", "MOST_MANY", "check_width"]
def loose1 : List PySem.Str := ["chosen", "sums_below", "how_many", "size_bounds", "_law_cell", "_law_hash", "_law_generator", "_law_random", "_law_folded", "_law_weights", "_law_all_rows", "_law_counted", "_law_right", "_law_halves_right"]
abbrev loose : List PySem.Str := loose0 ++ loose1
theorem run (w : World) : HandSHeadRun.RunEq R (PySem.W.view R.prog [50]) hk ob 8000 loose w := by
  intro os
  kernel_rfl
noncomputable def top_mk {K : PySem.W.Frag} {h : Heap} {mg : Str → Option Value} (X : K.In h) (G : h.Ns mainGlobals mg) (c : Says K) : Top K mg :=
  let p0 := c.1.def_ 0 (d := d_is_whole) rfl
  let p1 := c.1.def_ 1 (d := d_is_between) rfl
  let p2 := c.1.def_ 2 (d := d_check_depth) rfl
  let p3 := c.1.def_ 3 (d := d_check_number) rfl
  let p4 := c.1.def_ 4 (d := d_is_sample) rfl
  let p5 := c.1.def_ 5 (d := d_are_samples) rfl
  let p6 := c.1.def_ 6 (d := d_wrapped) rfl
  let p7 := c.1.def_ 7 (d := d_check_guesser) rfl
  let p8 := c.1.def_ 8 (d := d_check_row) rfl
  let p9 := c.1.def_ 9 (d := d_sum_before) rfl
  let p10 := c.1.def_ 10 (d := d_guess_behind) rfl
  let p11 := c.1.def_ 11 (d := d_told_rests) rfl
  let p12 := c.1.def_ 12 (d := d_rests) rfl
  let p13 := c.1.def_ 13 (d := d_check_width) rfl
  let p14 := c.1.def_ 14 (d := d_chosen) rfl
  let p15 := c.1.def_ 15 (d := d_sums_below) rfl
  let p16 := c.1.def_ 16 (d := d_how_many) rfl
  let p17 := c.1.def_ 17 (d := d_size_bounds) rfl
  let p18 := c.1.def_ 18 (d := d_law_cell) rfl
  let p19 := c.1.def_ 19 (d := d_law_hash) rfl
  let p20 := c.1.def_ 20 (d := d_law_generator) rfl
  let p21 := c.1.def_ 21 (d := d_law_random) rfl
  let p22 := c.1.def_ 22 (d := d_law_folded) rfl
  let p23 := c.1.def_ 23 (d := d_law_weights) rfl
  let p24 := c.1.def_ 24 (d := d_law_all_rows) rfl
  let p25 := c.1.def_ 25 (d := d_law_counted) rfl
  let p26 := c.1.def_ 26 (d := d_law_right) rfl
  let p27 := c.1.def_ 27 (d := d_law_halves_right) rfl
  let p28 := c.1.def_ 28 (d := d_law) rfl
  let p29 := c.1.def_ 29 (d := d_Guesser___init__) rfl
  let q0 := He.int_ok X G (c.1.fact 39 (f := .int "MOST_DEPTH_kinds" 24) rfl)
  let q1 := He.int_ok X G (c.1.fact 40 (f := .int "MOST_ORDER" 8) rfl)
  let q2 := He.int_ok X G (c.1.fact 41 (f := .int "MOST_WEIGHT" 32768) rfl)
  let q3 := He.int_ok X G (c.1.fact 42 (f := .int "MOST_SHIFT" 15) rfl)
  let q4 := He.int_ok X G (c.1.fact 43 (f := .int "MOST_DEPTH_guessers" 32) rfl)
  let q5 := He.int_ok X G (c.1.fact 44 (f := .int "MOST_MANY" 200) rfl)
  { C_Guesser := _, gc_Guesser := He.glo_ok X G (c.1.fact 45 (f := .glo "Guesser") rfl), cl_Guesser := He.cls_ok (c.1.fact 46 (f := .cls "Guesser") rfl), ic_Guesser := insB_ok (x := "Guesser") (He.cls_ok (c.1.fact 46 (f := .cls "Guesser") rfl)) (List.all_eq_true.mp c.2 "Guesser" (by decide +kernel)),
    na_Guesser_parts := He.noat_ok (c.1.fact 47 (f := .noat "Guesser" "parts") rfl),
    na_Guesser_down := He.noat_ok (c.1.fact 48 (f := .noat "Guesser" "down") rfl),
    f_is_whole := _, fd_is_whole := p0.choose, F_is_whole := p0.choose_spec, b_is_whole := p0.choose_spec.bindsN fun _ _ _ _ _ _ us hl => match us, hl with | [_], _ => rfl, g_is_whole := He.glo_ok X G (c.1.fact 0 (f := .glo "is_whole") rfl),
    f_is_between := _, fd_is_between := p1.choose, F_is_between := p1.choose_spec, b_is_between := p1.choose_spec.bindsN fun _ _ _ _ _ _ us hl => match us, hl with | [_, _, _], _ => rfl, g_is_between := He.glo_ok X G (c.1.fact 1 (f := .glo "is_between") rfl),
    f_check_depth := _, fd_check_depth := p2.choose, F_check_depth := p2.choose_spec, b_check_depth := nil_binds (p2.choose_spec.binds1 (ps := ["depth", "most"]) 2 1 (by simp [He.DefD.dvs, d_check_depth]) rfl fun _ _ _ _ _ _ _ us its h1 h2 => match us, its, h1, h2 with | [_, _], [_], _, _ => ⟨_, rfl, rfl⟩), e0_check_depth := (p2.choose_spec.binds1 (ps := ["depth", "most"]) 1 0 (by simp [He.DefD.dvs, d_check_depth]) rfl fun _ _ _ _ _ _ _ us its h1 h2 => match us, its, h1, h2 with | [_], [_], _, _ => ⟨_, rfl, rfl⟩).choose, v0_check_depth := (p2.choose_spec.binds1 (ps := ["depth", "most"]) 1 0 (by simp [He.DefD.dvs, d_check_depth]) rfl fun _ _ _ _ _ _ _ us its h1 h2 => match us, its, h1, h2 with | [_], [_], _, _ => ⟨_, rfl, rfl⟩).choose_spec.1, b0_check_depth := (p2.choose_spec.binds1 (ps := ["depth", "most"]) 1 0 (by simp [He.DefD.dvs, d_check_depth]) rfl fun _ _ _ _ _ _ _ us its h1 h2 => match us, its, h1, h2 with | [_], [_], _, _ => ⟨_, rfl, rfl⟩).choose_spec.2, g_check_depth := He.glo_ok X G (c.1.fact 2 (f := .glo "check_depth") rfl),
    f_check_number := _, fd_check_number := p3.choose, F_check_number := p3.choose_spec, b_check_number := p3.choose_spec.bindsN fun _ _ _ _ _ _ us hl => match us, hl with | [_, _, _], _ => rfl, g_check_number := He.glo_ok X G (c.1.fact 3 (f := .glo "check_number") rfl),
    f_is_sample := _, fd_is_sample := p4.choose, F_is_sample := p4.choose_spec, b_is_sample := p4.choose_spec.bindsN fun _ _ _ _ _ _ us hl => match us, hl with | [_, _], _ => rfl, g_is_sample := He.glo_ok X G (c.1.fact 4 (f := .glo "is_sample") rfl),
    f_are_samples := _, fd_are_samples := p5.choose, F_are_samples := p5.choose_spec, b_are_samples := p5.choose_spec.bindsN fun _ _ _ _ _ _ us hl => match us, hl with | [_, _], _ => rfl, g_are_samples := He.glo_ok X G (c.1.fact 5 (f := .glo "are_samples") rfl),
    f_wrapped := _, fd_wrapped := p6.choose, F_wrapped := p6.choose_spec, b_wrapped := p6.choose_spec.bindsN fun _ _ _ _ _ _ us hl => match us, hl with | [_, _], _ => rfl, g_wrapped := He.glo_ok X G (c.1.fact 6 (f := .glo "wrapped") rfl),
    f_check_guesser := _, fd_check_guesser := p7.choose, F_check_guesser := p7.choose_spec, b_check_guesser := p7.choose_spec.bindsN fun _ _ _ _ _ _ us hl => match us, hl with | [_], _ => rfl, g_check_guesser := He.glo_ok X G (c.1.fact 7 (f := .glo "check_guesser") rfl),
    f_check_row := _, fd_check_row := p8.choose, F_check_row := p8.choose_spec, b_check_row := p8.choose_spec.bindsN fun _ _ _ _ _ _ us hl => match us, hl with | [_, _], _ => rfl, g_check_row := He.glo_ok X G (c.1.fact 8 (f := .glo "check_row") rfl),
    f_sum_before := _, fd_sum_before := p9.choose, F_sum_before := p9.choose_spec, b_sum_before := p9.choose_spec.bindsN fun _ _ _ _ _ _ us hl => match us, hl with | [_, _], _ => rfl, g_sum_before := He.glo_ok X G (c.1.fact 9 (f := .glo "sum_before") rfl),
    f_guess_behind := _, fd_guess_behind := p10.choose, F_guess_behind := p10.choose_spec, b_guess_behind := p10.choose_spec.bindsN fun _ _ _ _ _ _ us hl => match us, hl with | [_, _], _ => rfl, g_guess_behind := He.glo_ok X G (c.1.fact 10 (f := .glo "guess_behind") rfl),
    f_told_rests := _, fd_told_rests := p11.choose, F_told_rests := p11.choose_spec, b_told_rests := p11.choose_spec.bindsN fun _ _ _ _ _ _ us hl => match us, hl with | [_, _], _ => rfl, g_told_rests := He.glo_ok X G (c.1.fact 11 (f := .glo "told_rests") rfl),
    f_rests := _, fd_rests := p12.choose, F_rests := p12.choose_spec, b_rests := p12.choose_spec.bindsN fun _ _ _ _ _ _ us hl => match us, hl with | [_, _, _], _ => rfl, g_rests := He.glo_ok X G (c.1.fact 12 (f := .glo "rests") rfl),
    f_check_width := _, fd_check_width := p13.choose, F_check_width := p13.choose_spec, b_check_width := p13.choose_spec.bindsN fun _ _ _ _ _ _ us hl => match us, hl with | [_, _], _ => rfl, g_check_width := He.glo_ok X G (c.1.fact 13 (f := .glo "check_width") rfl),
    f_chosen := _, fd_chosen := p14.choose, F_chosen := p14.choose_spec, b_chosen := p14.choose_spec.bindsN fun _ _ _ _ _ _ us hl => match us, hl with | [_, _], _ => rfl, g_chosen := He.glo_ok X G (c.1.fact 14 (f := .glo "chosen") rfl),
    f_sums_below := _, fd_sums_below := p15.choose, F_sums_below := p15.choose_spec, b_sums_below := p15.choose_spec.bindsN fun _ _ _ _ _ _ us hl => match us, hl with | [_, _, _], _ => rfl, g_sums_below := He.glo_ok X G (c.1.fact 15 (f := .glo "sums_below") rfl),
    f_how_many := _, fd_how_many := p16.choose, F_how_many := p16.choose_spec, b_how_many := p16.choose_spec.bindsN fun _ _ _ _ _ _ us hl => match us, hl with | [_, _, _, _], _ => rfl, g_how_many := He.glo_ok X G (c.1.fact 16 (f := .glo "how_many") rfl),
    f_size_bounds := _, fd_size_bounds := p17.choose, F_size_bounds := p17.choose_spec, b_size_bounds := p17.choose_spec.bindsN fun _ _ _ _ _ _ us hl => match us, hl with | [_, _, _], _ => rfl, g_size_bounds := He.glo_ok X G (c.1.fact 17 (f := .glo "size_bounds") rfl),
    f_law_cell := _, fd_law_cell := p18.choose, F_law_cell := p18.choose_spec, b_law_cell := p18.choose_spec.bindsN fun _ _ _ _ _ _ us hl => match us, hl with | [_, _], _ => rfl, g_law_cell := He.glo_ok X G (c.1.fact 18 (f := .glo "_law_cell") rfl),
    f_law_hash := _, fd_law_hash := p19.choose, F_law_hash := p19.choose_spec, b_law_hash := p19.choose_spec.bindsN fun _ _ _ _ _ _ us hl => match us, hl with | [_, _], _ => rfl, g_law_hash := He.glo_ok X G (c.1.fact 19 (f := .glo "_law_hash") rfl),
    f_law_generator := _, fd_law_generator := p20.choose, F_law_generator := p20.choose_spec, b_law_generator := p20.choose_spec.bindsN fun _ _ _ _ _ _ us hl => match us, hl with | [_, _], _ => rfl, g_law_generator := He.glo_ok X G (c.1.fact 20 (f := .glo "_law_generator") rfl),
    f_law_random := _, fd_law_random := p21.choose, F_law_random := p21.choose_spec, b_law_random := p21.choose_spec.bindsN fun _ _ _ _ _ _ us hl => match us, hl with | [_, _], _ => rfl, g_law_random := He.glo_ok X G (c.1.fact 21 (f := .glo "_law_random") rfl),
    f_law_folded := _, fd_law_folded := p22.choose, F_law_folded := p22.choose_spec, b_law_folded := p22.choose_spec.bindsN fun _ _ _ _ _ _ us hl => match us, hl with | [_], _ => rfl, g_law_folded := He.glo_ok X G (c.1.fact 22 (f := .glo "_law_folded") rfl),
    f_law_weights := _, fd_law_weights := p23.choose, F_law_weights := p23.choose_spec, b_law_weights := p23.choose_spec.bindsN fun _ _ _ _ _ _ us hl => match us, hl with | [_, _], _ => rfl, g_law_weights := He.glo_ok X G (c.1.fact 23 (f := .glo "_law_weights") rfl),
    f_law_all_rows := _, fd_law_all_rows := p24.choose, F_law_all_rows := p24.choose_spec, b_law_all_rows := p24.choose_spec.bindsN fun _ _ _ _ _ _ us hl => match us, hl with | [_, _], _ => rfl, g_law_all_rows := He.glo_ok X G (c.1.fact 24 (f := .glo "_law_all_rows") rfl),
    f_law_counted := _, fd_law_counted := p25.choose, F_law_counted := p25.choose_spec, b_law_counted := p25.choose_spec.bindsN fun _ _ _ _ _ _ us hl => match us, hl with | [_, _, _, _], _ => rfl, g_law_counted := He.glo_ok X G (c.1.fact 25 (f := .glo "_law_counted") rfl),
    f_law_right := _, fd_law_right := p26.choose, F_law_right := p26.choose_spec, b_law_right := p26.choose_spec.bindsN fun _ _ _ _ _ _ us hl => match us, hl with | [_, _, _, _], _ => rfl, g_law_right := He.glo_ok X G (c.1.fact 26 (f := .glo "_law_right") rfl),
    f_law_halves_right := _, fd_law_halves_right := p27.choose, F_law_halves_right := p27.choose_spec, b_law_halves_right := p27.choose_spec.bindsN fun _ _ _ _ _ _ us hl => match us, hl with | [_], _ => rfl, g_law_halves_right := He.glo_ok X G (c.1.fact 27 (f := .glo "_law_halves_right") rfl),
    f_law := _, fd_law := p28.choose, F_law := p28.choose_spec, b_law := p28.choose_spec.bindsN fun _ _ _ _ _ _ us hl => match us, hl with | [_], _ => rfl, g_law := He.glo_ok X G (c.1.fact 28 (f := .glo "law") rfl),
    f_Guesser___init__ := _, fd_Guesser___init__ := p29.choose, F_Guesser___init__ := p29.choose_spec, b_Guesser___init__ := p29.choose_spec.bindsN fun _ _ _ _ _ _ us hl => match us, hl with | [_, _, _], _ => rfl, me_Guesser___init__ := He.meth_ok (c.1.fact 50 (f := .meth "Guesser" "__init__") rfl), mk_Guesser := He.mkr_ok (c.1.fact 49 (f := .mkr "Guesser") rfl),
    n_len := He.free_ok X G (c.1.fact 29 (f := .free "len") rfl),
    n_sum := He.free_ok X G (c.1.fact 30 (f := .free "sum") rfl),
    n_max := He.free_ok X G (c.1.fact 31 (f := .free "max") rfl),
    n_min := He.free_ok X G (c.1.fact 32 (f := .free "min") rfl),
    n_int := He.free_ok X G (c.1.fact 33 (f := .free "int") rfl),
    n_bool := He.free_ok X G (c.1.fact 34 (f := .free "bool") rfl),
    n_list := He.free_ok X G (c.1.fact 35 (f := .free "list") rfl),
    n_range := He.free_ok X G (c.1.fact 36 (f := .free "range") rfl),
    n_isinstance := He.free_ok X G (c.1.fact 37 (f := .free "isinstance") rfl),
    n_enumerate := He.free_ok X G (c.1.fact 38 (f := .free "enumerate") rfl),
    t_MOST_DEPTH_kinds := q0.choose, m_MOST_DEPTH_kinds := q0.choose_spec,
    t_MOST_ORDER := q1.choose, m_MOST_ORDER := q1.choose_spec,
    t_MOST_WEIGHT := q2.choose, m_MOST_WEIGHT := q2.choose_spec,
    t_MOST_SHIFT := q3.choose, m_MOST_SHIFT := q3.choose_spec,
    t_MOST_DEPTH_guessers := q4.choose, m_MOST_DEPTH_guessers := q4.choose_spec,
    t_MOST_MANY := q5.choose, m_MOST_MANY := q5.choose_spec }
end My

namespace My
open PySem PySem.Spec PyProof.Rows L2 Pre
section
variable {P : Program} {w : World} {K : PySem.W.Frag} {mg : Str → Option Value} {base : Heap}
/-! ### is_whole, is_between, of whole numbers -/
def sp_is_whole : Sp := fun vs H Q _ => ∃ i : Int, vs = [.int i] ∧ Q (.bl true) H
theorem G_is_whole (T : Top K mg) : FnOk P w K mg base CX0 1 T.f_is_whole T.fd_is_whole ["value"] sp_is_whole := by
  refine T.F_is_whole.ok sc_is_whole (fun vs H Q E h => by obtain ⟨i, rfl, _⟩ := h; rfl) (fun cdv A outer s H vs Q E hr h => ?_)
  obtain ⟨i, rfl, q⟩ := h
  refine ⟨_, PSs.nox (pss_one (ps_ret (pe_and (pe_callB (k_isi K rfl) (by rfl) T.n_isinstance (by decide +kernel) (pa_cons (pv 0) (pa_cons (pe_bltn (v := .ty "int") (by rfl) T.n_int (by decide +kernel) rfl) pa_nil))) (pe_one (pe_not (pe_callB (k_isi K rfl) (by rfl) T.n_isinstance (by decide +kernel) (pa_cons (pv 0) (pa_cons (pe_bltn (v := .ty "bool") (by rfl) T.n_bool (by decide +kernel) rfl) pa_nil)))))))), ?_⟩
  refine ⟨_, rfl, _, _, _, _, true, rfl, .ty _, .base (.int i), kit_ty (by decide +kernel), true, rfl, iteT ?_⟩
  exact ⟨_, rfl, _, _, _, _, false, rfl, .ty _, .base (.int i), kit_ty (by decide +kernel), false, rfl, q⟩
/-- value a whole number, low one, high None or one -/
def sp_is_between : Sp := fun vs H Q _ => ∃ (i lo : Int) (hi : Option Int), vs = [.int i, .int lo, (match hi with | some j => .int j | none => .non)] ∧ Q (.bl (decide (lo ≤ i ∧ ∀ j, hi = some j → i ≤ j))) H
theorem G_is_between (T : Top K mg) : FnOk P w K mg base CX0 2 T.f_is_between T.fd_is_between ["value", "low", "high"] sp_is_between := by
  refine T.F_is_between.ok sc_is_between (fun vs H Q E h => by obtain ⟨i, lo, hi, rfl, _⟩ := h; rfl) (fun cdv A outer s H vs Q E hr h => ?_)
  obtain ⟨i, lo, hi, rfl, q⟩ := h
  refine ⟨_, PSs.nox (pss_one (ps_ret (pe_and (pe_call (G_is_whole T) (hr.mono (by decide)) (by rfl) T.g_is_whole T.F_is_whole.kp T.b_is_whole .nil pass0 (pa_cons (pv 0) pa_nil)) (pe_and (pe_cmpR op_le (pv 1) (pv 0) (nomark _)) (pe_one (pe_or (pe_cmpR op_isN (pv 2) pe_non (nomark _)) (pe_one (pe_cmpR op_le (pv 0) (pv 2) (nomark _))))))))), ?_⟩
  refine ⟨_, rfl, i, rfl, true, rfl, iteT ?_⟩
  refine ⟨_, rfl, _, rfl, _, _, rfl, rfl, _, rfl, ite2 (fun e => ?_) (fun e => ?_)⟩
  · have e1 : lo ≤ i := of_decide_eq_true e
    cases hi with
    | none =>
      refine ⟨_, rfl, rfl, _, rfl, iteT ?_⟩
      rw [decide_eq_true ⟨e1, fun j h => nomatch h⟩] at q
      exact q
    | some j =>
      refine ⟨_, rfl, rfl, _, rfl, iteF ⟨_, rfl, _, rfl, _, _, rfl, rfl, ?_⟩⟩
      have e2 : decide (lo ≤ i ∧ ∀ j', some j = some j' → i ≤ j') = decide (i ≤ j) := by
        by_cases h : i ≤ j
        · rw [decide_eq_true h, decide_eq_true]
          exact ⟨e1, fun j' e => by cases e; exact h⟩
        · rw [decide_eq_false h, decide_eq_false]
          exact fun z => h (z.2 j rfl)
      rw [e2] at q
      exact q
  · have e1 : ¬ lo ≤ i := fun h => e (decide_eq_true h)
    rw [decide_eq_false fun z => e1 z.1] at q
    exact q
end
end My

set_option exponentiation.threshold 100000
namespace My
open PySem PySem.Spec PyProof.Rows L2 Pre
section
variable {P : Program} {w : World} {K : PySem.W.Frag} {mg : Str → Option Value} {base : Heap}
/-! ### the law's draws -/
/-- a generator: its count is at most n -/
def GenAt (H : Hp) (g : Addr) (n : Nat) : Prop := ∃ x y z : Int, H g = some (.lst [.int x, .int y, .int z]) ∧ 0 ≤ z ∧ z ≤ (n : Int)
/-- all but one thing stand as they stood -/
def But (g : Addr) (H H' : Hp) : Prop := ∀ b o, b ≠ g → H b = some o → H' b = some o
theorem But.refl {g : Addr} {H : Hp} : But g H H := fun _ _ _ h => h
theorem But.trans {g : Addr} {H H1 H2 : Hp} (a : But g H H1) (b : But g H1 H2) : But g H H2 := fun c o n h => b c o n (a c o n h)
theorem But.same {g : Addr} {H H1 H2 : Hp} (a : But g H H1) (b : Same H1 H2) : But g H H2 := fun c o n h => b c o (a c o n h)
theorem But.of {g : Addr} {H H1 : Hp} (b : Same H H1) : But g H H1 := fun c o _ h => b c o h
theorem But.upd {g : Addr} {H H1 : Hp} {o : HO} (a : But g H H1) : But g H (upd H1 g o) := fun c u n h => by
  rw [upd_ne n]
  exact a c u n h
theorem But.free {g : Addr} {H H1 : Hp} (a : But g H H1) {p : Addr} (n : p ≠ g) (h : H1 p = none) : H p = none := by
  cases e : H p with
  | none => rfl
  | some o => rw [a p o n e] at h; cases h
/-- what is changed was not there at first -/
theorem But.fresh {g : Addr} {H H1 H2 : Hp} (s : Same H H1) (n : H g = none) (b : But g H1 H2) : Same H H2 := fun c o h => b c o (ne_of_none h n) (s c o h)
theorem GenAt.mono {H : Hp} {g : Addr} {n m : Nat} (h : GenAt H g n) (l : n ≤ m) : GenAt H g m := by
  obtain ⟨x, y, z, a, b, c⟩ := h
  exact ⟨x, y, z, a, b, by omega⟩
theorem GenAt.same {H H' : Hp} {g : Addr} {n : Nat} (h : GenAt H g n) (s : Same H H') : GenAt H' g n := by
  obtain ⟨x, y, z, a, b⟩ := h
  exact ⟨x, y, z, s _ _ a, b⟩
theorem GenAt.ne {H : Hp} {g : Addr} {n : Nat} {p : Addr} (h : GenAt H g n) (np : H p = none) : p ≠ g := by
  obtain ⟨x, y, z, a, _⟩ := h
  exact (ne_of_none a np).symm
theorem small_2900 {b : Int} (h : b ≤ 2 ^ 60) : b < 2 ^ 2900 := by omega
theorem pow_pos' (w : Nat) : (0 : Int) < 2 ^ w := Int.pow_pos (by decide)
theorem pow2_le {k m : Nat} (h : k ≤ m) : (2 : Int) ^ k ≤ 2 ^ m := by
  have e := Nat.pow_le_pow_right (show 0 < 2 by decide) h
  have e2 : ((2 ^ k : Nat) : Int) ≤ ((2 ^ m : Nat) : Int) := Int.ofNat_le.mpr e
  rw [Int.natCast_pow, Int.natCast_pow] at e2
  exact e2
def sp_law_cell (K : PySem.W.Frag) : Sp := fun vs H Q _ => ∃ (a : Addr) (ns : List Int) (i : Nat), vs = [.ref a, .int i] ∧ SqL K H a (ns.map V.int) ∧ ∀ (n : Int) H', Same H H' → Q (.int n) H'
theorem G_law_cell (T : Top K mg) : FnOk P w K mg base CX0 1 T.f_law_cell T.fd_law_cell ["_law_script", "_law_index"] (sp_law_cell K) := by
  refine T.F_law_cell.ok sc_law_cell (fun vs H Q E h => by obtain ⟨a, ns, i, rfl, _⟩ := h; rfl) (fun cdv A outer s H vs Q E hr h => ?_)
  obtain ⟨a, ns, i, rfl, hS, q⟩ := h
  refine ⟨_, PSs.nox (pss_cons (ps_if (pt_cmpR op_lt (pv 1) (pe_callB (k_len K rfl) (by rfl) T.n_len (by decide +kernel) (pa_cons (pv 0) pa_nil)) (nomark _))
    (pss_one (ps_ret (pe_ix (k_ixL K rfl) (pv 0) (pv 1) (fun _ _ => rfl))))
    pss_nil)
  (pss_one (ps_ret (pe_op op_mod (pe_callB (k_sum K rfl rfl) (by rfl) T.n_sum (by decide +kernel) (pa_cons (pe_slice (k_slL K rfl) (pv 0) po_none (po_some pe_int)) pa_nil)) pe_int)))), ?_⟩
  refine ⟨_, rfl, _, rfl, a, _, rfl, .inl hS, _, _, rfl, rfl, _, rfl, ite2 (fun e => ?_) (fun e => ?_)⟩
  · have e1 : (i : Int) < (((ns.map V.int).length : Nat) : Int) := of_decide_eq_true e
    rw [List.length_map] at e1
    have hi : i < ns.length := by omega
    refine ⟨_, rfl, _, rfl, a, _, _, .int ns[i], rfl, rfl, hS, atI_nat (by rw [List.getElem?_map, List.getElem?_eq_getElem hi]; rfl), ?_⟩
    exact q _ _ (Same.refl _)
  · refine ⟨_, rfl, _, rfl, a, _, rfl, hS, fun p np => ?_⟩
    have ec : ∃ ms : List Int, cutV (ns.map V.int) none (some 1) = ms.map V.int := by
      unfold cutV
      exact ⟨(ns.drop (HT.sIx (ns.map V.int).length 0 none)).take (HT.sIx (ns.map V.int).length (ns.map V.int).length (some 1) - HT.sIx (ns.map V.int).length 0 none), by rw [List.map_take, List.map_drop]⟩
    obtain ⟨ms, em⟩ := ec
    refine ⟨p, ms, rfl, .inl (.inl (by rw [upd_same, em])), _, _, rfl, rfl, (by show (0 : Int) < 1000003; decide), ?_⟩
    exact q _ _ (same_upd np)
theorem cmul_mod (x m j : Int) (h0 : 0 < m) (h1 : m ≤ 2 ^ 60) : CMul (x % m) j := by
  have a := Int.emod_nonneg x (show m ≠ 0 by omega)
  have b := Int.emod_lt_of_pos x h0
  exact .inl ⟨by omega, by omega⟩
def sp_law_hash : Sp := fun vs H Q _ => ∃ i j : Int, vs = [.int i, .int j] ∧ 0 ≤ j ∧ j < 2 ^ 60 ∧ ∀ n : Int, Q (.int n) H
theorem G_law_hash (T : Top K mg) : FnOk P w K mg base CX0 1 T.f_law_hash T.fd_law_hash ["_law_seed", "_law_index"] sp_law_hash := by
  refine T.F_law_hash.ok sc_law_hash (fun vs H Q E h => by obtain ⟨i, j, rfl, _⟩ := h; rfl) (fun cdv A outer s H vs Q E hr h => ?_)
  obtain ⟨i, j, rfl, h0, h1, q⟩ := h
  refine ⟨_, PSs.nox (pss_cons (ps_set (i := 2) sc_law_hash.nd rfl (by first | exact Or.inl rfl | exact Or.inr rfl) (pe_op op_mod (pe_callTy call_int1 (by rfl) T.n_int (by decide +kernel) (pa_cons (pe_op op_add (pe_op op_add (pe_op op_add (pe_op op_mul (pv 0) pe_int) (pe_op op_mul (pe_op op_mul pe_int (pv 1)) (pv 1))) (pv 1)) pe_int) pa_nil)) pe_int))
  (pss_cons (ps_set (i := 2) sc_law_hash.nd rfl (by first | exact Or.inl rfl | exact Or.inr rfl) (pe_op op_mod (pe_callTy call_int1 (by rfl) T.n_int (by decide +kernel) (pa_cons (pe_op op_add (pe_op op_mul (pv 2) (pv 2)) pe_int) pa_nil)) pe_int))
  (pss_one (ps_ret (pe_op op_mod (pe_callTy call_int1 (by rfl) T.n_int (by decide +kernel) (pa_cons (pe_op op_mul (pv 2) pe_int) pa_nil)) pe_int))))), ?_⟩
  refine ⟨_, rfl, _, _, rfl, rfl, .inr ⟨by decide, by decide⟩, _, rfl, _, _, rfl, rfl, .inl ⟨by decide, by decide⟩, _, rfl, _, _, rfl, rfl, .inr ⟨by omega, by omega⟩, _, _, rfl, rfl, _, rfl, _, _, rfl, rfl, _, _, rfl, rfl,
    .inl ⟨_, rfl, _, _, rfl, rfl, (by show (0 : Int) < _; decide), ?_⟩⟩
  refine ⟨_, rfl, _, rfl, _, _, rfl, rfl, cmul_mod _ _ _ (by decide) (by decide), _, _, rfl, rfl, .inl ⟨_, rfl, _, _, rfl, rfl, (by show (0 : Int) < _; decide), ?_⟩⟩
  refine ⟨_, rfl, _, _, rfl, rfl, .inr ⟨by decide, by decide⟩, .inl ⟨_, rfl, _, _, rfl, rfl, (by show (0 : Int) < _; decide), ?_⟩⟩
  exact q _

def sp_law_generator (K : PySem.W.Frag) : Sp := fun vs H Q _ => ∃ (a : Addr) (ns : List Int) (i : Nat), vs = [.ref a, .int i] ∧ SqL K H a (ns.map V.int) ∧ ∀ H' g, Same H H' → H g = none → GenAt H' g (1000 * i) → Q (.ref g) H'
theorem G_law_generator (T : Top K mg) : FnOk P w K mg base CX0 2 T.f_law_generator T.fd_law_generator ["_law_script", "_law_index"] (sp_law_generator K) := by
  refine T.F_law_generator.ok sc_law_generator (fun vs H Q E h => by obtain ⟨a, ns, i, rfl, _⟩ := h; rfl) (fun cdv A outer s H vs Q E hr h => ?_)
  obtain ⟨a, ns, i, rfl, hS, q⟩ := h
  refine ⟨_, PSs.nox (pss_cons (ps_set (i := 2) sc_law_generator.nd rfl (by first | exact Or.inl rfl | exact Or.inr rfl) (pe_call (G_law_cell T) (hr.mono (by decide)) (by rfl) T.g_law_cell T.F_law_cell.kp T.b_law_cell .nil pass0 (pa_cons (pv 0) (pa_cons (pv 1) pa_nil))))
  (pss_one (ps_ret (pe_lst (pa_cons (pe_op op_mod (pe_callTy call_int1 (by rfl) T.n_int (by decide +kernel) (pa_cons (pe_callB (call_max2 rfl) (by rfl) T.n_max (by decide +kernel) (pa_cons (pe_op op_sub (pv 2) (pe_op op_powW pe_int pe_int)) (pa_cons pe_int pa_nil))) pa_nil)) (pe_op op_powW (pe_op op_powW pe_int pe_int) pe_int)) (pa_cons (pe_op op_mod (pe_callTy call_int1 (by rfl) T.n_int (by decide +kernel) (pa_cons (pv 2) pa_nil)) pe_int) (pa_cons (pe_op op_mul pe_int (pv 1)) pa_nil))))))), ?_⟩
  refine ⟨_, rfl, _, rfl, a, ns, i, rfl, hS, fun n H1 s1 => ?_⟩
  refine ⟨_, rfl, _, _, rfl, rfl, ⟨by decide, by decide +kernel⟩, _, _, rfl, rfl, _, _, rfl, .inl ⟨_, rfl, _, _, rfl, rfl, ⟨by decide, by decide +kernel⟩, _, _, rfl, rfl, ⟨by decide, by decide +kernel⟩, _, _, rfl, rfl, (by show (0 : Int) < _; decide +kernel), ?_⟩⟩
  refine ⟨_, rfl, .inl ⟨_, rfl, _, _, rfl, rfl, (by show (0 : Int) < _; decide), ?_⟩⟩
  refine ⟨_, rfl, _, _, rfl, rfl, .inl ⟨by decide, by decide⟩, (show 3 ≤ sizeLine by decide), fun g ng => ?_⟩
  exact q _ g (s1.trans (same_upd ng)) (s1.free ng) ⟨_, _, _, upd_same, by omega, by omega⟩
def sp_law_random : Sp := fun vs H Q _ => ∃ (g : Addr) (b : Int) (n : Nat), vs = [.ref g, .int b] ∧ GenAt H g n ∧ n ≤ 10 ^ 12 ∧ 0 < b ∧ b < 2 ^ 2900 ∧ ∀ (d : Int) H', 0 ≤ d → d < b → GenAt H' g (n + 100) → But g H H' → Q (.int d) H'
theorem G_law_random (T : Top K mg) : FnOk P w K mg base CX0 2 T.f_law_random T.fd_law_random ["_law_generator_here", "_law_bound"] sp_law_random := by
  refine T.F_law_random.ok sc_law_random (fun vs H Q E h => by obtain ⟨g, b, n, rfl, _⟩ := h; rfl) (fun cdv A outer s H vs Q E hr h => ?_)
  obtain ⟨g, b, n, rfl, ⟨x, y, z, hg, z0, z1⟩, hn, b0, b1, q⟩ := h
  refine ⟨_, PSs.nox (pss_cons (ps_if (pt_cmpR op_gt (pe_ix (k_ixL K rfl) (pv 0) pe_int (fun _ _ => rfl)) pe_int (nomark _))
    (pss_cons (ps_set (i := 2) sc_law_random.nd rfl (by first | exact Or.inl rfl | exact Or.inr rfl) (pe_op op_mod (pe_callTy call_int1 (by rfl) T.n_int (by decide +kernel) (pa_cons (pe_ix (k_ixL K rfl) (pv 0) pe_int (fun _ _ => rfl)) pa_nil)) (pv 1)))
  (pss_cons (ps_asg (pe_op op_fdivW (pe_ix (k_ixL K rfl) (pv 0) pe_int (fun _ _ => rfl)) (pv 1)) (pg_sub (pv 0) pe_int set_list))
  (pss_one (ps_ret (pv 2)))))
    pss_nil)
  (pss_cons (ps_set (i := 2) sc_law_random.nd rfl (by first | exact Or.inl rfl | exact Or.inr rfl) pe_int)
  (pss_cons (ps_for PassesOwn.never rfl (pi_range1 (by rfl) T.n_range (pa_cons (pe_op op_add pe_int (pe_op op_fdivW (pe_bits (pv 1)) pe_int)) pa_nil)) (pg_name (i := 3) sc_law_random.nd rfl (by first | exact Or.inl rfl | exact Or.inr rfl))
    (pss_cons (ps_asg (pe_op op_add (pe_ix (k_ixL K rfl) (pv 0) pe_int (fun _ _ => rfl)) pe_int) (pg_sub (pv 0) pe_int set_list))
  (pss_one (ps_set (i := 2) sc_law_random.nd rfl (by first | exact Or.inl rfl | exact Or.inr rfl) (pe_op op_add (pe_op op_mul (pv 2) pe_int) (pe_call (G_law_hash T) (hr.mono (by decide)) (by rfl) T.g_law_hash T.F_law_hash.kp T.b_law_hash .nil pass0 (pa_cons (pe_ix (k_ixL K rfl) (pv 0) pe_int (fun _ _ => rfl)) (pa_cons (pe_ix (k_ixL K rfl) (pv 0) pe_int (fun _ _ => rfl)) pa_nil))))))))
  (pss_one (ps_ret (pe_op op_mod (pe_callTy call_int1 (by rfl) T.n_int (by decide +kernel) (pa_cons (pv 2) pa_nil)) (pv 1))))))), ?_⟩
  have a0 : ∀ x y z : Int, atI [V.int x, .int y, .int z] 0 = some (.int x) := fun _ _ _ => rfl
  have a1 : ∀ x y z : Int, atI [V.int x, .int y, .int z] 1 = some (.int y) := fun _ _ _ => rfl
  have a2 : ∀ x y z : Int, atI [V.int x, .int y, .int z] 2 = some (.int z) := fun _ _ _ => rfl
  have hS : SqL K H g [.int x, .int y, .int z] := .inl (.inl hg)
  have nb : b.natAbs < 2 ^ 2900 := by
    have e : ((b.natAbs : Nat) : Int) < ((2 ^ 2900 : Nat) : Int) := by
      rw [Int.natCast_pow]
      omega
    exact Int.ofNat_lt.mp e
  refine ⟨_, rfl, g, _, 0, _, rfl, rfl, hS, a0 x y z, _, _, rfl, rfl, _, rfl, ite2 (fun e => ?_) (fun e => ?_)⟩
  · refine ⟨_, rfl, g, _, 0, _, rfl, rfl, hS, a0 x y z, .inl ⟨_, rfl, _, rfl, _, _, rfl, rfl, b0, ?_⟩⟩
    refine ⟨_, rfl, g, _, 0, _, rfl, rfl, hS, a0 x y z, _, rfl, _, _, rfl, rfl, wide_div b0 nb (by decide) (by decide), _, rfl, g, _, 0, 0, rfl, rfl, hg, rfl, _, rfl, ?_⟩
    exact q _ _ (Int.emod_nonneg _ (by omega)) (Int.emod_lt_of_pos _ b0) ⟨_, _, _, upd_same, z0, by omega⟩ (But.upd But.refl)
  · have hb : Builtin.Int.intBits b ≤ 2900 := PyProof.Rows.intBits_le nb
    have hq0 : (0 : Int) ≤ ((Builtin.Int.intBits b : Nat) : Int) / 30 := Int.ediv_nonneg (Int.natCast_nonneg _) (by decide)
    have hq1 : ((Builtin.Int.intBits b : Nat) : Int) / 30 ≤ 97 := by omega
    refine ⟨_, rfl, _, rfl, _, _, rfl, rfl, ⟨by decide, by decide +kernel⟩, _, _, rfl, rfl, _, rfl, by omega, by omega, ?_⟩
    refine for_range (lo := 0) (n := (1 + ((Builtin.Int.intBits b : Nat) : Int) / 30).toNat) (fun i σ H1 => ∃ (d z' : Int) (v : Option V), σ = [some (.ref g), some (.int b), some (.int d), v] ∧ H1 g = some (.lst [.int x, .int y, .int z']) ∧ 0 ≤ z' ∧ z' ≤ (n : Int) + (i : Int) ∧ But g H H1)
      ⟨0, z, none, rfl, hg, z0, by omega, But.refl⟩ ?_ ?_
    · rintro i σ H1 hi ⟨d, z', v, rfl, hg1, y0, y1, b1⟩
      have hS1 : SqL K H1 g [.int x, .int y, .int z'] := .inl (.inl hg1)
      refine ⟨_, rfl, g, _, 2, _, rfl, rfl, hS1, a2 x y z', _, _, rfl, rfl, _, rfl, g, _, 2, 2, rfl, rfl, hg1, rfl, ?_⟩
      have hS2 : SqL K (upd H1 g (.lst [.int x, .int y, .int (z' + 1)])) g [.int x, .int y, .int (z' + 1)] := .inl (.inl upd_same)
      refine ⟨_, rfl, _, _, rfl, rfl, .inr ⟨by decide, by decide⟩, _, rfl, g, _, 1, _, rfl, rfl, hS2, a1 _ _ _, _, rfl, g, _, 2, _, rfl, rfl, hS2, a2 _ _ _, _, _, rfl, by omega, by omega, fun r => ?_⟩
      exact ⟨_, _, rfl, rfl, _, z' + 1, _, rfl, upd_same, by omega, by omega, But.upd b1⟩
    · rintro σ H1 ⟨d, z', v, rfl, hg1, y0, y1, b1⟩
      refine ⟨_, rfl, .inl ⟨_, rfl, _, rfl, _, _, rfl, rfl, b0, ?_⟩⟩
      exact q _ _ (Int.emod_nonneg _ (by omega)) (Int.emod_lt_of_pos _ b0) ⟨_, _, _, hg1, y0, by omega⟩ b1
end
end My

namespace My
theorem getD_of {l : List Int} {i : Nat} (h : i < l.length) : l.getD i 0 = l[i] := by
  rw [List.getD_eq_getElem?_getD, List.getElem?_eq_getElem h]
  rfl
/-! ### guesses, rests, in plain terms -/
def dot : List Int → List Int → Int
  | w :: ws, b :: bs => w * b + dot ws bs
  | _, _ => 0
theorem dot_nil (ws : List Int) : dot ws [] = 0 := by cases ws <;> rfl
theorem dot_take : ∀ (i : Nat) (ws bs : List Int), i < ws.length → i < bs.length → dot (ws.take (i + 1)) bs = dot (ws.take i) bs + ws.getD i 0 * bs.getD i 0
  | 0, w :: ws, b :: bs, _, _ => by simp [dot]
  | i + 1, w :: ws, b :: bs, h1, h2 => by
    have ih := dot_take i ws bs (by simpa using h1) (by simpa using h2)
    show w * b + dot (ws.take (i + 1)) bs = w * b + dot (ws.take i) bs + ws.getD i 0 * bs.getD i 0
    rw [ih]
    omega
  | _, [], _, h, _ => by simp at h
  | _, _ :: _, [], _, h => by simp at h
/-- only as many items as there are weights count -/
theorem dot_long : ∀ (ws bs cs : List Int), ws.length ≤ bs.length → dot ws (bs ++ cs) = dot ws bs
  | [], _, _, _ => rfl
  | w :: ws, b :: bs, cs, h => by
    show w * b + dot ws (bs ++ cs) = w * b + dot ws bs
    rw [dot_long ws bs cs (by simpa using h)]
  | _ :: _, [], _, h => by simp at h
def guessF (ws : List Int) (sh : Nat) (pre : List Int) : Int := dot ws pre.reverse / 2 ^ sh
theorem guess_end (ws : List Int) (sh : Nat) (pre : List Int) (k : Nat) (h : k + ws.length ≤ pre.length) : guessF ws sh (pre.drop k) = guessF ws sh pre := by
  unfold guessF
  have e : pre.reverse = (pre.drop k).reverse ++ (pre.take k).reverse := by rw [← List.reverse_append, List.take_append_drop]
  rw [e, dot_long]
  rw [List.length_reverse, List.length_drop]
  omega
/-- the rest at a place -/
def restAt (ws : List Int) (sh : Nat) (row : List Int) (p : Nat) : Int := row.getD p 0 - (if p < ws.length then 0 else guessF ws sh (row.take p))
def toldR (ws : List Int) (sh : Nat) (row : List Int) : List Int := (List.range row.length).map (restAt ws sh row)
theorem toldR_len (ws : List Int) (sh : Nat) (row : List Int) : (toldR ws sh row).length = row.length := by
  unfold toldR
  rw [List.length_map, List.length_range]
theorem toldR_firsts (ws : List Int) (sh : Nat) (row : List Int) (k : Nat) (hk : k ≤ ws.length) : (toldR ws sh row).take k = row.take k := by
  apply List.ext_getElem?
  intro i
  rw [List.getElem?_take, List.getElem?_take]
  by_cases h : i < k
  · rw [if_pos h, if_pos h]
    unfold toldR
    rw [List.getElem?_map]
    by_cases h2 : i < row.length
    · rw [List.getElem?_range h2]
      show some (row.getD i 0 - if i < ws.length then 0 else _) = row[i]?
      rw [if_pos (by omega), Int.sub_zero, List.getElem?_eq_getElem h2, getD_of h2]
    · rw [List.getElem?_eq_none (by rw [List.length_range]; omega), List.getElem?_eq_none (by omega)]
      rfl
  · rw [if_neg h, if_neg h]
theorem toldR_next (ws : List Int) (sh : Nat) (row : List Int) (p : Nat) (h1 : ws.length ≤ p) (h2 : p < row.length) : (toldR ws sh row).take (p + 1) = (toldR ws sh row).take p ++ [row.getD p 0 - guessF ws sh (row.take p)] := by
  rw [List.take_add_one]
  congr 1
  unfold toldR
  rw [List.getElem?_map, List.getElem?_range h2]
  show [restAt ws sh row p] = _
  unfold restAt
  rw [if_neg (by omega)]
def wrapI (n : Int) (d : Nat) : Int := (n + 2 ^ (d - 1)) % (2 * 2 ^ (d - 1)) - 2 ^ (d - 1)
def restsF (ws : List Int) (sh : Nat) (d : Nat) (row : List Int) : List Int := (toldR ws sh row).map fun n => wrapI n d
def Samples (d : Nat) (row : List Int) : Prop := ∀ n ∈ row, -(2 ^ (d - 1)) ≤ n ∧ n ≤ 2 ^ (d - 1) - 1
def Weights (ws : List Int) : Prop := ws.length ≤ 8 ∧ ∀ n ∈ ws, -32768 ≤ n ∧ n ≤ 32768
end My

namespace My
open PySem PySem.Spec PyProof.Rows L2 Pre
/-- an instance: isinstance of its class -/
theorem tyx_ins {K : PySem.W.Frag} {H : Hp} {a C dx : Addr} {fs : List (Str × V)} (c : C8.InsC K C) (h : H a = some (.ins C dx fs)) : TyX K H (.ref a) (.ref C) := .base (.ins h c.cl c.ha c.hn c.htk c.hm)
theorem rd_list {K : PySem.W.Frag} {H : Hp} {a : Addr} {xs : List V} (h : Rd H a (.lst xs)) : TyX K H (.ref a) (.type "list") := by
  rcases h with h | ⟨o, h⟩
  · exact .base (.lst h)
  · exact .base (.frz h)
theorem Rd.same {H H' : Hp} {a : Addr} {u : HO} (h : Rd H a u) (s : Same H H') : Rd H' a u := by
  rcases h with h | ⟨o, h⟩
  · exact .inl (s _ _ h)
  · exact .inr ⟨o, s _ _ h⟩
theorem small_row {ns : List Int} (h : ns.length ≤ 1000) : (ns.map V.int).length < sizeLine := by
  rw [List.length_map]
  exact small1000 h
section
variable {P : Program} {w : World} {K : PySem.W.Frag} {mg : Str → Option Value} {base : Heap}
/-! ### checks -/
def sp_check_depth : Sp := fun vs H Q _ => ∃ d m : Int, vs = [.int d, .int m] ∧ 1 ≤ d ∧ d ≤ m ∧ Q .non H
theorem G_check_depth (T : Top K mg) : FnOk P w K mg base CX0 3 T.f_check_depth T.fd_check_depth ["depth", "most"] sp_check_depth := by
  refine T.F_check_depth.ok sc_check_depth (fun vs H Q E h => by obtain ⟨d, m, rfl, _⟩ := h; rfl) (fun cdv A outer s H vs Q E hr h => ?_)
  obtain ⟨d, m, rfl, h0, h1, q⟩ := h
  refine ⟨_, PSs.nox (pss_one (ps_if (pt_not (pt_val (pe_call (G_is_between T) (hr.mono (by decide)) (by rfl) T.g_is_between T.F_is_between.kp T.b_is_between .nil pass0 (pa_cons (pv 0) (pa_cons pe_int (pa_cons (pv 1) pa_nil))))))
    (pss_one ps_never)
    pss_nil)), ?_⟩
  refine ⟨_, rfl, _, rfl, d, 1, some m, rfl, _, rfl, ?_⟩
  rw [decide_eq_true ⟨h0, fun j h => by cases h; exact h1⟩]
  exact iteF q
def sp_is_sample : Sp := fun vs H Q _ => ∃ (n : Int) (d : Nat), vs = [.int n, .int d] ∧ 1 ≤ d ∧ d ≤ 1000 ∧ Q (.bl (decide (-(2 ^ (d - 1)) ≤ n ∧ n ≤ 2 ^ (d - 1) - 1))) H
theorem pred_toNat {d : Nat} (h : 1 ≤ d) : ((d : Int) - 1).toNat = d - 1 := by omega
theorem G_is_sample (T : Top K mg) : FnOk P w K mg base CX0 3 T.f_is_sample T.fd_is_sample ["value", "depth"] sp_is_sample := by
  refine T.F_is_sample.ok sc_is_sample (fun vs H Q E h => by obtain ⟨n, d, rfl, _⟩ := h; rfl) (fun cdv A outer s H vs Q E hr h => ?_)
  obtain ⟨n, d, rfl, h0, h1, q⟩ := h
  refine ⟨_, PSs.nox (pss_one (ps_ret (pe_call (G_is_between T) (hr.mono (by decide)) (by rfl) T.g_is_between T.F_is_between.kp T.b_is_between .nil pass0 (pa_cons (pv 0) (pa_cons (pe_op op_sub pe_int (pe_op op_shl pe_int (pe_op op_sub (pv 1) pe_int))) (pa_cons (pe_op op_sub (pe_op op_shl pe_int (pe_op op_sub (pv 1) pe_int)) pe_int) pa_nil)))))), ?_⟩
  refine ⟨_, rfl, _, rfl, _, _, rfl, rfl, _, _, rfl, rfl, ⟨by omega, by omega, by decide⟩, _, _, rfl, rfl, _, rfl, _, _, rfl, rfl, _, _, rfl, rfl, ⟨by omega, by omega, by decide⟩, _, _, rfl, rfl, n, 0 - 1 * 2 ^ ((d : Int) - 1).toNat, some (1 * 2 ^ ((d : Int) - 1).toNat - 1), rfl, ?_⟩
  have e : decide (0 - 1 * 2 ^ ((d : Int) - 1).toNat ≤ n ∧ ∀ j, some (1 * 2 ^ ((d : Int) - 1).toNat - 1 : Int) = some j → n ≤ j) = decide (-(2 ^ (d - 1)) ≤ n ∧ n ≤ 2 ^ (d - 1) - 1) := by
    rw [pred_toNat h0, Int.one_mul]
    refine decide_eq_decide.mpr ⟨fun ⟨a, b⟩ => ⟨by omega, b _ rfl⟩, fun ⟨a, b⟩ => ⟨by omega, fun j h => by cases h; exact b⟩⟩
  rw [e]
  exact q
/-- a list of samples of a depth -/
def sp_are_samples (K : PySem.W.Frag) : Sp := fun vs H Q _ => ∃ (a : Addr) (ns : List Int) (d : Nat), vs = [.ref a, .int d] ∧ Rd H a (.lst (ns.map V.int)) ∧ Samples d ns ∧ ns.length ≤ 1000 ∧ 1 ≤ d ∧ d ≤ 1000 ∧ ∀ H', Same H H' → Q (.bl true) H'
theorem fm_none {α β : Type} (l : List α) : (l.map fun _ => (none : Option β)).filterMap id = [] := by
  induction l with
  | nil => rfl
  | cons n r ih => simp
theorem G_are_samples (T : Top K mg) : FnOk P w K mg base CX0 4 T.f_are_samples T.fd_are_samples ["value", "depth"] (sp_are_samples K) := by
  refine T.F_are_samples.ok sc_are_samples (fun vs H Q E h => by obtain ⟨a, ns, d, rfl, _⟩ := h; rfl) (fun cdv A outer s H vs Q E hr h => ?_)
  obtain ⟨a, ns, d, rfl, hA, hs, hl, h0, h1, q⟩ := h
  refine ⟨_, PSs.nox (pss_one (ps_ret (pe_and (pe_callB (k_isi K rfl) (by rfl) T.n_isinstance (by decide +kernel) (pa_cons (pv 0) (pa_cons (pe_bltn (v := .ty "list") (by rfl) T.n_list (by decide +kernel) rfl) pa_nil))) (pe_one (pe_cmpR (k_eqD K rfl hr.units) (pe_lc (own := [("item", 2)]) (g := gName 2) (by rfl) sc_are_samples.nd (k_piL K rfl (pv 0)) (blkOk_by (own := [("item", 2)]) (N := N_are_samples) (sc := defScope s_are_samples) (by decide +kernel)) (fun _ _ _ _ _ => (pg_name (i := 2) sc_are_samples.nd rfl (by first | exact Or.inl rfl | exact Or.inr rfl))) (fun _ _ _ _ _ => (pts_one (pt_not (pt_val (pe_call (G_is_sample T) (hr.mono (by decide)) (by rfl) T.g_is_sample T.F_is_sample.kp T.b_is_sample .nil pass0 (pa_cons (pv 2) (pa_cons (pv 1) pa_nil))))))) (fun _ _ _ _ _ => (pv 2))) (pe_lst pa_nil) (nomark _)))))), ?_⟩
  have hS : SqL K H a (ns.map V.int) := .inl hA
  refine ⟨_, rfl, _, _, _, _, true, rfl, .ty _, rd_list hA, kit_ty (by decide +kernel), true, rfl, iteT ?_⟩
  refine ⟨_, rfl, a, rfl, ⟨_, hS⟩, fun D nD => ?_⟩
  refine lc_selL (K := K) (xs := ns.map V.int) (ns.map fun _ => none) nD hS (by rw [List.length_map, List.length_map]) (small_row hl) (fun x => rfl) ?_ ?_
  · intro i x o H' hx ho s Qt qt
    obtain ⟨n, hn, rfl⟩ := int_at hx
    rw [List.getElem?_map, hn] at ho
    cases ho
    refine ⟨_, rfl, _, rfl, n, d, rfl, h0, h1, _, rfl, ?_⟩
    rw [decide_eq_true (hs n (List.mem_of_getElem? hn))]
    exact iteF (qt _ (Same.refl _))
  · intro H' s hD
    rw [fm_none] at hD
    refine ⟨Nat.zero_le _, fun p np => ?_⟩
    refine eq_lst (ns := []) (.inl (.inl (same_upd np _ _ hD))) (.inl (.inl upd_same)) ?_
    exact q _ (s.trans (same_upd np))
def sp_wrapped : Sp := fun vs H Q _ => ∃ (n : Int) (d : Nat), vs = [.int n, .int d] ∧ 1 ≤ d ∧ d ≤ 64 ∧ Q (.int (wrapI n d)) H
theorem G_wrapped (T : Top K mg) : FnOk P w K mg base CX0 1 T.f_wrapped T.fd_wrapped ["number", "depth"] sp_wrapped := by
  refine T.F_wrapped.ok sc_wrapped (fun vs H Q E h => by obtain ⟨n, d, rfl, _⟩ := h; rfl) (fun cdv A outer s H vs Q E hr h => ?_)
  obtain ⟨n, d, rfl, h0, h1, q⟩ := h
  refine ⟨_, PSs.nox (pss_cons (ps_set (i := 2) sc_wrapped.nd rfl (by first | exact Or.inl rfl | exact Or.inr rfl) (pe_op op_shl pe_int (pe_op op_sub (pv 1) pe_int)))
  (pss_one (ps_ret (pe_op op_sub (pe_op op_mod (pe_op op_add (pv 0) (pv 2)) (pe_op op_mul pe_int (pv 2))) (pv 2))))), ?_⟩
  refine ⟨_, rfl, _, _, rfl, rfl, _, _, rfl, rfl, ⟨by omega, by omega, by decide⟩, ?_⟩
  have hp := pow_pos' (d - 1)
  have e : (1 : Int) * 2 ^ ((d : Int) - 1).toNat = 2 ^ (d - 1) := by rw [pred_toNat h0, Int.one_mul]
  dsimp only
  rw [e]
  refine ⟨_, rfl, _, rfl, _, _, rfl, rfl, _, rfl, _, _, rfl, rfl, .inl ⟨by decide, by decide⟩, _, _, rfl, rfl, (by show (0 : Int) < _; omega), _, rfl, _, _, rfl, rfl, ?_⟩
  exact q
/-! ### guessers -/
/-- a guesser of the weights ws and the shift sh -/
def GuesserAt (C : Addr) (H : Hp) (a : Addr) (ws : List Int) (sh : Nat) : Prop := Weights ws ∧ sh ≤ 15 ∧ ∃ dx p, H a = some (.ins C dx [("parts", .ref p), ("down", .int sh)]) ∧ H p = some (.lst (ws.map V.int))
theorem GuesserAt.same {C : Addr} {H H' : Hp} {a : Addr} {ws : List Int} {sh : Nat} (h : GuesserAt C H a ws sh) (s : Same H H') : GuesserAt C H' a ws sh := by
  obtain ⟨h1, h2, dx, p, h3, h4⟩ := h
  exact ⟨h1, h2, dx, p, s _ _ h3, s _ _ h4⟩
def sp_Guesser___init__ (C : Addr) (K : PySem.W.Frag) : Sp := fun vs H Q _ => ∃ (x a dx : Addr) (ws : List Int) (sh : Nat), vs = [.ref x, .ref a, .int sh] ∧ H x = some (.ins C dx []) ∧ Rd H a (.lst (ws.map V.int)) ∧ Weights ws ∧ sh ≤ 15 ∧
  ∀ H', (∀ b o, b ≠ x → H b = some o → H' b = some o) → GuesserAt C H' x ws sh → Q .non H'
theorem G_Guesser___init__ (T : Top K mg) : FnOk P w K mg base CX0 3 T.f_Guesser___init__ T.fd_Guesser___init__ ["self", "weights", "shift"] (sp_Guesser___init__ T.C_Guesser K) := by
  refine T.F_Guesser___init__.ok sc_Guesser___init__ (fun vs H Q E h => by obtain ⟨x, a, dx, ws, sh, rfl, _⟩ := h; rfl) (fun cdv A outer s H vs Q E hr h => ?_)
  obtain ⟨x, a, dx, ws, sh, rfl, hx, hA, hW, hsh, q⟩ := h
  refine ⟨_, PSs.nox (pss_cons (ps_if (PW.pt (pw_or (pt_not (pt_val (pe_callB (k_isi K rfl) (by rfl) T.n_isinstance (by decide +kernel) (pa_cons (pv 1) (pa_cons (pe_bltn (v := .ty "list") (by rfl) T.n_list (by decide +kernel) rfl) pa_nil))))) (pw_or1 (pt_cmpR op_gt (pe_callB (k_len K rfl) (by rfl) T.n_len (by decide +kernel) (pa_cons (pv 1) pa_nil)) (pe_glob (v := .int 8) rfl T.m_MOST_ORDER ⟨_, rfl⟩) (nomark _)))))
    (pss_one ps_never)
    pss_nil)
  (pss_cons (ps_for PassesOwn.never rfl (k_piL K rfl (pv 1)) (pg_name (i := 3) sc_Guesser___init__.nd rfl (by first | exact Or.inl rfl | exact Or.inr rfl))
    (pss_one (ps_if (pt_not (pt_val (pe_call (G_is_between T) (hr.mono (by decide)) (by rfl) T.g_is_between T.F_is_between.kp T.b_is_between .nil pass0 (pa_cons (pv 3) (pa_cons (pe_un un_neg (pe_glob (v := .int 32768) rfl T.m_MOST_WEIGHT ⟨_, rfl⟩)) (pa_cons (pe_glob (v := .int 32768) rfl T.m_MOST_WEIGHT ⟨_, rfl⟩) pa_nil))))))
    (pss_one ps_never)
    pss_nil)))
  (pss_cons (ps_if (pt_not (pt_val (pe_call (G_is_between T) (hr.mono (by decide)) (by rfl) T.g_is_between T.F_is_between.kp T.b_is_between .nil pass0 (pa_cons (pv 2) (pa_cons pe_int (pa_cons (pe_glob (v := .int 15) rfl T.m_MOST_SHIFT ⟨_, rfl⟩) pa_nil))))))
    (pss_one ps_never)
    pss_nil)
  (pss_cons (ps_fld (pv 0) (pe_callTy (k_listOf K rfl) (by rfl) T.n_list (by decide +kernel) (pa_cons (pv 1) pa_nil)) rfl)
  (pss_one (ps_fld (pv 0) (pv 2) rfl)))))), ?_⟩
  have hS : SqL K H a (ws.map V.int) := .inl hA
  refine ⟨_, rfl, _, _, _, _, true, rfl, .ty _, rd_list hA, kit_ty (by decide +kernel), true, rfl, iteF ?_⟩
  refine ⟨_, rfl, a, _, rfl, .inl hS, _, _, rfl, rfl, _, rfl, ?_⟩
  rw [List.length_map, decide_eq_false (show ¬ (ws.length : Int) > 8 by have := hW.1; omega)]
  refine iteF ?_
  -- for weight in weights
  refine ⟨_, rfl, a, rfl, ⟨_, hS⟩, for_list (K := K) (a := a) (xs := ws.map V.int) (fun i σ H1 => ∃ v, σ = [some (.ref x), some (.ref a), some (.int sh), v] ∧ H1 = H) ⟨none, rfl, rfl⟩ (fun i σ H1 _ ⟨_, _, e⟩ => by rw [e]; exact hS) ?_ ?_⟩
  · rintro i v σ H1 hv ⟨v3, rfl, rfl⟩
    obtain ⟨n, hn, rfl⟩ := int_at hv
    have hb := hW.2 n (List.mem_of_getElem? hn)
    refine ⟨_, rfl, _, rfl, n, -32768, some 32768, rfl, _, rfl, ?_⟩
    rw [decide_eq_true ⟨hb.1, fun j h => by cases h; exact hb.2⟩]
    exact iteF ⟨_, rfl, rfl⟩
  · rintro σ H1 ⟨v3, rfl, rfl⟩
    refine ⟨_, rfl, (sh : Int), 0, some 15, rfl, _, rfl, ?_⟩
    rw [decide_eq_true ⟨by omega, fun j h => by cases h; omega⟩]
    refine iteF ?_
    -- self.parts = list(weights)
    refine ⟨_, rfl, a, _, rfl, .inl hS, fun p np => ?_⟩
    have npx : p ≠ x := (ne_of_none hx np).symm
    have hx1 : (upd H1 p (.lst (ws.map V.int))) x = some (.ins T.C_Guesser dx []) := same_upd np _ _ hx
    refine ⟨_, rfl, x, T.C_Guesser, dx, [], rfl, hx1, T.cl_Guesser, T.na_Guesser_parts, by decide, ?_⟩
    refine ⟨_, rfl, _, rfl, x, T.C_Guesser, dx, _, rfl, upd_same, T.cl_Guesser, T.na_Guesser_down, (by show 1 < 1000; decide), ?_⟩
    refine q _ (fun b o nb hb => ?_) ⟨hW, hsh, dx, p, ?_, ?_⟩
    · rw [upd_ne nb, upd_ne nb]
      exact same_upd np _ _ hb
    · rw [upd_same]
      rfl
    · rw [upd_ne npx, upd_ne npx, upd_same]
def sp_check_guesser (C : Addr) : Sp := fun vs H Q _ => ∃ (a : Addr) (ws : List Int) (sh : Nat), vs = [.ref a] ∧ GuesserAt C H a ws sh ∧ Q .non H
theorem G_check_guesser (T : Top K mg) : FnOk P w K mg base CX0 1 T.f_check_guesser T.fd_check_guesser ["value"] (sp_check_guesser T.C_Guesser) := by
  refine T.F_check_guesser.ok sc_check_guesser (fun vs H Q E h => by obtain ⟨a, ws, sh, rfl, _⟩ := h; rfl) (fun cdv A outer s H vs Q E hr h => ?_)
  obtain ⟨a, ws, sh, rfl, hG, q⟩ := h
  refine ⟨_, PSs.nox (pss_one (ps_if (pt_not (pt_val (pe_callB (k_isi K rfl) (by rfl) T.n_isinstance (by decide +kernel) (pa_cons (pv 0) (pa_cons (pe_glob (v := .ref T.C_Guesser) rfl T.gc_Guesser rfl) pa_nil)))))
    (pss_one ps_never)
    pss_nil)), ?_⟩
  obtain ⟨_, _, dx, p, ha, _⟩ := hG
  refine ⟨_, rfl, _, _, _, _, true, rfl, .own _, tyx_ins T.ic_Guesser ha, T.ic_Guesser.me, true, rfl, iteF ?_⟩
  exact q
def sp_check_row (K : PySem.W.Frag) : Sp := fun vs H Q _ => ∃ (a : Addr) (ns : List Int) (d : Nat), vs = [.int d, .ref a] ∧ Rd H a (.lst (ns.map V.int)) ∧ Samples d ns ∧ ns.length ≤ 1000 ∧ 1 ≤ d ∧ d ≤ 1000 ∧ ∀ H', Same H H' → Q .non H'
theorem G_check_row (T : Top K mg) : FnOk P w K mg base CX0 5 T.f_check_row T.fd_check_row ["depth", "value"] (sp_check_row K) := by
  refine T.F_check_row.ok sc_check_row (fun vs H Q E h => by obtain ⟨a, ns, d, rfl, _⟩ := h; rfl) (fun cdv A outer s H vs Q E hr h => ?_)
  obtain ⟨a, ns, d, rfl, hA, hs, hl, h0, h1, q⟩ := h
  refine ⟨_, PSs.nox (pss_one (ps_if (pt_not (pt_val (pe_call (G_are_samples T) (hr.mono (by decide)) (by rfl) T.g_are_samples T.F_are_samples.kp T.b_are_samples .nil pass0 (pa_cons (pv 1) (pa_cons (pv 0) pa_nil)))))
    (pss_one ps_never)
    pss_nil)), ?_⟩
  refine ⟨_, rfl, _, rfl, a, ns, d, rfl, hA, hs, hl, h0, h1, fun H1 s1 => ⟨_, rfl, iteF ?_⟩⟩
  exact q _ s1
theorem cut_get {bs : List Int} {i n : Nat} (h : i < n) (hn : n = bs.length) : (bs.map V.int)[n - 1 - i]? = some (.int (bs.reverse.getD i 0)) := by
  subst hn
  rw [List.getElem?_map, List.getElem?_eq_getElem (show bs.length - 1 - i < bs.length by omega)]
  have h2 : i < bs.reverse.length := by rw [List.length_reverse]; exact h
  rw [getD_of h2, List.getElem_reverse]
  rfl
def sp_sum_before (C : Addr) (K : PySem.W.Frag) : Sp := fun vs H Q _ => ∃ (a b : Addr) (ws : List Int) (sh : Nat) (bs : List Int), vs = [.ref a, .ref b] ∧ GuesserAt C H a ws sh ∧ SqL K H b (bs.map V.int) ∧ ws.length ≤ bs.length ∧ ∀ H', Same H H' → Q (.int (dot ws bs.reverse)) H'
theorem G_sum_before (T : Top K mg) : FnOk P w K mg base CX0 1 T.f_sum_before T.fd_sum_before ["guesser", "before"] (sp_sum_before T.C_Guesser K) := by
  refine T.F_sum_before.ok sc_sum_before (fun vs H Q E h => by obtain ⟨a, b, ws, sh, bs, rfl, _⟩ := h; rfl) (fun cdv A outer s H vs Q E hr h => ?_)
  obtain ⟨a, b, ws, sh, bs, rfl, hG, hB, hl, q⟩ := h
  refine ⟨_, PSs.nox (pss_cons (ps_set (i := 2) sc_sum_before.nd rfl (by first | exact Or.inl rfl | exact Or.inr rfl) pe_int)
  (pss_cons (ps_for PassesOwn.never rfl (k_piE K rfl (by rfl) T.n_enumerate (pa_cons (pe_fld (pv 0) rfl) pa_nil)) (k_pgT K rfl (by rfl) (pgs_cons (pg_name (i := 3) sc_sum_before.nd rfl (by first | exact Or.inl rfl | exact Or.inr rfl)) (pgs_cons (pg_name (i := 4) sc_sum_before.nd rfl (by first | exact Or.inl rfl | exact Or.inr rfl)) pgs_nil)))
    (pss_one (ps_set (i := 2) sc_sum_before.nd rfl (by first | exact Or.inl rfl | exact Or.inr rfl) (pe_op op_add (pv 2) (pe_op op_mul (pv 4) (pe_ix (k_ixL K rfl) (pv 1) (pe_op op_sub (pe_op op_sub (pe_callB (k_len K rfl) (by rfl) T.n_len (by decide +kernel) (pa_cons (pv 1) pa_nil)) pe_int) (pv 3)) (fun _ _ => rfl)))))))
  (pss_one (ps_ret (pv 2))))), ?_⟩
  obtain ⟨hW, _, dx, p, ha, hp⟩ := id hG
  have hP : SqL K H p (ws.map V.int) := .inl (.inl hp)
  refine ⟨_, rfl, a, T.C_Guesser, dx, _, _, rfl, ha, T.cl_Guesser, T.na_Guesser_parts, rfl, p, _, rfl, hP, ?_⟩
  refine for_it (walk_enum (K := K) (a := p) (xs := ws.map V.int)) (fun i σ H1 => ∃ v3 v4, σ = [some (.ref a), some (.ref b), some (.int (dot (ws.take i) bs.reverse)), v3, v4] ∧ Same H H1) ⟨none, none, ?_, Same.refl _⟩ (fun i σ H1 _ ⟨_, _, _, s⟩ => s.seq hP) ?_ ?_
  · show _ = [some (V.ref a), some (V.ref b), some (V.int (dot [] bs.reverse)), none, none]
    rfl
  · rintro i x σ H1 H2 hi ⟨v3, v4, rfl, s1⟩ ⟨t, y, z, rfl, nt, rfl, ey, ez⟩
    cases ey
    obtain ⟨n, hn, rfl⟩ := int_at ez
    rw [List.length_map] at hi
    have s2 : Same H1 (upd H1 t (.tup [.int (i : Nat), .int n])) := same_upd nt
    have hB2 := (s1.trans s2).seq hB
    refine ⟨t, _, rfl, .inl (.inl upd_same), rfl, _, _, rfl, _, _, rfl, rfl, ?_⟩
    have hb := hW.2 n (List.mem_of_getElem? hn)
    have en : n = ws.getD i 0 := by rw [List.getD_eq_getElem?_getD, hn]; rfl
    refine ⟨_, rfl, _, rfl, _, rfl, _, rfl, b, _, rfl, .inl hB2, _, _, rfl, rfl, _, rfl, _, _, rfl, rfl, b, _, _, .int (bs.reverse.getD i 0), rfl, rfl, hB2, at_of (j := bs.length - 1 - i) (by rw [List.length_map]; omega) (cut_get (show i < bs.length by omega) rfl), _, _, rfl, rfl, .inl ⟨by omega, by omega⟩, _, _, rfl, rfl, ?_⟩
    refine ⟨some (.int (i : Nat)), some (.int n), ?_, s1.trans s2⟩
    rw [dot_take i ws bs.reverse hi (by rw [List.length_reverse]; omega), ← en]
    rfl
  · rintro σ H1 ⟨v3, v4, rfl, s1⟩
    rw [List.length_map, List.take_length]
    exact ⟨_, rfl, q _ s1⟩
def sp_guess_behind (C : Addr) (K : PySem.W.Frag) : Sp := fun vs H Q _ => ∃ (a b : Addr) (ws : List Int) (sh : Nat) (bs : List Int), vs = [.ref a, .ref b] ∧ GuesserAt C H a ws sh ∧ SqL K H b (bs.map V.int) ∧ ws.length ≤ bs.length ∧ ∀ H', Same H H' → Q (.int (guessF ws sh bs)) H'
theorem G_guess_behind (T : Top K mg) : FnOk P w K mg base CX0 2 T.f_guess_behind T.fd_guess_behind ["guesser", "before"] (sp_guess_behind T.C_Guesser K) := by
  refine T.F_guess_behind.ok sc_guess_behind (fun vs H Q E h => by obtain ⟨a, b, ws, sh, bs, rfl, _⟩ := h; rfl) (fun cdv A outer s H vs Q E hr h => ?_)
  obtain ⟨a, b, ws, sh, bs, rfl, hG, hB, hl, q⟩ := h
  refine ⟨_, PSs.nox (pss_one (ps_ret (pe_op op_shr (pe_call (G_sum_before T) (hr.mono (by decide)) (by rfl) T.g_sum_before T.F_sum_before.kp T.b_sum_before .nil pass0 (pa_cons (pv 0) (pa_cons (pv 1) pa_nil))) (pe_fld (pv 0) rfl)))), ?_⟩
  refine ⟨_, rfl, _, rfl, a, b, ws, sh, bs, rfl, hG, hB, hl, fun H1 s1 => ?_⟩
  obtain ⟨hW, _, dx, p, ha, hp⟩ := hG.same s1
  refine ⟨_, rfl, a, T.C_Guesser, dx, _, _, rfl, ha, T.cl_Guesser, T.na_Guesser_down, rfl, _, _, rfl, rfl, by omega, ?_⟩
  dsimp only
  rw [Int.toNat_natCast]
  exact q _ s1
theorem cut_mid (xs : List V) (i j : Nat) (h1 : i ≤ j) (h2 : j ≤ xs.length) : cutV xs (some (i : Int)) (some (j : Int)) = (xs.take j).drop i := by
  unfold cutV
  rw [HT.sIx_nat, HT.sIx_nat, Nat.min_eq_left h2, Nat.min_eq_left (Nat.le_trans h1 h2), List.drop_take]
def sp_told_rests (C : Addr) (K : PySem.W.Frag) : Sp := fun vs H Q _ => ∃ (a b : Addr) (ws : List Int) (sh : Nat) (row : List Int), vs = [.ref a, .ref b] ∧ GuesserAt C H a ws sh ∧ SqL K H b (row.map V.int) ∧ row.length ≤ 1000 ∧
  ∀ H' p, Same H H' → H p = none → H' p = some (.lst ((toldR ws sh row).map V.int)) → Q (.ref p) H'
theorem G_told_rests (T : Top K mg) : FnOk P w K mg base CX0 3 T.f_told_rests T.fd_told_rests ["guesser", "row"] (sp_told_rests T.C_Guesser K) := by
  refine T.F_told_rests.ok sc_told_rests (fun vs H Q E h => by obtain ⟨a, b, ws, sh, row, rfl, _⟩ := h; rfl) (fun cdv A outer s H vs Q E hr h => ?_)
  obtain ⟨a, b, ws, sh, row, rfl, hG, hB, hl, q⟩ := h
  refine ⟨_, PSs.nox (pss_cons (ps_set (i := 2) sc_told_rests.nd rfl (by first | exact Or.inl rfl | exact Or.inr rfl) (pe_callB (k_len K rfl) (by rfl) T.n_len (by decide +kernel) (pa_cons (pe_fld (pv 0) rfl) pa_nil)))
  (pss_cons (ps_set (i := 3) sc_told_rests.nd rfl (by first | exact Or.inl rfl | exact Or.inr rfl) (pe_callTy (k_listOf K rfl) (by rfl) T.n_list (by decide +kernel) (pa_cons (pe_slice (k_slL K rfl) (pv 1) po_none (po_some (pv 2))) pa_nil)))
  (pss_cons (ps_for PassesOwn.never rfl (pi_range2 (by rfl) T.n_range (pa_cons (pv 2) (pa_cons (pe_callB (k_len K rfl) (by rfl) T.n_len (by decide +kernel) (pa_cons (pv 1) pa_nil)) pa_nil))) (pg_name (i := 4) sc_told_rests.nd rfl (by first | exact Or.inl rfl | exact Or.inr rfl))
    (pss_one (ps_expr (pe_bm PySem.F.plainAttrs_list PySem.F.slot_list_append PySem.F.type_list_append mt_append (pv 3) (pa_cons (pe_op op_sub (pe_ix (k_ixL K rfl) (pv 1) (pv 4) (fun _ _ => rfl)) (pe_call (G_guess_behind T) (hr.mono (by decide)) (by rfl) T.g_guess_behind T.F_guess_behind.kp T.b_guess_behind .nil pass0 (pa_cons (pv 0) (pa_cons (pe_slice (k_slL K rfl) (pv 1) (po_some (pe_op op_sub (pv 4) (pv 2))) (po_some (pv 4))) pa_nil)))) pa_nil)))))
  (pss_one (ps_ret (pv 3)))))), ?_⟩
  obtain ⟨hW, _, dx, p, ha, hp⟩ := id hG
  have hP : SqL K H p (ws.map V.int) := .inl (.inl hp)
  refine ⟨_, rfl, a, T.C_Guesser, dx, _, _, rfl, ha, T.cl_Guesser, T.na_Guesser_parts, rfl, p, _, rfl, .inl hP, ?_⟩
  rw [List.length_map]
  refine ⟨_, rfl, _, rfl, _, rfl, b, _, rfl, hB, fun c nc => ?_⟩
  rw [cut_take, ← List.map_take]
  obtain ⟨H1, e1, s1, h1⟩ := fresh (.lst ((row.take ws.length).map V.int)) nc
  rw [e1]
  refine ⟨c, _, rfl, .inl (.inl (.inl h1)), fun f nf => ?_⟩
  obtain ⟨H2, e2, s2, h2⟩ := fresh (.lst ((row.take ws.length).map V.int)) nf
  rw [e2]
  have s12 := s1.trans s2
  have hw8 := hW.1
  refine ⟨_, rfl, _, rfl, b, _, rfl, .inl (s12.seq hB), _, _, rfl, ⟨by omega, by omega, by rw [List.length_map]; omega, by rw [List.length_map]; omega⟩, ?_⟩
  rw [List.length_map]
  have nHf : H f = none := s1.free nf
  refine for_range (lo := (ws.length : Int)) (n := ((row.length : Int) - (ws.length : Int)).toNat) (fun i σ H3 => ∃ v4, σ = [some (.ref a), some (.ref b), some (.int ws.length), some (.ref f), v4] ∧ Same H H3 ∧ H3 f = some (.lst (((toldR ws sh row).take (ws.length + i)).map V.int))) ⟨none, rfl, s12, ?_⟩ ?_ ?_
  · rw [h2, Nat.add_zero, toldR_firsts ws sh row ws.length (Nat.le_refl _)]
  · rintro i σ H3 hi ⟨v4, rfl, s3, h3⟩
    have hpl : ws.length + i < row.length := by omega
    have hB3 := s3.seq hB
    have rowAt : atI (row.map V.int) ((ws.length : Int) + (i : Int)) = some (.int (row.getD (ws.length + i) 0)) := by
      refine at_of (j := ws.length + i) (by omega) ?_
      rw [List.getElem?_map, List.getElem?_eq_getElem hpl, getD_of hpl]
      rfl
    refine ⟨_, rfl, .inl ⟨rfl, _, .inl (.inl h3)⟩, _, rfl, _, rfl, b, _, _, _, rfl, rfl, hB3, rowAt, ?_⟩
    refine ⟨_, rfl, _, rfl, _, rfl, _, rfl, _, _, rfl, rfl, _, rfl, _, rfl, _, rfl, b, _, rfl, hB3, fun c2 nc2 => ?_⟩
    have ec : cutV (row.map V.int) (some ((ws.length : Int) + (i : Int) - (ws.length : Int))) (some ((ws.length : Int) + (i : Int))) = (((row.take (ws.length + i)).drop i)).map V.int := by
      rw [show (ws.length : Int) + (i : Int) - (ws.length : Int) = (i : Int) by omega, show (ws.length : Int) + (i : Int) = ((ws.length + i : Nat) : Int) by omega, cut_mid _ _ _ (by omega) (by rw [List.length_map]; omega), List.map_drop, List.map_take]
    rw [ec]
    obtain ⟨H4, e4, s4, h4⟩ := fresh (.lst (((row.take (ws.length + i)).drop i).map V.int)) nc2
    rw [e4]
    refine ⟨a, c2, ws, sh, _, rfl, (hG.same s3).same s4, .inl (.inl h4), by rw [List.length_drop, List.length_take]; omega, fun H5 s5 => ?_⟩
    rw [guess_end ws sh (row.take (ws.length + i)) i (by rw [List.length_take]; omega)]
    have h35 := s5 _ _ (s4 _ _ h3)
    refine ⟨_, _, rfl, rfl, f, _, _, rfl, rfl, h35, ?_, ?_⟩
    · rw [List.length_map, List.length_take]
      exact Nat.lt_of_le_of_lt (Nat.min_le_right _ _) (by rw [toldR_len]; exact small1000 hl)
    · refine ⟨_, rfl, ?_, ?_⟩
      · intro z o hz
        rw [upd_ne (ne_of_none hz nHf)]
        exact s5 _ _ (s4 _ _ (s3 _ _ hz))
      · rw [upd_same, ← Nat.add_assoc, toldR_next ws sh row (ws.length + i) (by omega) hpl, List.map_append]
        rfl
  · rintro σ H3 ⟨v4, rfl, s3, h3⟩
    refine ⟨_, rfl, q _ f s3 nHf ?_⟩
    rw [h3, List.take_of_length_le]
    rw [toldR_len]
    omega
def sp_rests (C : Addr) (K : PySem.W.Frag) : Sp := fun vs H Q _ => ∃ (a b : Addr) (ws : List Int) (sh : Nat) (row : List Int) (d : Nat), vs = [.ref a, .int d, .ref b] ∧ GuesserAt C H a ws sh ∧ Rd H b (.lst (row.map V.int)) ∧ row.length ≤ 1000 ∧ Samples d row ∧ 1 ≤ d ∧ d ≤ 32 ∧
  ∀ H' p, Same H H' → H p = none → H' p = some (.lst ((restsF ws sh d row).map V.int)) → Q (.ref p) H'
theorem G_rests (T : Top K mg) : FnOk P w K mg base CX0 6 T.f_rests T.fd_rests ["guesser", "depth", "row"] (sp_rests T.C_Guesser K) := by
  refine T.F_rests.ok sc_rests (fun vs H Q E h => by obtain ⟨a, b, ws, sh, row, d, rfl, _⟩ := h; rfl) (fun cdv A outer s H vs Q E hr h => ?_)
  obtain ⟨a, b, ws, sh, row, d, rfl, hG, hB, hl, hs, h0, h1, q⟩ := h
  refine ⟨_, PSs.nox (pss_cons (ps_expr (pe_call (G_check_guesser T) (hr.mono (by decide)) (by rfl) T.g_check_guesser T.F_check_guesser.kp T.b_check_guesser .nil pass0 (pa_cons (pv 0) pa_nil)))
  (pss_cons (ps_expr (pe_call (G_check_depth T) (hr.mono (by decide)) (by rfl) T.g_check_depth T.F_check_depth.kp T.b_check_depth .nil pass0 (pa_cons (pv 1) (pa_cons (pe_glob (v := .int 32) rfl T.m_MOST_DEPTH_guessers ⟨_, rfl⟩) pa_nil))))
  (pss_cons (ps_expr (pe_call (G_check_row T) (hr.mono (by decide)) (by rfl) T.g_check_row T.F_check_row.kp T.b_check_row .nil pass0 (pa_cons (pv 1) (pa_cons (pv 2) pa_nil))))
  (pss_one (ps_ret (pe_lc (own := [("item", 3)]) (g := gName 3) (tt := tYes) (by rfl) sc_rests.nd (k_piL K rfl (pe_call (G_told_rests T) (hr.mono (by decide)) (by rfl) T.g_told_rests T.F_told_rests.kp T.b_told_rests .nil pass0 (pa_cons (pv 0) (pa_cons (pv 2) pa_nil)))) (blkOk_by (own := [("item", 3)]) (N := N_rests) (sc := defScope s_rests) (by decide +kernel)) (fun _ _ _ _ _ => (pg_name (i := 3) sc_rests.nd rfl (by first | exact Or.inl rfl | exact Or.inr rfl))) (fun _ _ _ _ _ => pts_nil) (fun _ _ _ _ _ => (pe_call (G_wrapped T) (hr.mono (by decide)) (by rfl) T.g_wrapped T.F_wrapped.kp T.b_wrapped .nil pass0 (pa_cons (pv 3) (pa_cons (pv 1) pa_nil)))))))))), ?_⟩
  refine ⟨_, rfl, a, ws, sh, rfl, hG, ?_⟩
  refine ⟨_, rfl, (d : Int), 32, rfl, by omega, by omega, ?_⟩
  refine ⟨_, rfl, _, rfl, b, row, d, rfl, hB, hs, hl, h0, by omega, fun H1 s1 => ?_⟩
  refine ⟨_, rfl, _, rfl, a, b, ws, sh, row, rfl, hG.same s1, s1.seq (.inl hB), hl, fun H2 p s2 np hp => ?_⟩
  have hP : SqL K H2 p ((toldR ws sh row).map V.int) := .inl (.inl hp)
  refine ⟨p, rfl, ⟨_, hP⟩, fun D nD => ?_⟩
  refine lc_mapL (K := K) (xs := (toldR ws sh row).map V.int) ((restsF ws sh d row).map V.int) nD hP (by unfold restsF; simp) (by rw [List.length_map, toldR_len]; exact small1000 hl) (fun x => rfl) ?_ ?_
  · intro i x y H' hx hy s Qt qt
    obtain ⟨n, hn, rfl⟩ := int_at hx
    unfold restsF at hy
    rw [List.getElem?_map, List.getElem?_map, hn] at hy
    cases hy
    exact ⟨_, rfl, _, rfl, n, d, rfl, h0, by omega, qt _ (Same.refl _)⟩
  · intro H3 s3 hD
    exact q _ D ((s1.trans s2).trans s3) (s1.free (s2.free nD)) hD
end
end My

namespace My
/-! ### rests lead back to rows -/
theorem pw (d : Nat) : (0 : Int) < 2 ^ (d - 1) := Int.pow_pos (by decide)
theorem wrap_id {d : Nat} {n : Int} (h1 : -(2 ^ (d - 1)) ≤ n) (h2 : n ≤ 2 ^ (d - 1) - 1) : wrapI n d = n := by
  have hp := pw d
  unfold wrapI
  rw [Int.emod_eq_of_lt (by omega) (by omega)]
  omega
theorem wrap_lo (n : Int) (d : Nat) : -(2 ^ (d - 1)) ≤ wrapI n d := by
  have hp := pw d
  have := Int.emod_nonneg (n + 2 ^ (d - 1)) (show (2 * 2 ^ (d - 1) : Int) ≠ 0 by omega)
  unfold wrapI
  omega
theorem wrap_hi (n : Int) (d : Nat) : wrapI n d ≤ 2 ^ (d - 1) - 1 := by
  have hp := pw d
  have := Int.emod_lt_of_pos (n + 2 ^ (d - 1)) (show (0 : Int) < 2 * 2 ^ (d - 1) by omega)
  unfold wrapI
  omega
/-- a multiple of the depth's power is not seen -/
theorem wrap_add (n k : Int) (d : Nat) : wrapI (n + k * (2 * 2 ^ (d - 1))) d = wrapI n d := by
  unfold wrapI
  rw [show n + k * (2 * 2 ^ (d - 1)) + 2 ^ (d - 1) = (n + 2 ^ (d - 1)) + k * (2 * 2 ^ (d - 1)) by omega, Int.add_mul_emod_self_right]
theorem wrap_eq (n : Int) (d : Nat) : ∃ k, wrapI n d = n + k * (2 * 2 ^ (d - 1)) := by
  refine ⟨-((n + 2 ^ (d - 1)) / (2 * 2 ^ (d - 1))), ?_⟩
  unfold wrapI
  have e := Int.emod_def (n + 2 ^ (d - 1)) (2 * 2 ^ (d - 1))
  rw [e, Int.neg_mul, Int.mul_comm]
  omega
theorem wrap_sub_add {d : Nat} {n g : Int} (h1 : -(2 ^ (d - 1)) ≤ n) (h2 : n ≤ 2 ^ (d - 1) - 1) : wrapI (wrapI (n - g) d + g) d = n := by
  obtain ⟨k, e⟩ := wrap_eq (n - g) d
  rw [e, show n - g + k * (2 * 2 ^ (d - 1)) + g = n + k * (2 * 2 ^ (d - 1)) by omega, wrap_add, wrap_id h1 h2]
theorem wrap_add_sub {d : Nat} {n g : Int} (h1 : -(2 ^ (d - 1)) ≤ n) (h2 : n ≤ 2 ^ (d - 1) - 1) : wrapI (wrapI (n + g) d - g) d = n := by
  obtain ⟨k, e⟩ := wrap_eq (n + g) d
  rw [e, show n + g + k * (2 * 2 ^ (d - 1)) - g = n + k * (2 * 2 ^ (d - 1)) by omega, wrap_add, wrap_id h1 h2]
/-- what is guessed behind a beginning: nothing within the firsts -/
def told0 (ws : List Int) (sh : Nat) (pre : List Int) : Int := if pre.length < ws.length then 0 else guessF ws sh pre
def restsGo (ws : List Int) (sh d : Nat) : List Int → List Int → List Int
  | _, [] => []
  | pre, x :: xs => wrapI (x - told0 ws sh pre) d :: restsGo ws sh d (pre ++ [x]) xs
def backGo (ws : List Int) (sh d : Nat) : List Int → List Int → List Int
  | _, [] => []
  | pre, r :: rs => wrapI (r + told0 ws sh pre) d :: backGo ws sh d (pre ++ [wrapI (r + told0 ws sh pre) d]) rs
theorem restsF_go (ws : List Int) (sh d : Nat) (row : List Int) : restsF ws sh d row = restsGo ws sh d [] row := by
  have key : ∀ (xs pre : List Int), ((List.range xs.length).map fun i => wrapI (restAt ws sh (pre ++ xs) (pre.length + i)) d) = restsGo ws sh d pre xs := by
    intro xs
    induction xs with
    | nil => intro pre; rfl
    | cons x xs ih =>
      intro pre
      rw [List.length_cons, List.range_succ_eq_map, List.map_cons, List.map_map]
      show _ = wrapI (x - told0 ws sh pre) d :: restsGo ws sh d (pre ++ [x]) xs
      rw [← ih (pre ++ [x])]
      congr 1
      · rw [Nat.add_zero]
        unfold restAt told0
        rw [List.getD_eq_getElem?_getD, List.getElem?_append_right (Nat.le_refl _), Nat.sub_self, List.take_left']
        · rfl
        · rfl
      · refine List.map_congr_left fun i _ => ?_
        show wrapI (restAt ws sh (pre ++ x :: xs) (pre.length + (i + 1))) d = wrapI (restAt ws sh (pre ++ [x] ++ xs) ((pre ++ [x]).length + i)) d
        rw [List.append_assoc, List.length_append, List.length_singleton]
        show _ = wrapI (restAt ws sh (pre ++ x :: xs) (pre.length + 1 + i)) d
        rw [show pre.length + 1 + i = pre.length + (i + 1) by omega]
  have := key row []
  unfold restsF toldR
  rw [List.map_map, ← this]
  refine List.map_congr_left fun i _ => ?_
  show wrapI (restAt ws sh row i) d = wrapI (restAt ws sh ([] ++ row) (0 + i)) d
  rw [List.nil_append, Nat.zero_add]
theorem rests_len (ws : List Int) (sh d : Nat) : ∀ (row pre : List Int), (restsGo ws sh d pre row).length = row.length
  | [], _ => rfl
  | x :: xs, pre => by
    show (restsGo ws sh d (pre ++ [x]) xs).length + 1 = xs.length + 1
    rw [rests_len ws sh d xs]
theorem back_len (ws : List Int) (sh d : Nat) : ∀ (row pre : List Int), (backGo ws sh d pre row).length = row.length
  | [], _ => rfl
  | x :: xs, pre => by
    show (backGo ws sh d _ xs).length + 1 = xs.length + 1
    rw [back_len ws sh d xs]
theorem rests_samples (ws : List Int) (sh d : Nat) : ∀ (row pre : List Int), Samples d (restsGo ws sh d pre row)
  | [], _ => fun _ h => nomatch h
  | x :: xs, pre => fun n hn => by
    rcases List.mem_cons.mp hn with rfl | hn
    · exact ⟨wrap_lo _ _, wrap_hi _ _⟩
    · exact rests_samples ws sh d xs _ n hn
theorem back_samples (ws : List Int) (sh d : Nat) : ∀ (row pre : List Int), Samples d (backGo ws sh d pre row)
  | [], _ => fun _ h => nomatch h
  | x :: xs, pre => fun n hn => by
    rcases List.mem_cons.mp hn with rfl | hn
    · exact ⟨wrap_lo _ _, wrap_hi _ _⟩
    · exact back_samples ws sh d xs _ n hn
theorem Samples.cons {d : Nat} {x : Int} {xs : List Int} (h : Samples d (x :: xs)) : (-(2 ^ (d - 1)) ≤ x ∧ x ≤ 2 ^ (d - 1) - 1) ∧ Samples d xs := ⟨h x List.mem_cons_self, fun n hn => h n (List.mem_cons_of_mem _ hn)⟩
theorem back_rests (ws : List Int) (sh d : Nat) : ∀ (row pre : List Int), Samples d row → backGo ws sh d pre (restsGo ws sh d pre row) = row
  | [], _, _ => rfl
  | x :: xs, pre, h => by
    obtain ⟨h1, h2⟩ := h.cons
    show wrapI (wrapI (x - told0 ws sh pre) d + told0 ws sh pre) d :: backGo ws sh d (pre ++ [wrapI (wrapI (x - told0 ws sh pre) d + told0 ws sh pre) d]) (restsGo ws sh d (pre ++ [x]) xs) = x :: xs
    rw [wrap_sub_add h1.1 h1.2, back_rests ws sh d xs _ h2]
theorem rests_back (ws : List Int) (sh d : Nat) : ∀ (row pre : List Int), Samples d row → restsGo ws sh d pre (backGo ws sh d pre row) = row
  | [], _, _ => rfl
  | x :: xs, pre, h => by
    obtain ⟨h1, h2⟩ := h.cons
    show wrapI (wrapI (x + told0 ws sh pre) d - told0 ws sh pre) d :: restsGo ws sh d (pre ++ [wrapI (x + told0 ws sh pre) d]) (backGo ws sh d (pre ++ [wrapI (x + told0 ws sh pre) d]) xs) = x :: xs
    rw [wrap_add_sub h1.1 h1.2, rests_back ws sh d xs _ h2]
/-! ### all rows of a depth -/
def smp (d : Nat) : List Int := (List.range (2 * 2 ^ (d - 1))).map fun (i : Nat) => -(2 ^ (d - 1)) + (i : Int)
def allRows (d : Nat) : Nat → List (List Int)
  | 0 => [[]]
  | m + 1 => (allRows d m).flatMap fun r => (smp d).map fun s => r ++ [s]
theorem mem_smp {d : Nat} {x : Int} : x ∈ smp d ↔ -(2 ^ (d - 1)) ≤ x ∧ x ≤ 2 ^ (d - 1) - 1 := by
  have hp := pw d
  have e : ((2 * 2 ^ (d - 1) : Nat) : Int) = 2 * 2 ^ (d - 1) := by rw [Int.natCast_mul, Int.natCast_pow]; rfl
  unfold smp
  constructor
  · intro h
    obtain ⟨i, hi, rfl⟩ := List.mem_map.mp h
    have hi := List.mem_range.mp hi
    have : (i : Int) < ((2 * 2 ^ (d - 1) : Nat) : Int) := Int.ofNat_lt.mpr hi
    omega
  · rintro ⟨h1, h2⟩
    refine List.mem_map.mpr ⟨(x + 2 ^ (d - 1)).toNat, List.mem_range.mpr ?_, by omega⟩
    have : ((x + 2 ^ (d - 1)).toNat : Int) < ((2 * 2 ^ (d - 1) : Nat) : Int) := by omega
    exact Int.ofNat_lt.mp this
theorem mem_rows {d : Nat} : ∀ {m : Nat} {r : List Int}, r ∈ allRows d m ↔ r.length = m ∧ Samples d r
  | 0, r => by
    show r ∈ [[]] ↔ _
    constructor
    · intro h
      rw [List.mem_singleton.mp h]
      exact ⟨rfl, fun _ h => nomatch h⟩
    · rintro ⟨h, _⟩
      rw [List.length_eq_zero_iff.mp h]
      exact List.mem_singleton.mpr rfl
  | m + 1, r => by
    show r ∈ (allRows d m).flatMap _ ↔ _
    constructor
    · intro h
      obtain ⟨q, hq, hr⟩ := List.mem_flatMap.mp h
      obtain ⟨s, hs, rfl⟩ := List.mem_map.mp hr
      obtain ⟨h1, h2⟩ := mem_rows.mp hq
      refine ⟨by rw [List.length_append, h1]; rfl, fun n hn => ?_⟩
      rcases List.mem_append.mp hn with hn | hn
      · exact h2 n hn
      · rw [List.mem_singleton.mp hn]
        exact mem_smp.mp hs
    · rintro ⟨h1, h2⟩
      have hne : r ≠ [] := fun e => by rw [e] at h1; cases h1
      refine List.mem_flatMap.mpr ⟨r.dropLast, mem_rows.mpr ⟨by rw [List.length_dropLast, h1]; rfl, fun n hn => h2 n (List.dropLast_subset r hn)⟩, List.mem_map.mpr ⟨r.getLast hne, mem_smp.mpr (h2 _ (List.getLast_mem hne)), List.dropLast_concat_getLast hne⟩⟩
theorem smp_nodup (d : Nat) : (smp d).Nodup := by
  unfold smp
  refine List.Pairwise.map _ (fun a b h => ?_) List.nodup_range
  intro e
  exact h (by omega)
theorem rows_nodup (d : Nat) : ∀ m, (allRows d m).Nodup
  | 0 => by simp [allRows]
  | m + 1 => by
    show ((allRows d m).flatMap fun r => (smp d).map fun s => r ++ [s]).Nodup
    have h := rows_nodup d m
    unfold List.Nodup at h ⊢
    rw [List.pairwise_flatMap]
    refine ⟨fun r _ => ?_, ?_⟩
    · refine List.Pairwise.map _ (fun a b h => ?_) (smp_nodup d)
      intro e
      have := List.append_cancel_left e
      exact h (by injection this)
    · refine List.Pairwise.imp (fun {a b} h => ?_) h
      intro x hx y hy e
      obtain ⟨s, _, rfl⟩ := List.mem_map.mp hx
      obtain ⟨t, _, rfl⟩ := List.mem_map.mp hy
      have := congrArg List.dropLast e
      rw [List.dropLast_concat, List.dropLast_concat] at this
      exact h this
/-- the rests of all rows are all rows -/
theorem rests_perm (ws : List Int) (sh d m : Nat) : ((allRows d m).map (restsF ws sh d)).Perm (allRows d m) := by
  have inj : ∀ a ∈ allRows d m, ∀ b ∈ allRows d m, restsF ws sh d a = restsF ws sh d b → a = b := fun a ha b hb e => by
    rw [restsF_go, restsF_go] at e
    rw [← back_rests ws sh d a [] (mem_rows.mp ha).2, e, back_rests ws sh d b [] (mem_rows.mp hb).2]
  have nd : ((allRows d m).map (restsF ws sh d)).Nodup := by
    have h := rows_nodup d m
    unfold List.Nodup at h ⊢
    rw [List.pairwise_map]
    refine List.Pairwise.imp_of_mem (fun {a b} ha hb hne e => ?_) h
    exact hne (inj a ha b hb e)
  refine (List.perm_ext_iff_of_nodup nd (rows_nodup d m)).mpr fun x => ⟨fun h => ?_, fun h => ?_⟩
  · obtain ⟨r, hr, rfl⟩ := List.mem_map.mp h
    obtain ⟨h1, h2⟩ := mem_rows.mp hr
    rw [restsF_go]
    exact mem_rows.mpr ⟨by rw [rests_len, h1], rests_samples ws sh d r []⟩
  · obtain ⟨h1, h2⟩ := mem_rows.mp h
    refine List.mem_map.mpr ⟨backGo ws sh d [] x, mem_rows.mpr ⟨by rw [back_len, h1], back_samples ws sh d x []⟩, ?_⟩
    rw [restsF_go, rests_back ws sh d x [] h2]
end My

namespace My
/-! ### how many lists of numbers below a power of two have a small sum -/
def tab0 : List (List Nat) := [
  [1, 0, 0, 0, 0, 0, 0, 0, 0, 0, 0, 0],
  [1, 0, 0, 0, 0, 0, 0, 0, 0, 0, 0, 0],
  [1, 0, 0, 0, 0, 0, 0, 0, 0, 0, 0, 0],
  [1, 0, 0, 0, 0, 0, 0, 0, 0, 0, 0, 0],
  [1, 0, 0, 0, 0, 0, 0, 0, 0, 0, 0, 0],
  [1, 0, 0, 0, 0, 0, 0, 0, 0, 0, 0, 0],
  [1, 0, 0, 0, 0, 0, 0, 0, 0, 0, 0, 0],
  [1, 0, 0, 0, 0, 0, 0, 0, 0, 0, 0, 0],
  [1, 0, 0, 0, 0, 0, 0, 0, 0, 0, 0, 0],
  [1, 0, 0, 0, 0, 0, 0, 0, 0, 0, 0, 0],
  [1, 0, 0, 0, 0, 0, 0, 0, 0, 0, 0, 0],
  [1, 0, 0, 0, 0, 0, 0, 0, 0, 0, 0, 0],
  [1, 0, 0, 0, 0, 0, 0, 0, 0, 0, 0, 0],
  [1, 0, 0, 0, 0, 0, 0, 0, 0, 0, 0, 0],
  [1, 0, 0, 0, 0, 0, 0, 0, 0, 0, 0, 0],
  [1, 0, 0, 0, 0, 0, 0, 0, 0, 0, 0, 0],
  [1, 0, 0, 0, 0, 0, 0, 0, 0, 0, 0, 0],
  [1, 0, 0, 0, 0, 0, 0, 0, 0, 0, 0, 0],
  [1, 0, 0, 0, 0, 0, 0, 0, 0, 0, 0, 0],
  [1, 0, 0, 0, 0, 0, 0, 0, 0, 0, 0, 0],
  [1, 0, 0, 0, 0, 0, 0, 0, 0, 0, 0, 0],
  [1, 0, 0, 0, 0, 0, 0, 0, 0, 0, 0, 0],
  [1, 0, 0, 0, 0, 0, 0, 0, 0, 0, 0, 0],
  [1, 0, 0, 0, 0, 0, 0, 0, 0, 0, 0, 0],
  [1, 0, 0, 0, 0, 0, 0, 0, 0, 0, 0, 0],
  [1, 0, 0, 0, 0, 0, 0, 0, 0, 0, 0, 0],
  [1, 0, 0, 0, 0, 0, 0, 0, 0, 0, 0, 0],
  [1, 0, 0, 0, 0, 0, 0, 0, 0, 0, 0, 0],
  [1, 0, 0, 0, 0, 0, 0, 0, 0, 0, 0, 0],
  [1, 0, 0, 0, 0, 0, 0, 0, 0, 0, 0, 0],
  [1, 0, 0, 0, 0, 0, 0, 0, 0, 0, 0, 0],
  [1, 0, 0, 0, 0, 0, 0, 0, 0, 0, 0, 0],
  [1, 0, 0, 0, 0, 0, 0, 0, 0, 0, 0, 0],
  [1, 0, 0, 0, 0, 0, 0, 0, 0, 0, 0, 0],
  [1, 0, 0, 0, 0, 0, 0, 0, 0, 0, 0, 0],
  [1, 0, 0, 0, 0, 0, 0, 0, 0, 0, 0, 0],
  [1, 0, 0, 0, 0, 0, 0, 0, 0, 0, 0, 0],
  [1, 0, 0, 0, 0, 0, 0, 0, 0, 0, 0, 0],
  [1, 0, 0, 0, 0, 0, 0, 0, 0, 0, 0, 0],
  [1, 0, 0, 0, 0, 0, 0, 0, 0, 0, 0, 0],
  [1, 0, 0, 0, 0, 0, 0, 0, 0, 0, 0, 0],
  [1, 0, 0, 0, 0, 0, 0, 0, 0, 0, 0, 0],
  [1, 0, 0, 0, 0, 0, 0, 0, 0, 0, 0, 0],
  [1, 0, 0, 0, 0, 0, 0, 0, 0, 0, 0, 0]]
def tab1 : List (List Nat) := [
  [1, 0, 0, 0, 0, 0, 0, 0, 0, 0, 0, 0],
  [1, 1, 0, 0, 0, 0, 0, 0, 0, 0, 0, 0],
  [1, 2, 1, 0, 0, 0, 0, 0, 0, 0, 0, 0],
  [1, 3, 3, 1, 0, 0, 0, 0, 0, 0, 0, 0],
  [1, 4, 6, 4, 1, 0, 0, 0, 0, 0, 0, 0],
  [1, 5, 10, 10, 5, 1, 0, 0, 0, 0, 0, 0],
  [1, 6, 15, 20, 15, 6, 1, 0, 0, 0, 0, 0],
  [1, 7, 21, 35, 35, 21, 7, 1, 0, 0, 0, 0],
  [1, 8, 28, 56, 70, 56, 28, 8, 1, 0, 0, 0],
  [1, 9, 36, 84, 126, 126, 84, 36, 9, 1, 0, 0],
  [1, 10, 45, 120, 210, 252, 210, 120, 45, 10, 1, 0],
  [1, 11, 55, 165, 330, 462, 462, 330, 165, 55, 11, 1],
  [1, 12, 66, 220, 495, 792, 924, 792, 495, 220, 66, 12],
  [1, 13, 78, 286, 715, 1287, 1716, 1716, 1287, 715, 286, 78],
  [1, 14, 91, 364, 1001, 2002, 3003, 3432, 3003, 2002, 1001, 364],
  [1, 15, 105, 455, 1365, 3003, 5005, 6435, 6435, 5005, 3003, 1365],
  [1, 16, 120, 560, 1820, 4368, 8008, 11440, 12870, 11440, 8008, 4368],
  [1, 17, 136, 680, 2380, 6188, 12376, 19448, 24310, 24310, 19448, 12376],
  [1, 18, 153, 816, 3060, 8568, 18564, 31824, 43758, 48620, 43758, 31824],
  [1, 19, 171, 969, 3876, 11628, 27132, 50388, 75582, 92378, 92378, 75582],
  [1, 20, 190, 1140, 4845, 15504, 38760, 77520, 125970, 167960, 184756, 167960],
  [1, 21, 210, 1330, 5985, 20349, 54264, 116280, 203490, 293930, 352716, 352716],
  [1, 22, 231, 1540, 7315, 26334, 74613, 170544, 319770, 497420, 646646, 705432],
  [1, 23, 253, 1771, 8855, 33649, 100947, 245157, 490314, 817190, 1144066, 1352078],
  [1, 24, 276, 2024, 10626, 42504, 134596, 346104, 735471, 1307504, 1961256, 2496144],
  [1, 25, 300, 2300, 12650, 53130, 177100, 480700, 1081575, 2042975, 3268760, 4457400],
  [1, 26, 325, 2600, 14950, 65780, 230230, 657800, 1562275, 3124550, 5311735, 7726160],
  [1, 27, 351, 2925, 17550, 80730, 296010, 888030, 2220075, 4686825, 8436285, 13037895],
  [1, 28, 378, 3276, 20475, 98280, 376740, 1184040, 3108105, 6906900, 13123110, 21474180],
  [1, 29, 406, 3654, 23751, 118755, 475020, 1560780, 4292145, 10015005, 20030010, 34597290],
  [1, 30, 435, 4060, 27405, 142506, 593775, 2035800, 5852925, 14307150, 30045015, 54627300],
  [1, 31, 465, 4495, 31465, 169911, 736281, 2629575, 7888725, 20160075, 44352165, 84672315],
  [1, 32, 496, 4960, 35960, 201376, 906192, 3365856, 10518300, 28048800, 64512240, 129024480],
  [1, 33, 528, 5456, 40920, 237336, 1107568, 4272048, 13884156, 38567100, 92561040, 193536720],
  [1, 34, 561, 5984, 46376, 278256, 1344904, 5379616, 18156204, 52451256, 131128140, 286097760],
  [1, 35, 595, 6545, 52360, 324632, 1623160, 6724520, 23535820, 70607460, 183579396, 417225900],
  [1, 36, 630, 7140, 58905, 376992, 1947792, 8347680, 30260340, 94143280, 254186856, 600805296],
  [1, 37, 666, 7770, 66045, 435897, 2324784, 10295472, 38608020, 124403620, 348330136, 854992152],
  [1, 38, 703, 8436, 73815, 501942, 2760681, 12620256, 48903492, 163011640, 472733756, 1203322288],
  [1, 39, 741, 9139, 82251, 575757, 3262623, 15380937, 61523748, 211915132, 635745396, 1676056044],
  [1, 40, 780, 9880, 91390, 658008, 3838380, 18643560, 76904685, 273438880, 847660528, 2311801440],
  [1, 41, 820, 10660, 101270, 749398, 4496388, 22481940, 95548245, 350343565, 1121099408, 3159461968],
  [1, 42, 861, 11480, 111930, 850668, 5245786, 26978328, 118030185, 445891810, 1471442973, 4280561376],
  [1, 43, 903, 12341, 123410, 962598, 6096454, 32224114, 145008513, 563921995, 1917334783, 5752004349]]
def tab2 : List (List Nat) := [
  [1, 0, 0, 0, 0, 0, 0, 0, 0, 0, 0, 0],
  [1, 1, 1, 1, 0, 0, 0, 0, 0, 0, 0, 0],
  [1, 2, 3, 4, 3, 2, 1, 0, 0, 0, 0, 0],
  [1, 3, 6, 10, 12, 12, 10, 6, 3, 1, 0, 0],
  [1, 4, 10, 20, 31, 40, 44, 40, 31, 20, 10, 4],
  [1, 5, 15, 35, 65, 101, 135, 155, 155, 135, 101, 65],
  [1, 6, 21, 56, 120, 216, 336, 456, 546, 580, 546, 456],
  [1, 7, 28, 84, 203, 413, 728, 1128, 1554, 1918, 2128, 2128],
  [1, 8, 36, 120, 322, 728, 1428, 2472, 3823, 5328, 6728, 7728],
  [1, 9, 45, 165, 486, 1206, 2598, 4950, 8451, 13051, 18351, 23607],
  [1, 10, 55, 220, 705, 1902, 4455, 9240, 17205, 29050, 44803, 63460],
  [1, 11, 66, 286, 990, 2882, 7282, 16302, 32802, 59950, 100298, 154518],
  [1, 12, 78, 364, 1353, 4224, 11440, 27456, 59268, 116336, 209352, 347568],
  [1, 13, 91, 455, 1807, 6019, 17381, 44473, 102388, 214500, 412412, 732524],
  [1, 14, 105, 560, 2366, 8372, 25662, 69680, 170261, 378742, 773773, 1461824],
  [1, 15, 120, 680, 3045, 11403, 36960, 106080, 273975, 644345, 1392456, 2784600],
  [1, 16, 136, 816, 3860, 15248, 52088, 157488, 428418, 1061360, 2416856, 5095376],
  [1, 17, 153, 969, 4828, 20060, 72012, 228684, 653242, 1699354, 4064122, 9002010],
  [1, 18, 171, 1140, 5967, 26010, 97869, 325584, 973998, 2653292, 6645402, 15418728],
  [1, 19, 190, 1330, 7296, 33288, 130986, 455430, 1423461, 4050743, 10598276, 25691420],
  [1, 20, 210, 1540, 8835, 42104, 172900, 627000, 2043165, 6060620, 16527910, 41763900],
  [1, 21, 231, 1771, 10605, 52689, 225379, 850839, 2885169, 8903685, 25258695, 66395595],
  [1, 22, 253, 2024, 12628, 65296, 290444, 1139512, 4014076, 12865072, 37898388, 103443144],
  [1, 23, 276, 2300, 14927, 80201, 370392, 1507880, 5509328, 18309104, 55917048, 158220680],
  [1, 24, 300, 2600, 17526, 97704, 467820, 1973400, 7467801, 25696704, 81243360, 237956160],
  [1, 25, 325, 2925, 20450, 118130, 585650, 2556450, 10006725, 35605725, 116381265, 352364025],
  [1, 26, 351, 3276, 23725, 141830, 727155, 3280680, 13266955, 48754550, 164550165, 514357740],
  [1, 27, 378, 3654, 27378, 169182, 895986, 4173390, 17416620, 66029340, 229852350, 740929410],
  [1, 28, 406, 4060, 31437, 200592, 1096200, 5265936, 22655178, 88515336, 317471700, 1054227720],
  [1, 29, 435, 4495, 35931, 236495, 1332289, 6594165, 29217906, 117532650, 433908150, 1482869934],
  [1, 30, 465, 4960, 40890, 277356, 1609210, 8198880, 37380855, 154677010, 587252871, 2063528640],
  [1, 31, 496, 5456, 46345, 323671, 1932416, 10126336, 47466301, 201865955, 787509616, 2842839376],
  [1, 32, 528, 5984, 52328, 375968, 2307888, 12428768, 59848724, 261391008, 1046968208, 3879681248],
  [1, 33, 561, 6545, 58872, 434808, 2742168, 15164952, 74961348, 335976388, 1380636708, 5247889188],
  [1, 34, 595, 7140, 66011, 500786, 3242393, 18400800, 93303276, 428844856, 1806739396, 7039463632],
  [1, 35, 630, 7770, 73780, 574532, 3816330, 22209990, 115447255, 543791325, 2347288328, 9368351160],
  [1, 36, 666, 8436, 82215, 656712, 4472412, 26674632, 142048107, 685264900, 3028736898, 12374878068],
  [1, 37, 703, 9139, 91353, 748029, 5219775, 31885971, 173851863, 858460051, 3882724537, 16230927973],
  [1, 38, 741, 9880, 101232, 849224, 6068296, 37945128, 211705638, 1069417660, 4946922422, 21145964424],
  [1, 39, 780, 10660, 111891, 961077, 7028632, 44963880, 256568286, 1325136722, 6265990848, 27374010144],
  [1, 40, 820, 11480, 123370, 1084408, 8112260, 53065480, 309521875, 1633697520, 7892659736, 35221706000],
  [1, 41, 861, 12341, 135710, 1220078, 9331518, 62385518, 371784023, 2004397135, 9888944611, 45057585131],
  [1, 42, 903, 13244, 148953, 1368990, 10699647, 73072824, 444721137, 2447898194, 12327511287, 57322710900],
  [1, 43, 946, 14190, 163142, 1532090, 12230834, 85290414, 529862598, 2976391802, 15293203442, 72542841518]]
def tab3 : List (List Nat) := [
  [1, 0, 0, 0, 0, 0, 0, 0, 0, 0, 0, 0],
  [1, 1, 1, 1, 1, 1, 1, 1, 0, 0, 0, 0],
  [1, 2, 3, 4, 5, 6, 7, 8, 7, 6, 5, 4],
  [1, 3, 6, 10, 15, 21, 28, 36, 42, 46, 48, 48],
  [1, 4, 10, 20, 35, 56, 84, 120, 161, 204, 246, 284],
  [1, 5, 15, 35, 70, 126, 210, 330, 490, 690, 926, 1190],
  [1, 6, 21, 56, 126, 252, 462, 792, 1281, 1966, 2877, 4032],
  [1, 7, 28, 84, 210, 462, 924, 1716, 2996, 4956, 7812, 11788],
  [1, 8, 36, 120, 330, 792, 1716, 3432, 6427, 11376, 19160, 30864],
  [1, 9, 45, 165, 495, 1287, 3003, 6435, 12861, 24229, 43353, 74097],
  [1, 10, 55, 220, 715, 2002, 5005, 11440, 24300, 48520, 91828, 165760],
  [1, 11, 66, 286, 1001, 3003, 8008, 19448, 43747, 92257, 184030, 349570],
  [1, 12, 78, 364, 1365, 4368, 12376, 31824, 75570, 167816, 351780, 701064],
  [1, 13, 91, 455, 1820, 6188, 18564, 50388, 125957, 293761, 645463, 1346163],
  [1, 14, 105, 560, 2380, 8568, 27132, 77520, 203476, 497224, 1142596, 2488304],
  [1, 15, 120, 680, 3060, 11628, 38760, 116280, 319755, 816965, 1959456, 4447200],
  [1, 16, 136, 816, 3876, 15504, 54264, 170544, 490298, 1307248, 3266584, 7713104],
  [1, 17, 153, 969, 4845, 20349, 74613, 245157, 735454, 2042686, 5309134, 13021422],
  [1, 18, 171, 1140, 5985, 26334, 100947, 346104, 1081557, 3124226, 8433207, 21453660],
  [1, 19, 190, 1330, 7315, 33649, 134596, 480700, 1562256, 4686464, 13119500, 34572020],
  [1, 20, 210, 1540, 8855, 42504, 177100, 657800, 2220055, 6906500, 20025810, 54596500],
  [1, 21, 231, 1771, 10626, 53130, 230230, 888030, 3108084, 10014564, 30040164, 84635124],
  [1, 22, 253, 2024, 12650, 65780, 296010, 1184040, 4292123, 14306666, 44346599, 128979952],
  [1, 23, 276, 2300, 14950, 80730, 376740, 1560780, 5852902, 20159546, 64505892, 193483820],
  [1, 24, 300, 2600, 17550, 98280, 475020, 2035800, 7888701, 28048224, 92553840, 286035360],
  [1, 25, 325, 2925, 20475, 118755, 593775, 2629575, 10518275, 38566475, 131120015, 417152775],
  [1, 26, 351, 3276, 23751, 142506, 736281, 3365856, 13884130, 52450580, 183570270, 600720120],
  [1, 27, 378, 3654, 27405, 169911, 906192, 4272048, 18156177, 70606731, 254176650, 854893494],
  [1, 28, 406, 4060, 31465, 201376, 1107568, 5379616, 23535792, 94142496, 348318768, 1203208608],
  [1, 29, 435, 4495, 35960, 237336, 1344904, 6724520, 30260311, 124402779, 472721141, 1675925689],
  [1, 30, 465, 4960, 40920, 278256, 1623160, 8347680, 38607990, 163010740, 635731446, 2311652640],
  [1, 31, 496, 5456, 46376, 324632, 1947792, 10295472, 48903461, 211914171, 847645152, 3159292832],
  [1, 32, 528, 5984, 52360, 376992, 2324784, 12620256, 61523716, 273437856, 1121082512, 4280369888],
  [1, 33, 561, 6545, 58905, 435897, 2760681, 15380937, 76904652, 350342476, 1471424460, 5751788364],
  [1, 34, 595, 7140, 66045, 501942, 3262623, 18643560, 95548211, 445890654, 1917314553, 7669096372],
  [1, 35, 630, 7770, 73815, 575757, 3838380, 22481940, 118030150, 563920770, 2481234728, 10150323960],
  [1, 36, 666, 8436, 82251, 658008, 4496388, 26978328, 145008477, 708929212, 3190163310, 13340479500],
  [1, 37, 703, 9139, 91390, 749398, 5245786, 32224114, 177232590, 886161766, 4076324410, 17416795474],
  [1, 38, 741, 9880, 101270, 850668, 6096454, 38320568, 215553157, 1101714886, 5178038593, 22594824928],
  [1, 39, 780, 10660, 111930, 962598, 7059052, 45379620, 260932776, 1362647624, 6540685476, 29135500524],
  [1, 40, 820, 11480, 123410, 1086008, 8145060, 53524680, 314457455, 1677105040, 8217789736, 37353279600],
  [1, 41, 861, 12341, 135751, 1221759, 9366819, 62891499, 377348953, 2054453953, 10272242869, 47625510989],
  [1, 42, 903, 13244, 148995, 1370754, 10737573, 73629072, 450978024, 2505431936, 12777673944, 60403172592],
  [1, 43, 946, 14190, 163185, 1533939, 12271512, 85900584, 536878607, 3042310501, 15819983542, 76223142890]]
def tab4 : List (List Nat) := [
  [1, 0, 0, 0, 0, 0, 0, 0, 0, 0, 0, 0],
  [1, 1, 1, 1, 1, 1, 1, 1, 1, 1, 1, 1],
  [1, 2, 3, 4, 5, 6, 7, 8, 9, 10, 11, 12],
  [1, 3, 6, 10, 15, 21, 28, 36, 45, 55, 66, 78],
  [1, 4, 10, 20, 35, 56, 84, 120, 165, 220, 286, 364],
  [1, 5, 15, 35, 70, 126, 210, 330, 495, 715, 1001, 1365],
  [1, 6, 21, 56, 126, 252, 462, 792, 1287, 2002, 3003, 4368],
  [1, 7, 28, 84, 210, 462, 924, 1716, 3003, 5005, 8008, 12376],
  [1, 8, 36, 120, 330, 792, 1716, 3432, 6435, 11440, 19448, 31824],
  [1, 9, 45, 165, 495, 1287, 3003, 6435, 12870, 24310, 43758, 75582],
  [1, 10, 55, 220, 715, 2002, 5005, 11440, 24310, 48620, 92378, 167960],
  [1, 11, 66, 286, 1001, 3003, 8008, 19448, 43758, 92378, 184756, 352716],
  [1, 12, 78, 364, 1365, 4368, 12376, 31824, 75582, 167960, 352716, 705432],
  [1, 13, 91, 455, 1820, 6188, 18564, 50388, 125970, 293930, 646646, 1352078],
  [1, 14, 105, 560, 2380, 8568, 27132, 77520, 203490, 497420, 1144066, 2496144],
  [1, 15, 120, 680, 3060, 11628, 38760, 116280, 319770, 817190, 1961256, 4457400],
  [1, 16, 136, 816, 3876, 15504, 54264, 170544, 490314, 1307504, 3268760, 7726160],
  [1, 17, 153, 969, 4845, 20349, 74613, 245157, 735471, 2042975, 5311735, 13037895],
  [1, 18, 171, 1140, 5985, 26334, 100947, 346104, 1081575, 3124550, 8436285, 21474180],
  [1, 19, 190, 1330, 7315, 33649, 134596, 480700, 1562275, 4686825, 13123110, 34597290],
  [1, 20, 210, 1540, 8855, 42504, 177100, 657800, 2220075, 6906900, 20030010, 54627300],
  [1, 21, 231, 1771, 10626, 53130, 230230, 888030, 3108105, 10015005, 30045015, 84672315],
  [1, 22, 253, 2024, 12650, 65780, 296010, 1184040, 4292145, 14307150, 44352165, 129024480],
  [1, 23, 276, 2300, 14950, 80730, 376740, 1560780, 5852925, 20160075, 64512240, 193536720],
  [1, 24, 300, 2600, 17550, 98280, 475020, 2035800, 7888725, 28048800, 92561040, 286097760],
  [1, 25, 325, 2925, 20475, 118755, 593775, 2629575, 10518300, 38567100, 131128140, 417225900],
  [1, 26, 351, 3276, 23751, 142506, 736281, 3365856, 13884156, 52451256, 183579396, 600805296],
  [1, 27, 378, 3654, 27405, 169911, 906192, 4272048, 18156204, 70607460, 254186856, 854992152],
  [1, 28, 406, 4060, 31465, 201376, 1107568, 5379616, 23535820, 94143280, 348330136, 1203322288],
  [1, 29, 435, 4495, 35960, 237336, 1344904, 6724520, 30260340, 124403620, 472733756, 1676056044],
  [1, 30, 465, 4960, 40920, 278256, 1623160, 8347680, 38608020, 163011640, 635745396, 2311801440],
  [1, 31, 496, 5456, 46376, 324632, 1947792, 10295472, 48903492, 211915132, 847660528, 3159461968],
  [1, 32, 528, 5984, 52360, 376992, 2324784, 12620256, 61523748, 273438880, 1121099408, 4280561376],
  [1, 33, 561, 6545, 58905, 435897, 2760681, 15380937, 76904685, 350343565, 1471442973, 5752004349],
  [1, 34, 595, 7140, 66045, 501942, 3262623, 18643560, 95548245, 445891810, 1917334783, 7669339132],
  [1, 35, 630, 7770, 73815, 575757, 3838380, 22481940, 118030185, 563921995, 2481256778, 10150595910],
  [1, 36, 666, 8436, 82251, 658008, 4496388, 26978328, 145008513, 708930508, 3190187286, 13340783196],
  [1, 37, 703, 9139, 91390, 749398, 5245786, 32224114, 177232627, 886163135, 4076350421, 17417133617],
  [1, 38, 741, 9880, 101270, 850668, 6096454, 38320568, 215553195, 1101716330, 5178066751, 22595200368],
  [1, 39, 780, 10660, 111930, 962598, 7059052, 45379620, 260932815, 1362649145, 6540715896, 29135916264],
  [1, 40, 820, 11480, 123410, 1086008, 8145060, 53524680, 314457495, 1677106640, 8217822536, 37353738800],
  [1, 41, 861, 12341, 135751, 1221759, 9366819, 62891499, 377348994, 2054455634, 10272278170, 47626016970],
  [1, 42, 903, 13244, 148995, 1370754, 10737573, 73629072, 450978066, 2505433700, 12777711870, 60403728840],
  [1, 43, 946, 14190, 163185, 1533939, 12271512, 85900584, 536878650, 3042312350, 15820024220, 76223753060]]
def tab5 : List (List Nat) := [
  [1, 0, 0, 0, 0, 0, 0, 0, 0, 0, 0, 0],
  [1, 1, 1, 1, 1, 1, 1, 1, 1, 1, 1, 1],
  [1, 2, 3, 4, 5, 6, 7, 8, 9, 10, 11, 12],
  [1, 3, 6, 10, 15, 21, 28, 36, 45, 55, 66, 78],
  [1, 4, 10, 20, 35, 56, 84, 120, 165, 220, 286, 364],
  [1, 5, 15, 35, 70, 126, 210, 330, 495, 715, 1001, 1365],
  [1, 6, 21, 56, 126, 252, 462, 792, 1287, 2002, 3003, 4368],
  [1, 7, 28, 84, 210, 462, 924, 1716, 3003, 5005, 8008, 12376],
  [1, 8, 36, 120, 330, 792, 1716, 3432, 6435, 11440, 19448, 31824],
  [1, 9, 45, 165, 495, 1287, 3003, 6435, 12870, 24310, 43758, 75582],
  [1, 10, 55, 220, 715, 2002, 5005, 11440, 24310, 48620, 92378, 167960],
  [1, 11, 66, 286, 1001, 3003, 8008, 19448, 43758, 92378, 184756, 352716],
  [1, 12, 78, 364, 1365, 4368, 12376, 31824, 75582, 167960, 352716, 705432],
  [1, 13, 91, 455, 1820, 6188, 18564, 50388, 125970, 293930, 646646, 1352078],
  [1, 14, 105, 560, 2380, 8568, 27132, 77520, 203490, 497420, 1144066, 2496144],
  [1, 15, 120, 680, 3060, 11628, 38760, 116280, 319770, 817190, 1961256, 4457400],
  [1, 16, 136, 816, 3876, 15504, 54264, 170544, 490314, 1307504, 3268760, 7726160],
  [1, 17, 153, 969, 4845, 20349, 74613, 245157, 735471, 2042975, 5311735, 13037895],
  [1, 18, 171, 1140, 5985, 26334, 100947, 346104, 1081575, 3124550, 8436285, 21474180],
  [1, 19, 190, 1330, 7315, 33649, 134596, 480700, 1562275, 4686825, 13123110, 34597290],
  [1, 20, 210, 1540, 8855, 42504, 177100, 657800, 2220075, 6906900, 20030010, 54627300],
  [1, 21, 231, 1771, 10626, 53130, 230230, 888030, 3108105, 10015005, 30045015, 84672315],
  [1, 22, 253, 2024, 12650, 65780, 296010, 1184040, 4292145, 14307150, 44352165, 129024480],
  [1, 23, 276, 2300, 14950, 80730, 376740, 1560780, 5852925, 20160075, 64512240, 193536720],
  [1, 24, 300, 2600, 17550, 98280, 475020, 2035800, 7888725, 28048800, 92561040, 286097760],
  [1, 25, 325, 2925, 20475, 118755, 593775, 2629575, 10518300, 38567100, 131128140, 417225900],
  [1, 26, 351, 3276, 23751, 142506, 736281, 3365856, 13884156, 52451256, 183579396, 600805296],
  [1, 27, 378, 3654, 27405, 169911, 906192, 4272048, 18156204, 70607460, 254186856, 854992152],
  [1, 28, 406, 4060, 31465, 201376, 1107568, 5379616, 23535820, 94143280, 348330136, 1203322288],
  [1, 29, 435, 4495, 35960, 237336, 1344904, 6724520, 30260340, 124403620, 472733756, 1676056044],
  [1, 30, 465, 4960, 40920, 278256, 1623160, 8347680, 38608020, 163011640, 635745396, 2311801440],
  [1, 31, 496, 5456, 46376, 324632, 1947792, 10295472, 48903492, 211915132, 847660528, 3159461968],
  [1, 32, 528, 5984, 52360, 376992, 2324784, 12620256, 61523748, 273438880, 1121099408, 4280561376],
  [1, 33, 561, 6545, 58905, 435897, 2760681, 15380937, 76904685, 350343565, 1471442973, 5752004349],
  [1, 34, 595, 7140, 66045, 501942, 3262623, 18643560, 95548245, 445891810, 1917334783, 7669339132],
  [1, 35, 630, 7770, 73815, 575757, 3838380, 22481940, 118030185, 563921995, 2481256778, 10150595910],
  [1, 36, 666, 8436, 82251, 658008, 4496388, 26978328, 145008513, 708930508, 3190187286, 13340783196],
  [1, 37, 703, 9139, 91390, 749398, 5245786, 32224114, 177232627, 886163135, 4076350421, 17417133617],
  [1, 38, 741, 9880, 101270, 850668, 6096454, 38320568, 215553195, 1101716330, 5178066751, 22595200368],
  [1, 39, 780, 10660, 111930, 962598, 7059052, 45379620, 260932815, 1362649145, 6540715896, 29135916264],
  [1, 40, 820, 11480, 123410, 1086008, 8145060, 53524680, 314457495, 1677106640, 8217822536, 37353738800],
  [1, 41, 861, 12341, 135751, 1221759, 9366819, 62891499, 377348994, 2054455634, 10272278170, 47626016970],
  [1, 42, 903, 13244, 148995, 1370754, 10737573, 73629072, 450978066, 2505433700, 12777711870, 60403728840],
  [1, 43, 946, 14190, 163185, 1533939, 12271512, 85900584, 536878650, 3042312350, 15820024220, 76223753060]]
def tab (r : Nat) : List (List Nat) := match r with | 0 => tab0 | 1 => tab1 | 2 => tab2 | 3 => tab3 | 4 => tab4 | _ => tab5
def tabAt (r m e : Nat) : Nat := ((tab r).getD m []).getD e 0
end My

namespace My
/-! ### choosing, and lists of numbers by their sums -/
def choN (m : Nat) : Nat → Nat
  | 0 => 1
  | t + 1 => choN m t * (m - t) / (t + 1)
def chosenN (m f : Nat) : Nat := if f > m then 0 else choN m f
def partN (m b t u : Nat) : Nat := chosenN m u * chosenN (t - u * b + m - 1) (m - 1)
def sumTo (m b t : Nat) : Nat → Int
  | 0 => 0
  | u + 1 => sumTo m b t u + (if u % 2 = 0 then (partN m b t u : Int) else 0 - (partN m b t u : Int))
def sumsF (m b : Nat) (t : Int) : Int := if m = 0 ∨ t < 0 then (if m = 0 ∧ t = 0 then 1 else 0) else sumTo m b t.toNat (min m (t.toNat / b) + 1)
def howF (d w m : Nat) (s : Int) : Int := sumsF m (2 ^ (d - w)) (s - m * (w + 1)) * 2 ^ (w * m)
/-- the parts are not too great to be multiplied -/
def Mild (m b : Nat) (t : Int) : Prop := (∀ u, u ≤ min m (t.toNat / b) → chosenN m u < 2 ^ 64) ∧ -(2 ^ 64) < sumsF m b t ∧ sumsF m b t < 2 ^ 64
theorem tab_ok : ∀ r : Fin 6, ∀ m : Fin 44, ∀ e : Fin 12, sumsF m (2 ^ r.val) ((e.val : Nat) : Int) = (tabAt r m e : Int) := by decide +kernel
theorem cho_ok : ∀ m : Fin 44, ∀ u : Fin 12, chosenN m u < 2 ^ 64 := by decide +kernel
theorem tab_small : ∀ r : Fin 6, ∀ m : Fin 44, ∀ e : Fin 12, tabAt r m e < 2 ^ 64 := by decide +kernel
def conv (r o p e : Nat) : Nat := ((List.range (e + 1)).map fun k => tabAt r o k * tabAt r p (e - k)).sum
theorem conv_ok : ∀ r : Fin 6, ∀ p : Fin 41, ∀ o : Fin 4, ∀ e : Fin 12, 1 ≤ p.val → 1 ≤ o.val → conv r o p e = tabAt r (p.val + o.val) e := by decide +kernel
end My

namespace My
open PySem PySem.Spec PyProof.Rows L2 Pre
/-! ### sizes of rows, counted -/
def foldI (n : Int) : Int := if n ≥ 0 then 2 * n else -2 * n - 1
def sizeR (w : Nat) (r : List Int) : Int := (r.map fun n => foldI n / 2 ^ w + 1 + (w : Int)).sum
def cntR (w : Nat) (rows : List (List Int)) (s : Int) : Int := ((rows.filter fun r => decide (sizeR w r = s)).length : Int)
def grt (d w m : Nat) : Nat := m * (w + 2 ^ (d - w))
theorem all_small : ∀ d : Fin 4, ∀ w : Fin 4, ∀ m : Fin 4, 1 ≤ d.val → w.val ≤ d.val → ∀ s : Fin 30, cntR w (allRows d m) ((s.val : Nat) : Int) = (if s.val < grt d w m + 3 then howF d w m ((s.val : Nat) : Int) else 0) := by decide +kernel
theorem all_within : ∀ d : Fin 4, ∀ w : Fin 4, ∀ m : Fin 4, 1 ≤ d.val → w.val ≤ d.val → ((allRows d m).all fun r => decide (0 ≤ sizeR w r ∧ sizeR w r < 30)) = true ∧ grt d w m ≤ 24 := by decide +kernel
theorem small_mild : ∀ d : Fin 4, ∀ w : Fin 4, ∀ m : Fin 4, 1 ≤ d.val → w.val ≤ d.val → ∀ s : Fin 30, -(2 ^ 64) < sumsF m (2 ^ (d.val - w.val)) (((s.val : Nat) : Int) - (m.val : Int) * ((w.val : Int) + 1)) ∧ sumsF m (2 ^ (d.val - w.val)) (((s.val : Nat) : Int) - (m.val : Int) * ((w.val : Int) + 1)) < 2 ^ 64 := by decide +kernel
theorem mild_small {d w m : Nat} {s : Nat} (h1 : 1 ≤ d) (h2 : d ≤ 3) (h3 : w ≤ d) (h4 : m ≤ 3) (hs : s < 30) : Mild m (2 ^ (d - w)) ((s : Int) - (m : Int) * ((w : Int) + 1)) := by
  have h := small_mild ⟨d, by omega⟩ ⟨w, by omega⟩ ⟨m, by omega⟩ h1 h3 ⟨s, hs⟩
  exact ⟨fun u hu => cho_ok ⟨m, by omega⟩ ⟨u, by omega⟩, h⟩
theorem mild_tab {r m e : Nat} (h1 : r < 6) (h2 : m < 44) (h3 : e < 12) : Mild m (2 ^ r) (e : Int) := by
  have h := tab_ok ⟨r, h1⟩ ⟨m, h2⟩ ⟨e, h3⟩
  have h' := tab_small ⟨r, h1⟩ ⟨m, h2⟩ ⟨e, h3⟩
  simp only at h h'
  refine ⟨fun u hu => ?_, ?_, ?_⟩
  · rw [Int.toNat_natCast] at hu
    have hd : e / 2 ^ r ≤ e := Nat.div_le_self _ _
    generalize e / 2 ^ r = qq at hu hd
    exact cho_ok ⟨m, h2⟩ ⟨u, by omega⟩
  · rw [h]; omega
  · rw [h]; omega
theorem mild_200 : Mild 200 1 0 := ⟨fun u hu => by
    have : u = 0 := by
      have e : (0 : Int).toNat / 1 = 0 := by decide
      rw [e] at hu
      omega
    rw [this]
    decide, by decide +kernel, by decide +kernel⟩
/-- counts of all rests: those of all rows -/
theorem cnt_rests (ws : List Int) (sh d w m : Nat) (s : Int) : cntR w ((allRows d m).map (restsF ws sh d)) s = cntR w (allRows d m) s := by
  unfold cntR
  rw [((rests_perm ws sh d m).filter _).length_eq]
theorem cnt_all {d w m : Nat} (h1 : 1 ≤ d) (h2 : d ≤ 3) (h3 : w ≤ d) (h4 : m ≤ 3) (s : Int) : cntR w (allRows d m) s = (if 0 ≤ s ∧ s < grt d w m + 3 then howF d w m s else 0) := by
  have hw := all_within ⟨d, by omega⟩ ⟨w, by omega⟩ ⟨m, by omega⟩ h1 h3
  simp only at hw
  by_cases hs : 0 ≤ s ∧ s < 30
  · obtain ⟨k, rfl⟩ : ∃ k : Nat, s = (k : Int) := ⟨s.toNat, by omega⟩
    have h := all_small ⟨d, by omega⟩ ⟨w, by omega⟩ ⟨m, by omega⟩ h1 h3 ⟨k, by omega⟩
    simp only at h
    rw [h]
    by_cases hk : k < grt d w m + 3
    · rw [if_pos hk, if_pos ⟨by omega, by omega⟩]
    · rw [if_neg hk, if_neg (by omega)]
  · rw [if_neg (by omega)]
    unfold cntR
    rw [List.filter_eq_nil_iff.mpr]
    · rfl
    · intro r hr hd
      have h5 := of_decide_eq_true (List.all_eq_true.mp hw.1 r hr)
      have h6 := of_decide_eq_true hd
      omega
/-! ### a dict of counts -/
structure DictIs (kvs : List (Key × V)) (f : Int → Int) : Prop where
  nd : (kvs.map (·.1)).Nodup
  allI : ∀ p ∈ kvs, ∃ s : Int, p.1 = Sum.inl s
  val : ∀ s : Int, valV kvs (Sum.inl s) = if f s = 0 then none else some (.int (f s))
theorem DictIs.nil : DictIs [] fun _ => 0 := ⟨List.nodup_nil, (fun _ h => nomatch h), fun s => by rw [if_pos rfl]; rfl⟩
theorem put_keys {κ : Type} [DecidableEq κ] {kvs : List (κ × V)} {k : κ} {v : V} : (putK kvs k v).map (·.1) = if (valV kvs k).isSome = true then kvs.map (·.1) else kvs.map (·.1) ++ [k] := by
  cases h : valV kvs k with
  | none =>
    rw [putK_new v h, List.map_append]
    rfl
  | some x =>
    have ha := valV_any k kvs
    rw [h] at ha
    unfold putK
    rw [if_pos (by first | exact ha | rw [ha]; rfl)]
    rw [if_pos (show (some x).isSome = true from rfl), List.map_map]
    refine List.map_congr_left fun p _ => ?_
    show (if p.1 = k then (p.1, v) else p).1 = p.1
    split <;> rfl
theorem DictIs.put {kvs : List (Key × V)} {f : Int → Int} (h : DictIs kvs f) (s z : Int) (hz : z ≠ 0) : DictIs (putK kvs (Sum.inl s) (.int z)) fun t => if t = s then z else f t := by
  have hv := h.val s
  refine ⟨?_, fun p hp => ?_, fun t => ?_⟩
  · rw [put_keys]
    split
    · exact h.nd
    · rename_i e
      have hn : valV kvs (Sum.inl s : Key) = none := by
        cases q : valV kvs (Sum.inl s : Key) with
        | none => rfl
        | some x => rw [q] at e; exact absurd rfl e
      exact List.nodup_append.mpr ⟨h.nd, by simp, fun a ha b hb => by
        rw [List.mem_singleton.mp hb]
        intro e
        rw [e] at ha
        exact valV_not hn ha⟩
  · have hk : p.1 ∈ (putK kvs (Sum.inl s) (.int z)).map (·.1) := List.mem_map.mpr ⟨p, hp, rfl⟩
    rw [put_keys] at hk
    have key : p.1 ∈ kvs.map (·.1) → ∃ s : Int, p.1 = Sum.inl s := fun hm => by
      obtain ⟨q, hq, e⟩ := List.mem_map.mp hm
      obtain ⟨t, ht⟩ := h.allI q hq
      exact ⟨t, by rw [← e, ht]⟩
    split at hk
    · exact key hk
    · rcases List.mem_append.mp hk with hk | hk
      · exact key hk
      · exact ⟨s, List.mem_singleton.mp hk⟩
  · rw [valV_put]
    by_cases e : t = s
    · rw [e, if_pos rfl, if_pos rfl, if_neg hz]
    · rw [if_neg (fun q => e (Sum.inl.inj q)), if_neg e]
      exact h.val t
theorem DictIs.get {kvs : List (Key × V)} {f : Int → Int} (h : DictIs kvs f) (s : Int) : (valV kvs (Sum.inl s)).getD (.int 0) = .int (f s) := by
  rw [h.val s]
  by_cases e : f s = 0
  · rw [if_pos e, e]; rfl
  · rw [if_neg e]; rfl
theorem valV_mem {kvs : List (Key × V)} (nd : (kvs.map (·.1)).Nodup) {p : Key × V} (hp : p ∈ kvs) : valV kvs p.1 = some p.2 := by
  induction kvs with
  | nil => cases hp
  | cons q r ih =>
    rw [List.map_cons, List.nodup_cons] at nd
    rcases List.mem_cons.mp hp with rfl | hp
    · exact valV_pos rfl
    · rw [valV_neg (fun e => nd.1 (by rw [e]; exact List.mem_map.mpr ⟨p, hp, rfl⟩))]
      exact ih nd.2 hp
/-- two dicts of the same counts are equal -/
theorem DictIs.ne {H : Hp} {a b : Addr} {ks ls : List (Key × V)} {f g : Int → Int} {Q : V → Hp → Prop} (ha : H a = some (.dK ks)) (hb : H b = some (.dK ls)) (h1 : DictIs ks f) (h2 : DictIs ls g) (e : ∀ s, f s = g s) (q : Q (.bl false) H) : rNeDA (.ref a) (.ref b) H Q := by
  have mem : ∀ {ks ls : List (Key × V)} {f g : Int → Int}, DictIs ks f → DictIs ls g → (∀ s, f s = g s) → ∀ k, k ∈ ks.map (·.1) → k ∈ ls.map (·.1) := fun {ks ls f g} h1 h2 e k hk => by
    obtain ⟨p, hp, rfl⟩ := List.mem_map.mp hk
    obtain ⟨s, hs⟩ := h1.allI p hp
    have hv := valV_mem h1.nd hp
    rw [hs, h1.val s] at hv
    have hw := h2.val s
    rw [← e s] at hw
    by_cases z : f s = 0
    · rw [if_pos z] at hv; cases hv
    · rw [if_neg z] at hw
      show p.1 ∈ _
      rw [hs]
      exact valV_in hw
  refine ⟨a, b, ks, ls, rfl, rfl, ha, hb, ?_, fun p hp => ?_, q⟩
  · have hp := (List.perm_ext_iff_of_nodup h1.nd h2.nd).mpr fun k => ⟨mem h1 h2 e k, mem h2 h1 (fun s => (e s).symm) k⟩
    have := hp.length_eq
    rw [List.length_map, List.length_map] at this
    exact this
  · obtain ⟨s, hs⟩ := h1.allI p hp
    have hv := valV_mem h1.nd hp
    rw [hs, h1.val s] at hv
    by_cases z : f s = 0
    · rw [if_pos z] at hv; cases hv
    · rw [if_neg z] at hv
      have hw := h2.val s
      rw [← e s, if_neg z] at hw
      rw [hs, hw, ← hv]
      have ep : p.2 = .int (f s) := (Option.some.inj hv).symm
      exact ⟨rfl, by rw [ep]; rfl⟩
theorem DictIs.congr {kvs : List (Key × V)} {f g : Int → Int} (h : DictIs kvs f) (e : ∀ s, f s = g s) : DictIs kvs g := ⟨h.nd, h.allI, fun s => by rw [h.val s, e s]⟩
end My

namespace My
open PySem PySem.Spec PyProof.Rows L2 Pre
section
variable {P : Program} {w : World} {K : PySem.W.Frag} {mg : Str → Option Value} {base : Heap}
def sp_check_number : Sp := fun vs H Q _ => ∃ (i lo : Int) (hi : Option Int), vs = [.int i, .int lo, (match hi with | some j => .int j | none => .non)] ∧ lo ≤ i ∧ (∀ j, hi = some j → i ≤ j) ∧ Q .non H
theorem G_check_number (T : Top K mg) : FnOk P w K mg base CX0 3 T.f_check_number T.fd_check_number ["number", "low", "high"] sp_check_number := by
  refine T.F_check_number.ok sc_check_number (fun vs H Q E h => by obtain ⟨i, lo, hi, rfl, _⟩ := h; rfl) (fun cdv A outer s H vs Q E hr h => ?_)
  obtain ⟨i, lo, hi, rfl, h0, h1, q⟩ := h
  refine ⟨_, PSs.nox (pss_one (ps_if (pt_not (pt_val (pe_call (G_is_between T) (hr.mono (by decide)) (by rfl) T.g_is_between T.F_is_between.kp T.b_is_between .nil pass0 (pa_cons (pv 0) (pa_cons (pv 1) (pa_cons (pv 2) pa_nil))))))
    (pss_one ps_never)
    pss_nil)), ?_⟩
  refine ⟨_, rfl, _, rfl, _, rfl, i, lo, hi, rfl, _, rfl, ?_⟩
  rw [decide_eq_true ⟨h0, h1⟩]
  exact iteF q
def sp_check_width : Sp := fun vs H Q _ => ∃ i d : Int, vs = [.int i, .int d] ∧ 0 ≤ i ∧ i ≤ d ∧ Q .non H
theorem G_check_width (T : Top K mg) : FnOk P w K mg base CX0 3 T.f_check_width T.fd_check_width ["width", "depth"] sp_check_width := by
  refine T.F_check_width.ok sc_check_width (fun vs H Q E h => by obtain ⟨i, d, rfl, _⟩ := h; rfl) (fun cdv A outer s H vs Q E hr h => ?_)
  obtain ⟨i, d, rfl, h0, h1, q⟩ := h
  refine ⟨_, PSs.nox (pss_one (ps_if (pt_not (pt_val (pe_call (G_is_between T) (hr.mono (by decide)) (by rfl) T.g_is_between T.F_is_between.kp T.b_is_between .nil pass0 (pa_cons (pv 0) (pa_cons pe_int (pa_cons (pv 1) pa_nil))))))
    (pss_one ps_never)
    pss_nil)), ?_⟩
  refine ⟨_, rfl, _, rfl, i, 0, some d, rfl, _, rfl, ?_⟩
  rw [decide_eq_true ⟨h0, fun j h => by cases h; exact h1⟩]
  exact iteF q
def sp_chosen : Sp := fun vs H Q _ => ∃ m f : Nat, vs = [.int m, .int f] ∧ m ≤ 10 ^ 9 ∧ Q (.int (chosenN m f : Nat)) H
theorem G_chosen (T : Top K mg) : FnOk P w K mg base CX0 1 T.f_chosen T.fd_chosen ["many", "few"] sp_chosen := by
  refine T.F_chosen.ok sc_chosen (fun vs H Q E h => by obtain ⟨m, f, rfl, _⟩ := h; rfl) (fun cdv A outer s H vs Q E hr h => ?_)
  obtain ⟨m, f, rfl, hm, q⟩ := h
  refine ⟨_, PSs.nox (pss_cons (ps_if (pt_cmpR op_gt (pv 1) (pv 0) (nomark _))
    (pss_one (ps_ret pe_int))
    pss_nil)
  (pss_cons (ps_set (i := 2) sc_chosen.nd rfl (by first | exact Or.inl rfl | exact Or.inr rfl) pe_int)
  (pss_cons (ps_for PassesOwn.never rfl (pi_range1 (by rfl) T.n_range (pa_cons (pv 1) pa_nil)) (pg_name (i := 3) sc_chosen.nd rfl (by first | exact Or.inl rfl | exact Or.inr rfl))
    (pss_one (ps_set (i := 2) sc_chosen.nd rfl (by first | exact Or.inl rfl | exact Or.inr rfl) (pe_op op_fdivW (pe_op op_mul (pv 2) (pe_op op_sub (pv 0) (pv 3))) (pe_op op_add (pv 3) pe_int)))))
  (pss_one (ps_ret (pv 2)))))), ?_⟩
  unfold chosenN at q
  refine ⟨_, rfl, _, rfl, _, _, rfl, rfl, _, rfl, ite2 (fun e => ?_) (fun e => ?_)⟩
  · have e1 : (f : Int) > (m : Int) := of_decide_eq_true e
    rw [if_pos (by omega)] at q
    exact q
  · have e1 : ¬ (f : Int) > (m : Int) := fun h => e (decide_eq_true h)
    rw [if_neg (by omega)] at q
    refine ⟨_, rfl, _, rfl, by omega, by omega, ?_⟩
    rw [Int.toNat_natCast]
    refine for_range (lo := 0) (n := f) (fun i σ H1 => ∃ v, σ = [some (.int m), some (.int f), some (.int (choN m i : Nat)), v] ∧ H1 = H) ⟨none, rfl, rfl⟩ ?_ ?_
    · rintro i σ H1 hi ⟨v, rfl, rfl⟩
      refine ⟨_, rfl, _, rfl, _, rfl, _, _, rfl, rfl, _, _, rfl, rfl, .inr ⟨by omega, by omega⟩, _, rfl, _, _, rfl, rfl, _, _, rfl, rfl, wide_div (b := 60) (by omega) (by omega) (by decide) (by decide), ?_⟩
      refine ⟨some (.int (0 + (i : Int))), ?_, rfl⟩
      have e2 : ((choN m i : Nat) : Int) * ((m : Int) - (0 + (i : Int))) / (0 + (i : Int) + 1) = ((choN m (i + 1) : Nat) : Int) := by
        show _ = ((choN m i * (m - i) / (i + 1) : Nat) : Int)
        rw [Int.natCast_ediv, Int.natCast_mul, Int.zero_add, show ((m - i : Nat) : Int) = (m : Int) - (i : Int) by omega]
        rfl
      show [some (V.int (m : Int)), some (.int f), some (.int (((choN m i : Nat) : Int) * ((m : Int) - (0 + (i : Int))) / (0 + (i : Int) + 1))), some (.int (0 + (i : Int)))] = _
      rw [e2]
    · rintro σ H1 ⟨v, rfl, rfl⟩
      exact ⟨_, rfl, q⟩
def sp_sums_below : Sp := fun vs H Q _ => ∃ (m b : Nat) (t : Int), vs = [.int m, .int b, .int t] ∧ m ≤ 1000 ∧ 1 ≤ b ∧ b ≤ 2 ^ 40 ∧ t ≤ 10 ^ 6 ∧ Mild m b t ∧ Q (.int (sumsF m b t)) H
theorem min_if (a b : Int) : (if b < a then b else a) = min a b := by omega
theorem G_sums_below (T : Top K mg) : FnOk P w K mg base CX0 2 T.f_sums_below T.fd_sums_below ["many", "bound", "total"] sp_sums_below := by
  refine T.F_sums_below.ok sc_sums_below (fun vs H Q E h => by obtain ⟨m, b, t, rfl, _⟩ := h; rfl) (fun cdv A outer s H vs Q E hr h => ?_)
  obtain ⟨m, b, t, rfl, hm, hb, hb2, ht, hM, q⟩ := h
  refine ⟨_, PSs.nox (pss_cons (ps_if (PW.pt (pw_or (pt_cmpR op_eq (pv 0) pe_int (nomark _)) (pw_or1 (pt_cmpR op_lt (pv 2) pe_int (nomark _)))))
    (pss_one (ps_ret (pe_callTy call_int1 (by rfl) T.n_int (by decide +kernel) (pa_cons (pe_and (pe_cmpR op_eq (pv 0) pe_int (nomark _)) (pe_one (pe_cmpR op_eq (pv 2) pe_int (nomark _)))) pa_nil))))
    pss_nil)
  (pss_cons (ps_set (i := 3) sc_sums_below.nd rfl (by first | exact Or.inl rfl | exact Or.inr rfl) pe_int)
  (pss_cons (ps_for PassesOwn.never rfl (pi_range1 (by rfl) T.n_range (pa_cons (pe_op op_add (pe_callB (call_min2 rfl) (by rfl) T.n_min (by decide +kernel) (pa_cons (pv 0) (pa_cons (pe_op op_fdivW (pv 2) (pv 1)) pa_nil))) pe_int) pa_nil)) (pg_name (i := 4) sc_sums_below.nd rfl (by first | exact Or.inl rfl | exact Or.inr rfl))
    (pss_cons (ps_set (i := 5) sc_sums_below.nd rfl (by first | exact Or.inl rfl | exact Or.inr rfl) (pe_op op_mul (pe_call (G_chosen T) (hr.mono (by decide)) (by rfl) T.g_chosen T.F_chosen.kp T.b_chosen .nil pass0 (pa_cons (pv 0) (pa_cons (pv 4) pa_nil))) (pe_call (G_chosen T) (hr.mono (by decide)) (by rfl) T.g_chosen T.F_chosen.kp T.b_chosen .nil pass0 (pa_cons (pe_op op_sub (pe_op op_add (pe_op op_sub (pv 2) (pe_op op_mul (pv 4) (pv 1))) (pv 0)) pe_int) (pa_cons (pe_op op_sub (pv 0) pe_int) pa_nil)))))
  (pss_one (ps_set (i := 3) sc_sums_below.nd rfl (by first | exact Or.inl rfl | exact Or.inr rfl) (pe_op op_add (pv 3) (pe_ifExp (pt_cmpR op_eq (pe_op op_mod (pv 4) pe_int) pe_int (nomark _)) (pv 5) (pe_op op_sub pe_int (pv 5))))))))
  (pss_one (ps_ret (pv 3)))))), ?_⟩
  unfold sumsF at q
  refine ⟨_, rfl, rfl, _, rfl, ?_⟩
  by_cases h0 : m = 0 ∨ t < 0
  · rw [if_pos h0] at q
    have fin : ∀ c, c = decide (m = 0 ∧ t = 0) → Q (.int (if c = true then 1 else 0)) H := fun c hc => by
      subst hc
      by_cases h : m = 0 ∧ t = 0
      · rw [if_pos h] at q
        rw [decide_eq_true h]
        exact q
      · rw [if_neg h] at q
        rw [decide_eq_false h]
        exact q
    have body : ∀ σ, σ = [some (V.int (m : Int)), some (.int b), some (.int t), none, none, none] → (tRet (tCB (fun xs H Q => (∃ i, xs = [.int i] ∧ Q (.int i) H) ∨ ∃ k, xs = [.bl k] ∧ Q (.int (if k then 1 else 0)) H) (tCons (tAndV (tOp rEq (tVar 0) (tC (.int 0))) (tOp rEq (tVar 2) (tC (.int 0)))) tNil))) { nx := fun _ H' => Q .non H', rt := Q } σ H := by
      rintro σ rfl
      refine ⟨_, rfl, rfl, _, rfl, ?_⟩
      by_cases hm0 : m = 0
      · rw [decide_eq_true (show V.int (m : Int) = V.int 0 by rw [hm0]; rfl)]
        refine iteT ⟨_, rfl, rfl, .inr ⟨_, rfl, ?_⟩⟩
        refine fin _ ?_
        by_cases ht0 : t = 0
        · rw [decide_eq_true (by rw [ht0]), decide_eq_true ⟨hm0, ht0⟩]
        · rw [decide_eq_false (fun z => ht0 (V.int.inj z)), decide_eq_false (fun z => ht0 z.2)]
      · rw [decide_eq_false (fun z => hm0 (by have := V.int.inj z; omega))]
        refine iteF (.inr ⟨_, rfl, ?_⟩)
        refine fin _ ?_
        rw [decide_eq_false (fun z => hm0 z.1)]
    by_cases hm0 : m = 0
    · rw [decide_eq_true (show V.int (m : Int) = V.int 0 by rw [hm0]; rfl)]
      exact iteT (body _ rfl)
    · rw [decide_eq_false (fun z => hm0 (by have := V.int.inj z; omega))]
      refine iteF ⟨_, rfl, _, _, rfl, rfl, _, rfl, ?_⟩
      rw [decide_eq_true (show t < 0 by omega)]
      exact iteT (body _ rfl)
  · rw [if_neg h0] at q
    rw [decide_eq_false (fun z => h0 (.inl (by have := V.int.inj z; omega)))]
    refine iteF ⟨_, rfl, _, _, rfl, rfl, _, rfl, ?_⟩
    rw [decide_eq_false (show ¬ t < 0 by omega)]
    refine iteF ?_
    obtain ⟨e, rfl⟩ : ∃ e : Nat, t = (e : Int) := ⟨t.toNat, by omega⟩
    rw [Int.toNat_natCast] at q
    obtain ⟨hM1, _⟩ := hM
    rw [Int.toNat_natCast] at hM1
    have hdiv : (e : Int) / (b : Int) = ((e / b : Nat) : Int) := (Int.natCast_ediv e b).symm
    have hq : e / b ≤ e := Nat.div_le_self _ _
    have hqb : e / b * b ≤ e := Nat.div_mul_le_self e b
    generalize e / b = qq at q hM1 hdiv hq hqb
    refine ⟨_, rfl, _, rfl, _, rfl, _, _, rfl, rfl, wide_div (b := 60) (by omega) (by omega) (by decide) (by decide), _, _, rfl, ?_⟩
    rw [min_if, hdiv]
    refine ⟨_, _, rfl, rfl, _, rfl, by omega, by omega, ?_⟩
    have en : (min (m : Int) (qq : Int) + 1).toNat = min m qq + 1 := by omega
    rw [en]
    refine for_range (lo := 0) (n := min m qq + 1) (fun i σ H1 => ∃ v4 v5, σ = [some (.int m), some (.int b), some (.int e), some (.int (sumTo m b e i)), v4, v5] ∧ H1 = H) ⟨none, none, rfl, rfl⟩ ?_ ?_
    · rintro i σ H1 hi ⟨v4, v5, rfl, rfl⟩
      have hib : i * b ≤ e := Nat.le_trans (Nat.mul_le_mul_right b (show i ≤ qq by omega)) hqb
      have hc := hM1 i (by omega)
      refine ⟨_, rfl, _, rfl, m, i, ?_, by omega, ?_⟩
      · show [V.int (m : Int), V.int (0 + (i : Int))] = _
        rw [Int.zero_add]
      refine ⟨_, rfl, _, rfl, _, rfl, _, _, rfl, rfl, .inl ⟨by omega, by omega⟩, _, _, rfl, rfl, _, rfl, _, _, rfl, rfl, _, _, rfl, rfl, _, rfl, _, _, rfl, rfl, e - i * b + m - 1, m - 1, ?_, by omega, ?_⟩
      · have e1 : (e : Int) - (0 + (i : Int)) * (b : Int) + (m : Int) - 1 = ((e - i * b + m - 1 : Nat) : Int) := by
          have e3 : ((i * b : Nat) : Int) = (i : Int) * (b : Int) := Int.natCast_mul i b
          rw [Int.zero_add, ← e3]
          omega
        have e2 : (m : Int) - 1 = ((m - 1 : Nat) : Int) := by omega
        show [V.int ((e : Int) - (0 + (i : Int)) * (b : Int) + (m : Int) - 1), V.int ((m : Int) - 1)] = _
        rw [e1, e2]
      refine ⟨_, _, rfl, rfl, .inl ⟨by omega, by omega⟩, ?_⟩
      have ep : ((chosenN m i : Nat) : Int) * ((chosenN (e - i * b + m - 1) (m - 1) : Nat) : Int) = ((partN m b e i : Nat) : Int) := (Int.natCast_mul _ _).symm
      dsimp only
      rw [ep]
      refine ⟨_, rfl, _, rfl, _, _, rfl, rfl, (by show (0 : Int) < 2; decide), rfl, _, rfl, ?_⟩
      have em : ((0 + (i : Int)) % 2 = 0) ↔ i % 2 = 0 := by omega
      by_cases hpar : i % 2 = 0
      · rw [decide_eq_true (congrArg V.int (em.mpr hpar))]
        refine iteT ⟨_, rfl, _, _, rfl, rfl, some (.int (0 + (i : Int))), some (.int (partN m b e i : Nat)), ?_, rfl⟩
        show _ = [some (V.int (m : Int)), some (.int b), some (.int e), some (.int (sumTo m b e i + (if i % 2 = 0 then (partN m b e i : Int) else 0 - (partN m b e i : Int)))), _, _]
        rw [if_pos hpar]
        rfl
      · rw [decide_eq_false (fun z => hpar (em.mp (V.int.inj z)))]
        refine iteF ⟨_, rfl, _, _, rfl, rfl, _, _, rfl, rfl, some (.int (0 + (i : Int))), some (.int (partN m b e i : Nat)), ?_, rfl⟩
        show _ = [some (V.int (m : Int)), some (.int b), some (.int e), some (.int (sumTo m b e i + (if i % 2 = 0 then (partN m b e i : Int) else 0 - (partN m b e i : Int)))), _, _]
        rw [if_neg hpar]
        rfl
    · rintro σ H1 ⟨v4, v5, rfl, rfl⟩
      exact ⟨_, rfl, q⟩
def sp_how_many : Sp := fun vs H Q _ => ∃ (d i m : Nat) (s : Int), vs = [.int d, .int i, .int m, .int s] ∧ 1 ≤ d ∧ d ≤ 24 ∧ i ≤ d ∧ m ≤ 200 ∧ 0 ≤ s ∧ s ≤ 10 ^ 6 ∧ Mild m (2 ^ (d - i)) (s - m * (i + 1)) ∧ Q (.int (howF d i m s)) H
theorem sub_toNat {d i : Nat} (h : i ≤ d) : ((d : Int) - (i : Int)).toNat = d - i := by omega
theorem one_shl {k : Nat} {d : Nat} (h : d = k) : ((1 : Int) * 2 ^ d) = ((2 ^ k : Nat) : Int) := by rw [h, Int.one_mul, Int.natCast_pow]; rfl
theorem G_how_many (T : Top K mg) : FnOk P w K mg base CX0 4 T.f_how_many T.fd_how_many ["depth", "width", "many", "size"] sp_how_many := by
  refine T.F_how_many.ok sc_how_many (fun vs H Q E h => by obtain ⟨d, i, m, z, rfl, _⟩ := h; rfl) (fun cdv A outer s H vs Q E hr h => ?_)
  obtain ⟨d, i, m, z, rfl, h0, h1, h2, h3, h4, h5, hM, q⟩ := h
  refine ⟨_, PSs.nox (pss_cons (ps_expr (pe_call (G_check_depth T) (hr.mono (by decide)) (by rfl) T.g_check_depth T.F_check_depth.kp T.b0_check_depth T.v0_check_depth pass0 (pa_cons (pv 0) pa_nil)))
  (pss_cons (ps_expr (pe_call (G_check_width T) (hr.mono (by decide)) (by rfl) T.g_check_width T.F_check_width.kp T.b_check_width .nil pass0 (pa_cons (pv 1) (pa_cons (pv 0) pa_nil))))
  (pss_cons (ps_expr (pe_call (G_check_number T) (hr.mono (by decide)) (by rfl) T.g_check_number T.F_check_number.kp T.b_check_number .nil pass0 (pa_cons (pv 2) (pa_cons pe_int (pa_cons (pe_glob (v := .int 200) rfl T.m_MOST_MANY ⟨_, rfl⟩) pa_nil)))))
  (pss_cons (ps_expr (pe_call (G_check_number T) (hr.mono (by decide)) (by rfl) T.g_check_number T.F_check_number.kp T.b_check_number .nil pass0 (pa_cons (pv 3) (pa_cons pe_int (pa_cons pe_non pa_nil)))))
  (pss_cons (ps_set (i := 4) sc_how_many.nd rfl (by first | exact Or.inl rfl | exact Or.inr rfl) (pe_op op_sub (pv 3) (pe_op op_mul (pv 2) (pe_op op_add (pv 1) pe_int))))
  (pss_one (ps_ret (pe_op op_mul (pe_call (G_sums_below T) (hr.mono (by decide)) (by rfl) T.g_sums_below T.F_sums_below.kp T.b_sums_below .nil pass0 (pa_cons (pv 2) (pa_cons (pe_op op_shl pe_int (pe_op op_sub (pv 0) (pv 1))) (pa_cons (pv 4) pa_nil)))) (pe_op op_shl pe_int (pe_op op_mul (pv 1) (pv 2))))))))))), ?_⟩
  refine ⟨_, rfl, _, _, rfl, by omega, by omega, ?_⟩
  refine ⟨_, rfl, _, rfl, _, _, rfl, by omega, by omega, ?_⟩
  refine ⟨_, rfl, _, 0, some 200, rfl, by omega, fun j h => by cases h; omega, ?_⟩
  refine ⟨_, rfl, _, 0, none, rfl, by omega, (fun j h => nomatch h), ?_⟩
  refine ⟨_, rfl, _, rfl, _, rfl, _, _, rfl, rfl, _, _, rfl, rfl, .inl ⟨by omega, by omega⟩, _, _, rfl, rfl, ?_⟩
  have hp : 2 ^ (d - i) ≤ 2 ^ 24 := Nat.pow_le_pow_right (by decide) (by omega)
  have hp1 : 0 < 2 ^ (d - i) := Nat.pow_pos (by decide)
  have hmi : (0 : Int) ≤ (m : Int) * ((i : Int) + 1) := Int.mul_nonneg (by omega) (by omega)
  have hmi2 : i * m ≤ 24 * 200 := Nat.mul_le_mul (by omega) h3
  have hmi3 : ((i * m : Nat) : Int) = (i : Int) * (m : Int) := Int.natCast_mul i m
  refine ⟨_, rfl, _, rfl, _, rfl, _, _, rfl, rfl, _, _, rfl, rfl, ⟨by omega, by omega, by decide⟩, _, rfl, m, 2 ^ (d - i), z - m * (i + 1), ?_, by omega, by omega, by omega, by omega, hM, ?_⟩
  · show [V.int (m : Int), V.int (1 * 2 ^ ((d : Int) - (i : Int)).toNat), V.int (z - (m : Int) * ((i : Int) + 1))] = _
    rw [one_shl (sub_toNat h2)]
  refine ⟨_, rfl, _, rfl, _, _, rfl, rfl, .inl ⟨by omega, by omega⟩, _, _, rfl, rfl, ⟨by omega, by omega, by decide⟩, _, _, rfl, rfl, .inl ⟨hM.2.1, hM.2.2⟩, ?_⟩
  show Q (.int (sumsF m (2 ^ (d - i)) (z - m * (i + 1)) * (1 * 2 ^ ((i : Int) * (m : Int)).toNat))) H
  rw [← hmi3, Int.toNat_natCast, Int.one_mul]
  exact q
def sp_size_bounds : Sp := fun vs H Q _ => ∃ (d i m : Nat), vs = [.int d, .int i, .int m] ∧ 1 ≤ d ∧ d ≤ 24 ∧ i ≤ d ∧ m ≤ 200 ∧ ∀ H' p, Same H H' → H' p = some (.tup ([(m : Int) * (i + 1), (m : Int) * (i + 2 ^ (d - i))].map V.int)) → Q (.ref p) H'
theorem G_size_bounds (T : Top K mg) : FnOk P w K mg base CX0 4 T.f_size_bounds T.fd_size_bounds ["depth", "width", "many"] sp_size_bounds := by
  refine T.F_size_bounds.ok sc_size_bounds (fun vs H Q E h => by obtain ⟨d, i, m, rfl, _⟩ := h; rfl) (fun cdv A outer s H vs Q E hr h => ?_)
  obtain ⟨d, i, m, rfl, h0, h1, h2, h3, q⟩ := h
  refine ⟨_, PSs.nox (pss_cons (ps_expr (pe_call (G_check_depth T) (hr.mono (by decide)) (by rfl) T.g_check_depth T.F_check_depth.kp T.b0_check_depth T.v0_check_depth pass0 (pa_cons (pv 0) pa_nil)))
  (pss_cons (ps_expr (pe_call (G_check_width T) (hr.mono (by decide)) (by rfl) T.g_check_width T.F_check_width.kp T.b_check_width .nil pass0 (pa_cons (pv 1) (pa_cons (pv 0) pa_nil))))
  (pss_cons (ps_expr (pe_call (G_check_number T) (hr.mono (by decide)) (by rfl) T.g_check_number T.F_check_number.kp T.b_check_number .nil pass0 (pa_cons (pv 2) (pa_cons pe_int (pa_cons (pe_glob (v := .int 200) rfl T.m_MOST_MANY ⟨_, rfl⟩) pa_nil)))))
  (pss_one (ps_ret (pe_tup (pa_cons (pe_op op_mul (pv 2) (pe_op op_add (pv 1) pe_int)) (pa_cons (pe_op op_mul (pv 2) (pe_op op_add (pv 1) (pe_op op_shl pe_int (pe_op op_sub (pv 0) (pv 1))))) pa_nil)))))))), ?_⟩
  refine ⟨_, rfl, _, _, rfl, by omega, by omega, ?_⟩
  refine ⟨_, rfl, _, rfl, _, _, rfl, by omega, by omega, ?_⟩
  refine ⟨_, rfl, _, 0, some 200, rfl, by omega, fun j h => by cases h; omega, ?_⟩
  refine ⟨_, rfl, _, rfl, _, _, rfl, rfl, _, _, rfl, rfl, .inl ⟨by omega, by omega⟩, _, rfl, _, rfl, _, rfl, _, rfl, _, _, rfl, rfl, _, _, rfl, rfl, ⟨by omega, by omega, by decide⟩, _, _, rfl, rfl, _, _, rfl, rfl, .inl ⟨by omega, by omega⟩, (show 2 ≤ sizeLine by decide), fun p np => ?_⟩
  dsimp only
  rw [sub_toNat h2, Int.one_mul]
  exact q _ p (same_upd np) upd_same
end
end My

namespace My
open PySem PySem.Spec PyProof.Rows L2 Pre
theorem pow_pred {d : Nat} (h : 1 ≤ d) : (1 : Int) * 2 ^ ((d : Int) - 1).toNat = 2 ^ (d - 1) := by rw [pred_toNat h, Int.one_mul]
/-- a list of lists of whole numbers -/
def RowsAt (H : Hp) (p : Addr) (rows : List (List Int)) : Prop := ∃ as : List Addr, H p = some (.lst (as.map V.ref)) ∧ as.length = rows.length ∧ ∀ (i : Nat) (a : Addr) (r : List Int), as[i]? = some a → rows[i]? = some r → H a = some (.lst (r.map V.int))
theorem RowsAt.same {H H' : Hp} {p : Addr} {rows : List (List Int)} (h : RowsAt H p rows) (s : Same H H') : RowsAt H' p rows := by
  obtain ⟨as, h1, h2, h3⟩ := h
  exact ⟨as, s _ _ h1, h2, fun i a r ha hr => s _ _ (h3 i a r ha hr)⟩
theorem flat_take {α β : Type} (f : α → List β) {l : List α} {i : Nat} {x : α} (h : l[i]? = some x) : (l.take (i + 1)).flatMap f = (l.take i).flatMap f ++ f x := by
  rw [List.take_add_one, h, List.flatMap_append]
  simp
theorem rows_len (d : Nat) (h : d ≤ 3) : ∀ m, m ≤ 3 → (allRows d m).length ≤ 8 ^ m
  | 0, _ => by simp [allRows]
  | m + 1, hm => by
    have ih := rows_len d h m (by omega)
    have hs : (smp d).length ≤ 8 := by
      unfold smp
      rw [List.length_map, List.length_range]
      have : 2 ^ (d - 1) ≤ 2 ^ 2 := Nat.pow_le_pow_right (by decide) (by omega)
      omega
    have e : ∀ l : List (List Int), (l.flatMap fun r => (smp d).map fun s => r ++ [s]).length = l.length * (smp d).length := fun l => by
      induction l with
      | nil => simp
      | cons x r ih => rw [List.flatMap_cons, List.length_append, List.length_map, ih, List.length_cons, Nat.succ_mul]; omega
    show ((allRows d m).flatMap _).length ≤ 8 ^ (m + 1)
    rw [e, Nat.pow_succ]
    exact Nat.mul_le_mul ih hs
section
variable {P : Program} {w : World} {K : PySem.W.Frag} {mg : Str → Option Value} {base : Heap}
def sp_law_folded : Sp := fun vs H Q _ => ∃ n : Int, vs = [.int n] ∧ Q (.int (foldI n)) H
theorem G_law_folded (T : Top K mg) : FnOk P w K mg base CX0 1 T.f_law_folded T.fd_law_folded ["_law_number"] sp_law_folded := by
  refine T.F_law_folded.ok sc_law_folded (fun vs H Q E h => by obtain ⟨n, rfl, _⟩ := h; rfl) (fun cdv A outer s H vs Q E hr h => ?_)
  obtain ⟨n, rfl, q⟩ := h
  refine ⟨_, PSs.nox (pss_one (ps_ret (pe_ifExp (pt_cmpR op_ge (pv 0) pe_int (nomark _)) (pe_op op_mul pe_int (pv 0)) (pe_op op_sub (pe_op op_mul (pe_un un_neg pe_int) (pv 0)) pe_int)))), ?_⟩
  unfold foldI at q
  refine ⟨_, rfl, _, _, rfl, rfl, _, rfl, ?_⟩
  by_cases h : n ≥ 0
  · rw [decide_eq_true h]
    rw [if_pos h] at q
    exact iteT ⟨_, rfl, _, _, rfl, rfl, .inl ⟨by decide, by decide⟩, q⟩
  · rw [decide_eq_false h]
    rw [if_neg h] at q
    exact iteF ⟨_, rfl, _, rfl, _, _, rfl, rfl, .inl ⟨by decide, by decide⟩, _, _, rfl, rfl, q⟩
def sp_law_weights : Sp := fun vs H Q _ => ∃ (g : Addr) (m : Nat) (n : Nat), vs = [.ref g, .int m] ∧ GenAt H g n ∧ n ≤ 10 ^ 9 ∧ m ≤ 8 ∧
  ∀ H' p ws, But g H H' → H p = none → H' p = some (.lst (ws.map V.int)) → GenAt H' g (n + 10000) → Weights ws → Q (.ref p) H'
theorem G_law_weights (T : Top K mg) : FnOk P w K mg base CX0 3 T.f_law_weights T.fd_law_weights ["_law_generator_here", "_law_many"] sp_law_weights := by
  refine T.F_law_weights.ok sc_law_weights (fun vs H Q E h => by obtain ⟨g, m, n, rfl, _⟩ := h; rfl) (fun cdv A outer s H vs Q E hr h => ?_)
  obtain ⟨g, m, n, rfl, hG, hn, hm, q⟩ := h
  refine ⟨_, PSs.nox (pss_cons (ps_set (i := 2) sc_law_weights.nd rfl (by first | exact Or.inl rfl | exact Or.inr rfl) (pe_lst pa_nil))
  (pss_cons (ps_for PassesOwn.never rfl (pi_range1 (by rfl) T.n_range (pa_cons (pv 1) pa_nil)) (pg_name (i := 3) sc_law_weights.nd rfl (by first | exact Or.inl rfl | exact Or.inr rfl))
    (pss_cons (ps_par (by rfl) sc_law_weights.nd (i := 4) (j := 5) rfl rfl (by decide) rfl rfl (pa_cons (pe_op op_sub (pe_call (G_law_random T) (hr.mono (by decide)) (by rfl) T.g_law_random T.F_law_random.kp T.b_law_random .nil pass0 (pa_cons (pv 0) (pa_cons (pe_op op_add (pe_op op_powW pe_int pe_int) pe_int) pa_nil))) (pe_op op_powW pe_int pe_int)) (pa_cons (pe_call (G_law_random T) (hr.mono (by decide)) (by rfl) T.g_law_random T.F_law_random.kp T.b_law_random .nil pass0 (pa_cons (pv 0) (pa_cons pe_int pa_nil))) pa_nil)) (by rfl))
  (pss_one (ps_expr (pe_bm PySem.F.plainAttrs_list PySem.F.slot_list_append PySem.F.type_list_append mt_append (pv 2) (pa_cons (pe_ix (k_ixL K rfl) (pe_lst (pa_cons (pe_op op_sub (pe_call (G_law_random T) (hr.mono (by decide)) (by rfl) T.g_law_random T.F_law_random.kp T.b_law_random .nil pass0 (pa_cons (pv 0) (pa_cons pe_int pa_nil))) pe_int) (pa_cons (pe_op op_sub (pe_call (G_law_random T) (hr.mono (by decide)) (by rfl) T.g_law_random T.F_law_random.kp T.b_law_random .nil pass0 (pa_cons (pv 0) (pa_cons pe_int pa_nil))) pe_int) (pa_cons pe_int (pa_cons (pv 4) pa_nil))))) (pv 5) (fun _ _ => rfl)) pa_nil))))))
  (pss_one (ps_ret (pv 2))))), ?_⟩
  refine ⟨Nat.zero_le _, fun p np => ?_⟩
  have npg : p ≠ g := hG.ne np
  obtain ⟨H1, e1, s1, h1⟩ := fresh (.lst []) np
  rw [e1]
  refine ⟨_, rfl, _, rfl, by omega, by omega, ?_⟩
  rw [Int.toNat_natCast]
  refine for_range (lo := 0) (n := m) (fun i σ H2 => ∃ (v3 v4 v5 : Option V) (ws : List Int), σ = [some (.ref g), some (.int m), some (.ref p), v3, v4, v5] ∧ But g H H2 ∧ H2 p = some (.lst (ws.map V.int)) ∧ (∀ x ∈ ws, -32768 ≤ x ∧ x ≤ 32768) ∧ ws.length = i ∧ GenAt H2 g (n + 400 * i))
    ⟨none, none, none, [], rfl, But.of s1, h1, (fun _ h => nomatch h), rfl, hG.same s1⟩ ?_ ?_
  · rintro i σ H2 hi ⟨v3, v4, v5, ws, rfl, b2, hp2, hW, hl, g2⟩
    refine ⟨_, rfl, _, _, rfl, rfl, ⟨by decide, by decide +kernel⟩, _, _, rfl, rfl, g, _, _, rfl, g2, by omega, by decide, small_2900 (by decide), fun r1 H3 r10 r11 g3 b3 => ?_⟩
    refine ⟨_, _, rfl, rfl, ⟨by decide, by decide +kernel⟩, _, _, rfl, rfl, _, rfl, g, _, _, rfl, g3, by omega, by decide, small_2900 (by decide), fun kd H4 k0 k1 g4 b4 => ?_⟩
    refine ⟨_, _, rfl, ?_⟩
    have hp4 : H4 p = some (.lst (ws.map V.int)) := b4 _ _ npg (b3 _ _ npg hp2)
    refine ⟨_, rfl, .inl ⟨rfl, _, .inl (.inl hp4)⟩, ?_⟩
    refine ⟨_, rfl, g, _, _, rfl, g4, by omega, by decide, small_2900 (by decide), fun r2 H5 r20 r21 g5 b5 => ?_⟩
    refine ⟨_, _, rfl, rfl, _, rfl, g, _, _, rfl, g5, by omega, by decide, small_2900 (by decide), fun r3 H6 r30 r31 g6 b6 => ?_⟩
    refine ⟨_, _, rfl, rfl, _, rfl, (show 4 ≤ sizeLine by decide), fun c nc => ?_⟩
    have hp6 : H6 p = some (.lst (ws.map V.int)) := b6 _ _ npg (b5 _ _ npg hp4)
    have e16 : (2 : Int) ^ (16 : Int).toNat = 65536 := by decide
    have e15 : (2 : Int) ^ (15 : Int).toNat = 32768 := by decide
    rw [e16] at r11
    obtain ⟨H7, e7, s7, h7⟩ := fresh (.lst [V.int (r2 - 4), V.int (r3 - 2), V.int 0, V.int (r1 - 2 ^ (15 : Int).toNat)]) nc
    dsimp only
    rw [e7]
    have hx : ∃ y : Int, atI [V.int (r2 - 4), V.int (r3 - 2), V.int 0, V.int (r1 - 2 ^ (15 : Int).toNat)] kd = some (.int y) ∧ -32768 ≤ y ∧ y ≤ 32768 := by
      rw [e15]
      have hk : kd = 0 ∨ kd = 1 ∨ kd = 2 ∨ kd = 3 := by omega
      rcases hk with rfl | rfl | rfl | rfl
      · exact ⟨_, rfl, by omega, by omega⟩
      · exact ⟨_, rfl, by omega, by omega⟩
      · exact ⟨_, rfl, by omega, by omega⟩
      · exact ⟨_, rfl, by omega, by omega⟩
    obtain ⟨y, ay, y0, y1⟩ := hx
    refine ⟨_, rfl, c, _, _, _, rfl, rfl, .inl (.inl h7), ay, p, _, _, rfl, rfl, s7 _ _ hp6, by rw [List.length_map]; exact small1000 (by omega), ?_⟩
    have b27 : But g H2 H7 := ((((b3.trans b4).trans b5).trans b6).same s7)
    refine ⟨_, _, _, ws ++ [y], rfl, ?_, ?_, ?_, ?_, ?_⟩
    · intro b o z h
      rw [upd_ne (ne_of_none h np)]
      exact b27 _ _ z (b2 _ _ z h)
    · rw [upd_same, List.map_append]
      rfl
    · intro x hx
      rcases List.mem_append.mp hx with hx | hx
      · exact hW x hx
      · rw [List.mem_singleton.mp hx]
        exact ⟨y0, y1⟩
    · rw [List.length_append, hl]
      rfl
    · obtain ⟨x1, x2, x3, e, a1, a2⟩ := g6
      refine ⟨x1, x2, x3, ?_, a1, by omega⟩
      rw [upd_ne npg.symm]
      exact s7 _ _ e
  · rintro σ H2 ⟨v3, v4, v5, ws, rfl, b2, hp2, hW, hl, g2⟩
    exact ⟨_, rfl, q _ p ws b2 np hp2 (g2.mono (by omega)) ⟨by omega, hW⟩⟩
/-! ### all rows -/
def sp_law_all_rows : Sp := fun vs H Q _ => ∃ d m : Nat, vs = [.int d, .int m] ∧ 1 ≤ d ∧ d ≤ 3 ∧ m ≤ 3 ∧ ∀ H' p, Same H H' → RowsAt H' p (allRows d m) → Q (.ref p) H'
theorem G_law_all_rows (T : Top K mg) : FnOk P w K mg base CX0 1 T.f_law_all_rows T.fd_law_all_rows ["_law_depth", "_law_many"] sp_law_all_rows := by
  refine T.F_law_all_rows.ok sc_law_all_rows (fun vs H Q E h => by obtain ⟨d, m, rfl, _⟩ := h; rfl) (fun cdv A outer s H vs Q E hr h => ?_)
  obtain ⟨d, m, rfl, h0, h1, hm, q⟩ := h
  refine ⟨_, PSs.nox (pss_cons (ps_set (i := 2) sc_law_all_rows.nd rfl (by first | exact Or.inl rfl | exact Or.inr rfl) (pe_lst (pa_cons (pe_lst pa_nil) pa_nil)))
  (pss_cons (ps_for PassesOwn.never rfl (pi_range1 (by rfl) T.n_range (pa_cons (pv 1) pa_nil)) (pg_name (i := 3) sc_law_all_rows.nd rfl (by first | exact Or.inl rfl | exact Or.inr rfl))
    (pss_cons (ps_set (i := 4) sc_law_all_rows.nd rfl (by first | exact Or.inl rfl | exact Or.inr rfl) (pe_lst pa_nil))
  (pss_cons (ps_for PassesOwn.never rfl (k_piL K rfl (pv 2)) (pg_name (i := 5) sc_law_all_rows.nd rfl (by first | exact Or.inl rfl | exact Or.inr rfl))
    (pss_one (ps_set (i := 4) sc_law_all_rows.nd rfl (by first | exact Or.inl rfl | exact Or.inr rfl) (pe_op op_cat (pv 4) (pe_lc (own := [("_law_sample", 6)]) (g := gName 6) (tt := tYes) (by rfl) sc_law_all_rows.nd (pi_range2 (by rfl) T.n_range (pa_cons (pe_un un_neg (pe_op op_shl pe_int (pe_op op_sub (pv 0) pe_int))) (pa_cons (pe_op op_shl pe_int (pe_op op_sub (pv 0) pe_int)) pa_nil))) (blkOk_by (own := [("_law_sample", 6)]) (N := N_law_all_rows) (sc := defScope s_law_all_rows) (by decide +kernel)) (fun _ _ _ _ _ => (pg_name (i := 6) sc_law_all_rows.nd rfl (by first | exact Or.inl rfl | exact Or.inr rfl))) (fun _ _ _ _ _ => pts_nil) (fun _ _ _ _ _ => (pe_op op_cat (pv 5) (pe_lst (pa_cons (pv 6) pa_nil)))))))))
  (pss_one (ps_set (i := 2) sc_law_all_rows.nd rfl (by first | exact Or.inl rfl | exact Or.inr rfl) (pv 4))))))
  (pss_one (ps_ret (pv 2))))), ?_⟩
  have hp := pow_pos' (d - 1)
  have hp2 : (2 : Int) ^ (d - 1) ≤ 2 ^ 2 := pow2_le (by omega)
  refine ⟨Nat.zero_le _, fun c nc => ?_⟩
  obtain ⟨H1, e1, s1, h1'⟩ := fresh (.lst []) nc
  rw [e1]
  refine ⟨(show 1 ≤ sizeLine by decide), fun pf npf => ?_⟩
  obtain ⟨H2, e2, s2, h2⟩ := fresh (.lst [V.ref c]) npf
  rw [e2]
  refine ⟨_, rfl, _, rfl, by omega, by omega, ?_⟩
  rw [Int.toNat_natCast]
  refine for_range (lo := 0) (n := m) (fun i σ H3 => ∃ (v3 v4 v5 v6 : Option V) (pf : Addr), σ = [some (.int d), some (.int m), some (.ref pf), v3, v4, v5, v6] ∧ Same H H3 ∧ RowsAt H3 pf (allRows d i)) ⟨none, none, none, none, pf, rfl, s1.trans s2, ?_⟩ ?_ ?_
  · refine ⟨[c], h2, rfl, fun i a r ha hr => ?_⟩
    have hi : i = 0 := by
      have := (List.getElem?_eq_some_iff.mp ha).1
      rw [List.length_singleton] at this
      omega
    subst hi
    cases ha
    cases hr
    exact s2 _ _ h1'
  · rintro i σ H3 hi ⟨v3, v4, v5, v6, pf, rfl, s3, hR⟩
    have hrl := rows_len d h1 i (by omega)
    have h8 : 8 ^ i ≤ 8 ^ 2 := Nat.pow_le_pow_right (by decide) (by omega)
    refine ⟨Nat.zero_le _, fun pl npl => ?_⟩
    obtain ⟨H4, e4, s4, h4⟩ := fresh (.lst []) npl
    rw [e4]
    obtain ⟨as, ha, hal, hat⟩ := hR.same s4
    have hA : SqL K H4 pf (as.map V.ref) := .inl (.inl ha)
    refine ⟨_, rfl, pf, rfl, ⟨_, hA⟩, for_list (K := K) (a := pf) (xs := as.map V.ref) (fun j σ H5 => ∃ (v5 v6 : Option V) (pl : Addr), σ = [some (.int d), some (.int m), some (.ref pf), some (.int (0 + (i : Int))), some (.ref pl), v5, v6] ∧ Same H4 H5 ∧ RowsAt H5 pl (((allRows d i).take j).flatMap fun r => (smp d).map fun s => r ++ [s])) ⟨_, _, pl, rfl, Same.refl _, [], h4, rfl, fun i a r ha hr => by simp at ha⟩ (fun j σ H5 _ ⟨_, _, _, _, s, _⟩ => s.seq hA) ?_ ?_⟩
    · rintro j x σ H5 hx ⟨v5, v6, pl, rfl, s5, hL⟩
      rw [List.getElem?_map] at hx
      obtain ⟨a, ha', rfl⟩ := Option.map_eq_some_iff.mp hx
      have hj : j < as.length := (List.getElem?_eq_some_iff.mp ha').1
      obtain ⟨r, hr⟩ : ∃ r, (allRows d i)[j]? = some r := ⟨_, List.getElem?_eq_getElem (by omega)⟩
      have hra : H5 a = some (.lst (r.map V.int)) := s5 _ _ (hat j a r ha' hr)
      have hrm := (mem_rows.mp (List.mem_of_getElem? hr)).1
      obtain ⟨bs, hb, hbl, hbt⟩ := hL
      -- the comprehension
      refine ⟨_, rfl, ?_⟩
      refine ⟨_, rfl, _, _, rfl, rfl, _, _, rfl, rfl, ⟨by omega, by omega, by decide⟩, _, rfl, _, rfl, _, _, rfl, rfl, _, _, rfl, rfl, ⟨by omega, by omega, by decide⟩, ?_⟩
      refine ⟨-(1 * 2 ^ ((d : Int) - 1).toNat), 1 * 2 ^ ((d : Int) - 1).toNat, rfl, ?_⟩
      rw [pow_pred h0]
      refine ⟨⟨by omega, by omega, by omega, by omega⟩, fun D nD => ?_⟩
      have en : ((2 : Int) ^ (d - 1) - -(2 ^ (d - 1))).toNat = 2 * 2 ^ (d - 1) := by
        have e : ((2 * 2 ^ (d - 1) : Nat) : Int) = 2 * 2 ^ (d - 1) := by rw [Int.natCast_mul, Int.natCast_pow]; rfl
        omega
      rw [en]
      have hn4 : 2 * 2 ^ (d - 1) ≤ 8 := by
        have : 2 ^ (d - 1) ≤ 2 ^ 2 := Nat.pow_le_pow_right (by decide) (by omega)
        omega
      refine lc_relR (lo := -(2 ^ (d - 1))) (n := 2 * 2 ^ (d - 1)) (fun k y H' => ∃ c, y = .ref c ∧ c ≠ D ∧ H' c = some (.lst ((r ++ [-(2 ^ (d - 1)) + (k : Int)]).map V.int))) nD (by rw [sizeLine_eq]; omega) ?_ (fun x => rfl) ?_ ?_
      · rintro k y Ha Hb off ⟨c, e, nc, hc⟩
        exact ⟨c, e, nc, off _ _ nc hc⟩
      · intro k H6 xs hk s6 hD6 Qt qt
        refine ⟨_, rfl, _, rfl, (show 1 ≤ sizeLine by decide), fun c1 nc1 => ?_⟩
        obtain ⟨H7, e7, s7, h7⟩ := fresh (.lst [V.int (-(2 ^ (d - 1)) + (k : Int))]) nc1
        rw [e7]
        refine ⟨a, c1, _, _, rfl, rfl, s7 _ _ (s6 _ _ hra), h7, by rw [List.length_map, sizeLine_eq]; simp; omega, fun c2 nc2 => ?_⟩
        refine qt _ _ (s7.trans (same_upd nc2)) ⟨c2, rfl, ?_, ?_⟩
        · exact (ne_of_none (s7 _ _ hD6) nc2).symm
        · rw [upd_same, List.map_append]
          rfl
      · intro H6 ys s6 hD6 hyl hyR
        have hb6 := s6 _ _ hb
        have hbn : bs.length ≤ 512 := by
          rw [hbl]
          have e : ∀ l : List (List Int), (l.flatMap fun r => (smp d).map fun s => r ++ [s]).length = l.length * (smp d).length := fun l => by
            induction l with
            | nil => simp
            | cons x r ih => rw [List.flatMap_cons, List.length_append, List.length_map, ih, List.length_cons, Nat.succ_mul]; omega
          have hsm : (smp d).length ≤ 8 := by unfold smp; rw [List.length_map, List.length_range]; exact hn4
          rw [e, List.length_take]
          exact Nat.le_trans (Nat.mul_le_mul (show min j (allRows d i).length ≤ 64 by omega) hsm) (by decide)
        refine ⟨pl, D, _, _, rfl, rfl, hb6, hD6, by rw [List.length_map, hyl, sizeLine_eq]; omega, fun p2 np2 => ?_⟩
        obtain ⟨cs, rfl, hcs⟩ : ∃ cs : List Addr, ys = cs.map V.ref ∧ ∀ (k : Nat) (c : Addr), cs[k]? = some c → H6 c = some (.lst ((r ++ [-(2 ^ (d - 1)) + (k : Int)]).map V.int)) := by
          have key : ∀ (ys : List V) (o : Nat), (∀ (i : Nat) (y : V), ys[i]? = some y → ∃ c, y = .ref c ∧ c ≠ D ∧ H6 c = some (.lst ((r ++ [-(2 ^ (d - 1)) + ((o + i : Nat) : Int)]).map V.int))) → ∃ cs : List Addr, ys = cs.map V.ref ∧ ∀ (k : Nat) (c : Addr), cs[k]? = some c → H6 c = some (.lst ((r ++ [-(2 ^ (d - 1)) + ((o + k : Nat) : Int)]).map V.int)) := by
            intro ys
            induction ys with
            | nil => intro o _; exact ⟨[], rfl, fun k c h => by simp at h⟩
            | cons y r' ih =>
              intro o h
              obtain ⟨c, e, _, hc⟩ := h 0 y rfl
              obtain ⟨cs, e2, h2⟩ := ih (o + 1) fun i y hy => by
                obtain ⟨c, a, b, d⟩ := h (i + 1) y hy
                exact ⟨c, a, b, by rw [show o + 1 + i = o + (i + 1) by omega]; exact d⟩
              refine ⟨c :: cs, by rw [e, e2]; rfl, fun k c' hk => ?_⟩
              cases k with
              | zero => cases hk; exact hc
              | succ k =>
                have := h2 k c' hk
                rw [show o + 1 + k = o + (k + 1) by omega] at this
                exact this
          obtain ⟨cs, a, b⟩ := key ys 0 fun i y hy => by
            obtain ⟨c, e, nc, hc⟩ := hyR i y hy
            exact ⟨c, e, nc, by rw [Nat.zero_add]; exact hc⟩
          exact ⟨cs, a, fun k c hk => by have := b k c hk; rw [Nat.zero_add] at this; exact this⟩
        have hcl : cs.length = 2 * 2 ^ (d - 1) := by rw [List.length_map] at hyl; exact hyl
        refine ⟨_, _, p2, rfl, (s5.trans s6).trans (same_upd np2), bs ++ cs, ?_, ?_, ?_⟩
        · rw [upd_same, List.map_append]
        · rw [List.length_append, hbl, flat_take _ hr, List.length_append, hcl, List.length_map]
          unfold smp
          rw [List.length_map, List.length_range]
        · intro k c row hc hrow
          rw [flat_take _ hr] at hrow
          have s6' := s6.trans (same_upd (o := .lst (bs.map V.ref ++ cs.map V.ref)) np2)
          by_cases hk : k < bs.length
          · rw [List.getElem?_append_left hk] at hc
            rw [List.getElem?_append_left (by omega)] at hrow
            exact s6' _ _ (hbt k c row hc hrow)
          · rw [List.getElem?_append_right (by omega)] at hc
            rw [List.getElem?_append_right (by omega), ← hbl, List.getElem?_map] at hrow
            obtain ⟨sm, hsm, rfl⟩ := Option.map_eq_some_iff.mp hrow
            have h6 := hcs _ _ hc
            unfold smp at hsm
            rw [List.getElem?_map] at hsm
            obtain ⟨z, hz, rfl⟩ := Option.map_eq_some_iff.mp hsm
            have ez : z = k - bs.length := by
              have hlt := (List.getElem?_eq_some_iff.mp hz).1
              rw [List.length_range] at hlt
              rw [List.getElem?_range hlt] at hz
              exact (Option.some.inj hz).symm
            rw [ez]
            exact same_upd np2 _ _ h6
    · rintro σ H5 ⟨v5, v6, pl, rfl, s5, hL⟩
      rw [List.length_map, hal, List.take_length] at hL
      exact ⟨_, rfl, _, _, _, _, pl, rfl, (s3.trans s4).trans s5, hL⟩
  · rintro σ H3 ⟨v3, v4, v5, v6, pf, rfl, s3, hR⟩
    exact ⟨_, rfl, q _ pf s3 hR⟩
end
end My

namespace My
open PySem PySem.Spec PyProof.Rows L2 Pre
theorem Off.refl {D : Addr} {H : Hp} : Off D H H := fun _ _ _ h => h
theorem Off.same {D : Addr} {H H1 H2 : Hp} (a : Off D H H1) (b : Same H1 H2) : Off D H H2 := fun c o n h => b c o (a c o n h)
theorem Off.upd {D : Addr} {H H1 : Hp} {o : HO} (a : Off D H H1) : Off D H (upd H1 D o) := fun c u n h => by
  rw [upd_ne n]
  exact a c u n h
theorem Off.back {D : Addr} {H H1 H2 : Hp} (s : Same H H1) (n : H D = none) (b : Off D H1 H2) : Same H H2 := fun c o h => b c o (ne_of_none h n) (s c o h)
theorem RowsAt.off {H H' : Hp} {p d : Addr} {kvs : List (Key × V)} {rows : List (List Int)} (h : RowsAt H p rows) (hd : H d = some (.dK kvs)) (s : Off d H H') : RowsAt H' p rows := by
  obtain ⟨as, h1, h2, h3⟩ := h
  exact ⟨as, s _ _ (ne_of h1 hd (by intro z; cases z)) h1, h2, fun i a r ha hr => s _ _ (ne_of (h3 i a r ha hr) hd (by intro z; cases z)) (h3 i a r ha hr)⟩
theorem cnt_take (w : Nat) (ws : List Int) (sh d : Nat) {rows : List (List Int)} {i : Nat} {r : List Int} (h : rows[i]? = some r) (s : Int) :
    cntR w ((rows.take (i + 1)).map (restsF ws sh d)) s = if s = sizeR w (restsF ws sh d r) then cntR w ((rows.take i).map (restsF ws sh d)) (sizeR w (restsF ws sh d r)) + 1 else cntR w ((rows.take i).map (restsF ws sh d)) s := by
  unfold cntR
  rw [List.take_add_one, h, List.map_append, List.filter_append, List.length_append]
  by_cases e : s = sizeR w (restsF ws sh d r)
  · rw [if_pos e, e]
    simp
  · rw [if_neg e]
    have e2 : ¬ sizeR w (restsF ws sh d r) = s := fun z => e z.symm
    simp [e2]
section
variable {P : Program} {w : World} {K : PySem.W.Frag} {mg : Str → Option Value} {base : Heap}
def sp_law_counted (C : Addr) : Sp := fun vs H Q _ => ∃ (a : Addr) (ws : List Int) (sh d i m : Nat), vs = [.ref a, .int d, .int i, .int m] ∧ GuesserAt C H a ws sh ∧ 1 ≤ d ∧ d ≤ 3 ∧ i ≤ d ∧ m ≤ 3 ∧ ∀ H' p kvs, Same H H' → H' p = some (.dK kvs) → DictIs kvs (cntR i (allRows d m)) → Q (.ref p) H'
theorem G_law_counted (T : Top K mg) : FnOk P w K mg base CX0 7 T.f_law_counted T.fd_law_counted ["_law_guesser", "_law_depth", "_law_width", "_law_many"] (sp_law_counted T.C_Guesser) := by
  refine T.F_law_counted.ok sc_law_counted (fun vs H Q E h => by obtain ⟨a, ws, sh, d, i, m, rfl, _⟩ := h; rfl) (fun cdv A outer s H vs Q E hr h => ?_)
  obtain ⟨a, ws, sh, d, i, m, rfl, hG, h0, h1, h2, hm, q⟩ := h
  refine ⟨_, PSs.nox (pss_cons (ps_set (i := 4) sc_law_counted.nd rfl (by first | exact Or.inl rfl | exact Or.inr rfl) pe_dnewK)
  (pss_cons (ps_for PassesOwn.never rfl (k_piL K rfl (pe_call (G_law_all_rows T) (hr.mono (by decide)) (by rfl) T.g_law_all_rows T.F_law_all_rows.kp T.b_law_all_rows .nil pass0 (pa_cons (pv 1) (pa_cons (pv 3) pa_nil)))) (pg_name (i := 5) sc_law_counted.nd rfl (by first | exact Or.inl rfl | exact Or.inr rfl))
    (pss_cons (ps_set (i := 6) sc_law_counted.nd rfl (by first | exact Or.inl rfl | exact Or.inr rfl) (pe_callB (k_sum K rfl rfl) (by rfl) T.n_sum (by decide +kernel) (pa_cons (pe_lc (own := [("_law_rest", 7)]) (g := gName 7) (tt := tYes) (by rfl) sc_law_counted.nd (k_piL K rfl (pe_call (G_rests T) (hr.mono (by decide)) (by rfl) T.g_rests T.F_rests.kp T.b_rests .nil pass0 (pa_cons (pv 0) (pa_cons (pv 1) (pa_cons (pv 5) pa_nil))))) (blkOk_by (own := [("_law_rest", 7)]) (N := N_law_counted) (sc := defScope s_law_counted) (by decide +kernel)) (fun _ _ _ _ _ => (pg_name (i := 7) sc_law_counted.nd rfl (by first | exact Or.inl rfl | exact Or.inr rfl))) (fun _ _ _ _ _ => pts_nil) (fun _ _ _ _ _ => (pe_op op_add (pe_op op_add (pe_op op_shr (pe_call (G_law_folded T) (hr.mono (by decide)) (by rfl) T.g_law_folded T.F_law_folded.kp T.b_law_folded .nil pass0 (pa_cons (pv 7) pa_nil)) (pv 2)) pe_int) (pv 2)))) pa_nil)))
  (pss_one (ps_dput (hu_of hr) (pv 4) (pv 6) (pe_op op_add (pe_dget2 (hu_of hr) (pv 4) (pv 6) pe_int ⟨by rfl, by rfl, by rfl, by rfl⟩) pe_int) rfl))))
  (pss_one (ps_ret (pv 4))))), ?_⟩
  intro pd npd
  obtain ⟨H1, e1, s1, hpd1⟩ := fresh (.dK []) npd
  rw [e1]
  refine ⟨_, rfl, _, rfl, d, m, rfl, h0, h1, hm, fun H2 pr s2 hR => ?_⟩
  have hpd2 := s2 _ _ hpd1
  have hrl := rows_len d h1 m hm
  have h8 : 8 ^ m ≤ 8 ^ 3 := Nat.pow_le_pow_right (by decide) (by omega)
  obtain ⟨as, hpr, hal, hat⟩ := id hR
  have npr : pr ≠ pd := ne_of hpr hpd2 (by intro z; cases z)
  refine ⟨pr, rfl, ⟨_, .inl (.inl hpr)⟩, for_list (K := K) (a := pr) (xs := as.map V.ref) (fun j σ H3 => ∃ (v5 v6 v7 : Option V) (kvs : List (Key × V)), σ = [some (.ref a), some (.int d), some (.int i), some (.int m), some (.ref pd), v5, v6, v7] ∧ Off pd H2 H3 ∧ H3 pd = some (.dK kvs) ∧ kvs.length ≤ j ∧ DictIs kvs (cntR i (((allRows d m).take j).map (restsF ws sh d))))
    ⟨none, none, none, [], rfl, Off.refl, hpd2, Nat.le_refl _, DictIs.nil.congr fun s => rfl⟩ (fun j σ H3 _ ⟨_, _, _, _, _, o, _⟩ => .inl (.inl (o _ _ npr hpr))) ?_ ?_⟩
  · rintro j x σ H3 hx ⟨v5, v6, v7, kvs, rfl, o3, hpd3, hkl, hD⟩
    rw [List.getElem?_map] at hx
    obtain ⟨ra, hra, rfl⟩ := Option.map_eq_some_iff.mp hx
    have hj : j < as.length := (List.getElem?_eq_some_iff.mp hra).1
    obtain ⟨r, hr⟩ : ∃ r, (allRows d m)[j]? = some r := ⟨_, List.getElem?_eq_getElem (by omega)⟩
    obtain ⟨hrn, hrs⟩ := mem_rows.mp (List.mem_of_getElem? hr)
    have hra2 := hat j ra r hra hr
    have hra3 : H3 ra = some (.lst (r.map V.int)) := o3 _ _ (ne_of hra2 hpd2 (by intro z; cases z)) hra2
    have s03 : Same H H3 := Off.back (s1.trans s2) npd o3
    refine ⟨_, rfl, _, rfl, _, rfl, a, ra, ws, sh, r, d, rfl, hG.same s03, .inl hra3, by omega, hrs, h0, by omega, fun H4 p4 s4 np4 hp4 => ?_⟩
    have hP4 : SqL K H4 p4 ((restsF ws sh d r).map V.int) := .inl (.inl hp4)
    refine ⟨p4, rfl, ⟨_, hP4⟩, fun D nD => ?_⟩
    have hfl : (restsF ws sh d r).length = r.length := by unfold restsF; rw [List.length_map, toldR_len]
    refine lc_mapL (K := K) (xs := (restsF ws sh d r).map V.int) (((restsF ws sh d r).map fun n => foldI n / 2 ^ i + 1 + (i : Int)).map V.int) nD hP4 (by simp) (by rw [List.length_map, hfl]; exact small1000 (by omega)) (fun x => rfl) ?_ ?_
    · intro k x y H' hx hy s Qt qt
      obtain ⟨n, hn, rfl⟩ := int_at hx
      rw [List.getElem?_map, List.getElem?_map, hn] at hy
      cases hy
      refine ⟨_, rfl, n, rfl, _, rfl, _, _, rfl, rfl, by omega, _, _, rfl, rfl, _, rfl, _, _, rfl, rfl, ?_⟩
      dsimp only
      rw [Int.toNat_natCast]
      exact qt _ (Same.refl _)
    · intro H5 s5 hD5
      have hpd5 := s5 _ _ (s4 _ _ hpd3)
      refine ⟨D, _, rfl, .inl (.inl hD5), ?_⟩
      have hpos : cntR i (((allRows d m).take j).map (restsF ws sh d)) (sizeR i (restsF ws sh d r)) + 1 ≠ 0 := by unfold cntR; omega
      refine ⟨_, rfl, pd, rfl, .inl ⟨kvs, .inl hpd5⟩, _, rfl, _, DGet.k (k := Sum.inl (sizeR i (restsF ws sh d r))) hpd5, _, _, hD.get _, rfl, _, rfl, _, rfl, pd, _, rfl, DPut.k (k := Sum.inl (sizeR i (restsF ws sh d r))) hpd5 (by rw [sizeLine_eq]; omega), ?_⟩
      refine ⟨_, _, _, putK kvs (Sum.inl (sizeR i (restsF ws sh d r))) (.int (cntR i (((allRows d m).take j).map (restsF ws sh d)) (sizeR i (restsF ws sh d r)) + 1)), rfl, Off.upd (Off.same (Off.same o3 s4) s5), upd_same, ?_, ?_⟩
      · have : (putK kvs (Sum.inl (sizeR i (restsF ws sh d r)) : Key) (V.int (cntR i (((allRows d m).take j).map (restsF ws sh d)) (sizeR i (restsF ws sh d r)) + 1))).length ≤ kvs.length + 1 := by
          have e := congrArg List.length (put_keys (kvs := kvs) (k := (Sum.inl (sizeR i (restsF ws sh d r)) : Key)) (v := V.int (cntR i (((allRows d m).take j).map (restsF ws sh d)) (sizeR i (restsF ws sh d r)) + 1)))
          rw [List.length_map] at e
          rw [e]
          split
          · rw [List.length_map]; omega
          · rw [List.length_append, List.length_map]; simp
        omega
      · refine (hD.put (sizeR i (restsF ws sh d r)) _ hpos).congr fun s => ?_
        rw [cnt_take i ws sh d hr s]
  · rintro σ H3 ⟨v5, v6, v7, kvs, rfl, o3, hpd3, hkl, hD⟩
    rw [List.length_map, hal, List.take_length] at hD
    refine ⟨_, rfl, q _ pd kvs (Off.back (s1.trans s2) npd o3) hpd3 (hD.congr fun s => cnt_rests ws sh d i m s)⟩
/-! ### right -/
def toldF (d i m k : Nat) (s : Int) : Int := if 0 ≤ s ∧ s < k then howF d i m s else 0
def sp_law_right : Sp := fun vs H Q _ => ∃ (g : Addr) (d i m n : Nat), vs = [.ref g, .int d, .int i, .int m] ∧ GenAt H g n ∧ n ≤ 10 ^ 8 ∧ 1 ≤ d ∧ d ≤ 3 ∧ i ≤ d ∧ m ≤ 3 ∧ ∀ H', But g H H' → GenAt H' g (n + 100000) → Q (.bl true) H'
theorem G_law_right (T : Top K mg) : FnOk P w K mg base CX0 8 T.f_law_right T.fd_law_right ["_law_generator_here", "_law_depth", "_law_width", "_law_many"] sp_law_right := by
  refine T.F_law_right.ok sc_law_right (fun vs H Q E h => by obtain ⟨g, d, i, m, n, rfl, _⟩ := h; rfl) (fun cdv A outer s H vs Q E hr h => ?_)
  obtain ⟨g, d, i, m, n, rfl, hG, hn, h0, h1, h2, hm, q⟩ := h
  refine ⟨_, PSs.nox (pss_cons (ps_par (by rfl) sc_law_right.nd (i := 7) (j := 8) rfl rfl (by decide) rfl rfl (pa_cons (pe_op op_mul (pv 3) (pe_op op_add (pv 2) pe_int)) (pa_cons (pe_op op_mul (pv 3) (pe_op op_add (pv 2) (pe_op op_shl pe_int (pe_op op_sub (pv 1) (pv 2))))) pa_nil)) (by rfl))
  (pss_cons (ps_if (pt_cmpR (k_neD K rfl hr.units) (pe_call (G_size_bounds T) (hr.mono (by decide)) (by rfl) T.g_size_bounds T.F_size_bounds.kp T.b_size_bounds .nil pass0 (pa_cons (pv 1) (pa_cons (pv 2) (pa_cons (pv 3) pa_nil)))) (pe_tup (pa_cons (pv 7) (pa_cons (pv 8) pa_nil))) (nomark _))
    (pss_one (ps_ret pe_bl))
    pss_nil)
  (pss_cons (ps_set (i := 4) sc_law_right.nd rfl (by first | exact Or.inl rfl | exact Or.inr rfl) pe_dnewK)
  (pss_cons (ps_for PassesOwn.never rfl (pi_range1 (by rfl) T.n_range (pa_cons (pe_op op_add (pv 8) pe_int) pa_nil)) (pg_name (i := 5) sc_law_right.nd rfl (by first | exact Or.inl rfl | exact Or.inr rfl))
    (pss_cons (ps_set (i := 9) sc_law_right.nd rfl (by first | exact Or.inl rfl | exact Or.inr rfl) (pe_call (G_how_many T) (hr.mono (by decide)) (by rfl) T.g_how_many T.F_how_many.kp T.b_how_many .nil pass0 (pa_cons (pv 1) (pa_cons (pv 2) (pa_cons (pv 3) (pa_cons (pv 5) pa_nil))))))
  (pss_one (ps_if (pt_cmpR op_ne (pv 9) pe_int (nomark _))
    (pss_one (ps_dput (hu_of hr) (pv 4) (pv 5) (pv 9) rfl))
    pss_nil))))
  (pss_cons (ps_for PassesOwn.never rfl (pi_range1 (by rfl) T.n_range (pa_cons pe_int pa_nil)) (pg_name (i := 6) sc_law_right.nd rfl (by first | exact Or.inl rfl | exact Or.inr rfl))
    (pss_cons (ps_set (i := 10) sc_law_right.nd rfl (by first | exact Or.inl rfl | exact Or.inr rfl) (pe_make T.mk_Guesser (G_Guesser___init__ T) (hr.mono (by decide)) (by rfl) T.gc_Guesser T.b_Guesser___init__ .nil pass0 (pa_cons (pe_call (G_law_weights T) (hr.mono (by decide)) (by rfl) T.g_law_weights T.F_law_weights.kp T.b_law_weights .nil pass0 (pa_cons (pv 0) (pa_cons (pe_call (G_law_random T) (hr.mono (by decide)) (by rfl) T.g_law_random T.F_law_random.kp T.b_law_random .nil pass0 (pa_cons (pv 0) (pa_cons pe_int pa_nil))) pa_nil))) (pa_cons (pe_call (G_law_random T) (hr.mono (by decide)) (by rfl) T.g_law_random T.F_law_random.kp T.b_law_random .nil pass0 (pa_cons (pv 0) (pa_cons pe_int pa_nil))) pa_nil))))
  (pss_one (ps_if (pt_cmpR (op_ne_dictA hr.units0) (pe_call (G_law_counted T) (hr.mono (by decide)) (by rfl) T.g_law_counted T.F_law_counted.kp T.b_law_counted .nil pass0 (pa_cons (pv 10) (pa_cons (pv 1) (pa_cons (pv 2) (pa_cons (pv 3) pa_nil))))) (pv 4) (nomark _))
    (pss_one (ps_ret pe_bl))
    pss_nil))))
  (pss_one (ps_ret pe_bl))))))), ?_⟩
  have hp := pow_pos' (d - i)
  have hp2 : (2 : Int) ^ (d - i) ≤ 2 ^ 3 := pow2_le (by omega)
  refine ⟨_, rfl, _, rfl, _, _, rfl, rfl, _, _, rfl, rfl, .inl ⟨by omega, by omega⟩, _, rfl, _, rfl, _, rfl, _, rfl, _, _, rfl, rfl, _, _, rfl, rfl, ⟨by omega, by omega, by decide⟩, _, _, rfl, rfl, _, _, rfl, rfl, .inl ⟨by omega, by omega⟩, ?_⟩
  refine ⟨_, _, rfl, ?_⟩
  refine ⟨_, rfl, _, rfl, _, rfl, d, i, m, rfl, h0, by omega, h2, by omega, fun H1 p1 s1 hp1 => ?_⟩
  refine ⟨_, rfl, _, rfl, (show 2 ≤ sizeLine by decide), fun p2 np2 => ?_⟩
  dsimp only
  rw [sub_toNat h2, Int.one_mul]
  obtain ⟨H2, e2, s2, hp2'⟩ := fresh (.tup [V.int ((m : Int) * ((i : Int) + 1)), V.int ((m : Int) * ((i : Int) + 2 ^ (d - i)))]) np2
  rw [e2]
  refine ne_tup (ns := [(m : Int) * (i + 1), (m : Int) * (i + 2 ^ (d - i))]) (.inl (.inl (s2 _ _ hp1))) (.inl (.inl hp2')) ⟨_, rfl, iteF ?_⟩
  have eg : (m : Int) * ((i : Int) + 2 ^ (d - i)) = ((grt d i m : Nat) : Int) := by
    unfold grt
    rw [Int.natCast_mul, Int.natCast_add, Int.natCast_pow]
    rfl
  have hg24 : grt d i m ≤ 24 := (all_within ⟨d, by omega⟩ ⟨i, by omega⟩ ⟨m, by omega⟩ h0 h2).2
  rw [eg]
  intro pd npd
  obtain ⟨H3, e3, s3, hpd3⟩ := fresh (.dK []) npd
  rw [e3]
  have s03 := (s1.trans s2).trans s3
  refine ⟨_, rfl, _, _, rfl, rfl, _, rfl, by omega, by omega, ?_⟩
  have en : (((grt d i m : Nat) : Int) + 3).toNat = grt d i m + 3 := by omega
  rw [en]
  have npdg : pd ≠ g := ((hG.same s1).same s2).ne npd
  refine for_range (lo := 0) (n := grt d i m + 3) (fun k σ H4 => ∃ (v5 v9 : Option V) (kvs : List (Key × V)), σ = [some (.ref g), some (.int d), some (.int i), some (.int m), some (.ref pd), v5, none, some (.int ((m : Int) * ((i : Int) + 1))), some (.int (grt d i m : Nat)), v9, none] ∧ Off pd H3 H4 ∧ H4 pd = some (.dK kvs) ∧ kvs.length ≤ k ∧ DictIs kvs (toldF d i m k))
    ⟨none, none, [], rfl, Off.refl, hpd3, Nat.le_refl _, DictIs.nil.congr fun s => by unfold toldF; rw [if_neg (by omega)]⟩ ?_ ?_
  · rintro k σ H4 hk ⟨v5, v9, kvs, rfl, o4, hpd4, hkl, hD⟩
    refine ⟨_, rfl, _, rfl, _, rfl, _, rfl, d, i, m, (k : Int), ?_, h0, by omega, h2, by omega, by omega, by omega, mild_small h0 h1 h2 hm (by omega), ?_⟩
    · show [V.int (d : Int), V.int i, V.int m, V.int (0 + (k : Int))] = _
      rw [Int.zero_add]
    refine ⟨_, rfl, rfl, _, rfl, ?_⟩
    have step : ∀ s, toldF d i m (k + 1) s = if s = (k : Int) then howF d i m k else toldF d i m k s := fun s => by
      unfold toldF
      by_cases e : s = (k : Int)
      · rw [e, if_pos rfl, if_pos (by omega)]
      · rw [if_neg e]
        by_cases h : 0 ≤ s ∧ s < (k : Int)
        · rw [if_pos h, if_pos (by omega)]
        · rw [if_neg h, if_neg (by omega)]
    by_cases hz : howF d i m k = 0
    · rw [decide_eq_true (congrArg V.int hz)]
      refine iteF ⟨_, _, kvs, rfl, o4, hpd4, by omega, hD.congr fun s => ?_⟩
      rw [step]
      by_cases e : s = (k : Int)
      · rw [if_pos e, hz, e]
        unfold toldF
        rw [if_neg (by omega)]
      · rw [if_neg e]
    · rw [decide_eq_false (fun z => hz (V.int.inj z))]
      refine iteT ?_
      refine ⟨_, rfl, _, rfl, _, rfl, pd, upd H4 pd (.dK (putK kvs (Sum.inl (k : Int)) (.int (howF d i m k)))), rfl, ?_, ?_⟩
      · rw [Int.zero_add]
        exact DPut.k (k := Sum.inl (k : Int)) hpd4 (by rw [sizeLine_eq]; omega)
      · refine ⟨_, _, _, rfl, Off.upd o4, upd_same, ?_, ?_⟩
        · have e := congrArg List.length (put_keys (kvs := kvs) (k := (Sum.inl (k : Int) : Key)) (v := V.int (howF d i m k)))
          rw [List.length_map] at e
          rw [e]
          split
          · rw [List.length_map]; omega
          · rw [List.length_append, List.length_map]; simp; omega
        · exact (hD.put (k : Int) _ hz).congr fun s => (step s).symm
  · rintro σ H4 ⟨v5, v9, kvs, rfl, o4, hpd4, hkl, hD⟩
    have hD' : DictIs kvs (cntR i (allRows d m)) := hD.congr fun s => by
      rw [cnt_all h0 h1 h2 hm s]
      rfl
    have s04 : Same H H4 := Off.back (s1.trans s2) ((s1.trans s2).free npd) (fun b o nb h => o4 b o nb (s3 b o h))
    refine ⟨_, rfl, by decide, by decide, ?_⟩
    refine for_range (lo := 0) (n := 2) (fun k σ H5 => ∃ (v6 v10 : Option V), σ = [some (.ref g), some (.int d), some (.int i), some (.int m), some (.ref pd), v5, v6, some (.int ((m : Int) * ((i : Int) + 1))), some (.int (grt d i m : Nat)), v9, v10] ∧ But g H4 H5 ∧ GenAt H5 g (n + 20000 * k)) ⟨_, _, rfl, But.refl, hG.same s04⟩ ?_ ?_
    · rintro k σ H5 hk ⟨v6, v10, rfl, b5, g5⟩
      refine ⟨_, rfl, _, rfl, g, _, _, rfl, g5, by omega, by decide, small_2900 (by decide), fun r1 H6 r10 r11 g6 b6 => ?_⟩
      obtain ⟨m1, rfl⟩ : ∃ z : Nat, r1 = (z : Int) := ⟨r1.toNat, by omega⟩
      refine ⟨g, m1, _, rfl, g6, by omega, by omega, fun H7 pw ws b7 npw hpw g7 hW => ?_⟩
      refine ⟨_, rfl, g, _, _, rfl, g7, by omega, by decide, small_2900 (by decide), fun r2 H8 r20 r21 g8 b8 => ?_⟩
      obtain ⟨sh, rfl⟩ : ∃ z : Nat, r2 = (z : Int) := ⟨r2.toNat, by omega⟩
      intro x dx nx ndx nex
      have npwg : pw ≠ g := g6.ne npw
      have hpw8 : H8 pw = some (.lst (ws.map V.int)) := b8 _ _ npwg hpw
      have s89 : Same H8 (upd (upd H8 dx (.own x)) x (.ins T.C_Guesser dx [])) := fun b o e => by
        rw [upd_ne (ne_of_none e nx), upd_ne (ne_of_none e ndx)]
        exact e
      refine ⟨x, pw, dx, ws, sh, rfl, upd_same, .inl (s89 _ _ hpw8), hW, by omega, fun H9 kp9 hG9 => ⟨rfl, ?_⟩⟩
      have s8 : Same H8 H9 := fun b o e => kp9 b o (ne_of_none e nx) (s89 b o e)
      have b49 : But g H4 H9 := ((((b5.trans b6).trans b7).trans b8).same s8)
      refine ⟨_, rfl, _, rfl, _, rfl, _, rfl, x, ws, sh, d, i, m, rfl, hG9, h0, h1, h2, hm, fun H10 pc kvs2 s10 hpc hD2 => ?_⟩
      have hpd10 : H10 pd = some (.dK kvs) := s10 _ _ (b49 _ _ npdg hpd4)
      refine ⟨_, rfl, hD2.ne hpc hpd10 hD' (fun s => rfl) ⟨_, rfl, iteF ?_⟩⟩
      exact ⟨_, _, rfl, b49.same s10, (g8.same (s8.trans s10)).mono (by omega)⟩
    · rintro σ H5 ⟨v6, v10, rfl, b5, g5⟩
      exact q _ (fun b o nb h => b5 b o nb (s04 b o h)) (g5.mono (by omega))
end
end My

namespace My
open PySem PySem.Spec PyProof.Rows L2 Pre
def convTo (r o p e k : Nat) : Nat := ((List.range k).map fun k => tabAt r o k * tabAt r p (e - k)).sum
theorem conv_next (r o p e k : Nat) : convTo r o p e (k + 1) = convTo r o p e k + tabAt r o k * tabAt r p (e - k) := by
  unfold convTo
  rw [List.range_succ, List.map_append, List.sum_append]
  simp
theorem how_tab {d w m k : Nat} (h1 : d - w < 6) (h2 : m < 44) (h3 : k < 12) : howF d w m ((m : Int) * ((w : Int) + 1) + (k : Int)) = (tabAt (d - w) m k : Int) * 2 ^ (w * m) := by
  have h := tab_ok ⟨d - w, h1⟩ ⟨m, h2⟩ ⟨k, h3⟩
  simp only at h
  unfold howF
  rw [show (m : Int) * ((w : Int) + 1) + (k : Int) - (m : Int) * ((w : Int) + 1) = (k : Int) by omega, h]
theorem how_mild {d w m k : Nat} (h1 : d - w < 6) (h2 : m < 44) (h3 : k < 12) : Mild m (2 ^ (d - w)) ((m : Int) * ((w : Int) + 1) + (k : Int) - (m : Int) * ((w : Int) + 1)) := by
  rw [show (m : Int) * ((w : Int) + 1) + (k : Int) - (m : Int) * ((w : Int) + 1) = (k : Int) by omega]
  exact mild_tab h1 h2 h3
theorem tab_abs {r m k : Nat} (h1 : r < 6) (h2 : m < 44) (h3 : k < 12) (q : Nat) : ((tabAt r m k : Int) * 2 ^ q).natAbs < 2 ^ (64 + q) := by
  have h := tab_small ⟨r, h1⟩ ⟨m, h2⟩ ⟨k, h3⟩
  simp only at h
  rw [Int.natAbs_mul, Int.natAbs_natCast, Int.natAbs_pow, Nat.pow_add]
  exact Nat.mul_lt_mul_of_pos_right h (Nat.pow_pos (by decide))
theorem pow_parts (a b : Int) (w o p : Nat) : a * 2 ^ (w * o) * (b * 2 ^ (w * p)) = a * b * 2 ^ (w * (p + o)) := by
  rw [Nat.mul_add, Nat.add_comm, Int.pow_add]
  generalize (2 : Int) ^ (w * o) = x
  generalize (2 : Int) ^ (w * p) = y
  rw [Int.mul_assoc, ← Int.mul_assoc x b y, Int.mul_comm x b, Int.mul_assoc b x y, Int.mul_assoc]
section
variable {P : Program} {w : World} {K : PySem.W.Frag} {mg : Str → Option Value} {base : Heap}
def sp_law_halves_right : Sp := fun vs H Q _ => ∃ (g : Addr) (n : Nat), vs = [.ref g] ∧ GenAt H g n ∧ n ≤ 10 ^ 9 ∧ ∀ H', But g H H' → GenAt H' g (n + 1000) → Q (.bl true) H'
theorem G_law_halves_right (T : Top K mg) : FnOk P w K mg base CX0 5 T.f_law_halves_right T.fd_law_halves_right ["_law_generator_here"] sp_law_halves_right := by
  refine T.F_law_halves_right.ok sc_law_halves_right (fun vs H Q E h => by obtain ⟨g, n, rfl, _⟩ := h; rfl) (fun cdv A outer s H vs Q E hr h => ?_)
  obtain ⟨g, n, rfl, hG, hn, q⟩ := h
  refine ⟨_, PSs.nox (pss_cons (ps_set (i := 1) sc_law_halves_right.nd rfl (by first | exact Or.inl rfl | exact Or.inr rfl) (pe_op op_add pe_int (pe_call (G_law_random T) (hr.mono (by decide)) (by rfl) T.g_law_random T.F_law_random.kp T.b_law_random .nil pass0 (pa_cons (pv 0) (pa_cons pe_int pa_nil)))))
  (pss_cons (ps_set (i := 2) sc_law_halves_right.nd rfl (by first | exact Or.inl rfl | exact Or.inr rfl) (pe_op op_sub (pv 1) (pe_call (G_law_random T) (hr.mono (by decide)) (by rfl) T.g_law_random T.F_law_random.kp T.b_law_random .nil pass0 (pa_cons (pv 0) (pa_cons pe_int pa_nil)))))
  (pss_cons (ps_par (by rfl) sc_law_halves_right.nd (i := 5) (j := 6) rfl rfl (by decide) rfl rfl (pa_cons (pe_op op_add pe_int (pe_call (G_law_random T) (hr.mono (by decide)) (by rfl) T.g_law_random T.F_law_random.kp T.b_law_random .nil pass0 (pa_cons (pv 0) (pa_cons pe_int pa_nil)))) (pa_cons (pe_op op_add pe_int (pe_call (G_law_random T) (hr.mono (by decide)) (by rfl) T.g_law_random T.F_law_random.kp T.b_law_random .nil pass0 (pa_cons (pv 0) (pa_cons pe_int pa_nil)))) pa_nil)) (by rfl))
  (pss_cons (ps_set (i := 3) sc_law_halves_right.nd rfl (by first | exact Or.inl rfl | exact Or.inr rfl) (pe_op op_add (pe_op op_mulX (pe_op op_add (pv 5) (pv 6)) (pe_op op_add (pv 2) pe_int)) (pe_call (G_law_random T) (hr.mono (by decide)) (by rfl) T.g_law_random T.F_law_random.kp T.b_law_random .nil pass0 (pa_cons (pv 0) (pa_cons pe_int pa_nil)))))
  (pss_cons (ps_par (by rfl) sc_law_halves_right.nd (i := 7) (j := 8) rfl rfl (by decide) rfl rfl (pa_cons pe_int (pa_cons (pe_op op_mulX (pv 6) (pe_op op_add (pv 2) pe_int)) pa_nil)) (by rfl))
  (pss_cons (ps_for PassesOwn.never rfl (pi_range2 (by rfl) T.n_range (pa_cons (pv 8) (pa_cons (pe_op op_add (pe_op op_sub (pv 3) (pe_op op_mulX (pv 5) (pe_op op_add (pv 2) pe_int))) pe_int) pa_nil))) (pg_name (i := 4) sc_law_halves_right.nd rfl (by first | exact Or.inl rfl | exact Or.inr rfl))
    (pss_one (ps_set (i := 7) sc_law_halves_right.nd rfl (by first | exact Or.inl rfl | exact Or.inr rfl) (pe_op op_add (pv 7) (pe_op op_mulX (pe_call (G_how_many T) (hr.mono (by decide)) (by rfl) T.g_how_many T.F_how_many.kp T.b_how_many .nil pass0 (pa_cons (pv 1) (pa_cons (pv 2) (pa_cons (pv 6) (pa_cons (pv 4) pa_nil))))) (pe_call (G_how_many T) (hr.mono (by decide)) (by rfl) T.g_how_many T.F_how_many.kp T.b_how_many .nil pass0 (pa_cons (pv 1) (pa_cons (pv 2) (pa_cons (pv 5) (pa_cons (pe_op op_sub (pv 3) (pv 4)) pa_nil))))))))))
  (pss_one (ps_ret (pe_cmpR op_eq (pe_call (G_how_many T) (hr.mono (by decide)) (by rfl) T.g_how_many T.F_how_many.kp T.b_how_many .nil pass0 (pa_cons (pv 1) (pa_cons (pv 2) (pa_cons (pe_op op_add (pv 5) (pv 6)) (pa_cons (pv 3) pa_nil))))) (pv 7) (nomark _)))))))))), ?_⟩
  refine ⟨_, rfl, g, _, _, rfl, hG, by omega, by decide, small_2900 (by decide), fun r1 H1 r10 r11 g1 b1 => ?_⟩
  refine ⟨_, _, rfl, rfl, ?_⟩
  obtain ⟨d, hd⟩ : ∃ d : Nat, 6 + r1 = (d : Int) := ⟨(6 + r1).toNat, by omega⟩
  dsimp only
  rw [hd]
  refine ⟨_, rfl, _, rfl, g, _, _, rfl, g1, by omega, by decide, small_2900 (by decide), fun r2 H2 r20 r21 g2 b2 => ?_⟩
  refine ⟨_, _, rfl, rfl, ?_⟩
  obtain ⟨v, hv⟩ : ∃ v : Nat, (d : Int) - r2 = (v : Int) := ⟨((d : Int) - r2).toNat, by omega⟩
  dsimp only
  rw [hv]
  refine ⟨_, rfl, g, _, _, rfl, g2, by omega, by decide, small_2900 (by decide), fun r3 H3 r30 r31 g3 b3 => ?_⟩
  refine ⟨_, _, rfl, rfl, ?_⟩
  obtain ⟨p, hp⟩ : ∃ p : Nat, 1 + r3 = (p : Int) := ⟨(1 + r3).toNat, by omega⟩
  dsimp only
  rw [hp]
  refine ⟨_, rfl, g, _, _, rfl, g3, by omega, by decide, small_2900 (by decide), fun r4 H4 r40 r41 g4 b4 => ?_⟩
  refine ⟨_, _, rfl, rfl, ?_⟩
  obtain ⟨o, ho⟩ : ∃ o : Nat, 1 + r4 = (o : Int) := ⟨(1 + r4).toNat, by omega⟩
  dsimp only
  rw [ho]
  refine ⟨_, _, rfl, ?_⟩
  have hdv : d - v < 6 := by omega
  have abs_le : ∀ {x : Int}, -(2 ^ 40) < x → x < 2 ^ 40 → x.natAbs < 2 ^ 40 := fun {x} a b => by omega
  have mulo : (o : Int) * ((v : Int) + 1) = ((o * (v + 1) : Nat) : Int) := by rw [Int.natCast_mul]; rfl
  have mulp : (p : Int) * ((v : Int) + 1) = ((p * (v + 1) : Nat) : Int) := by rw [Int.natCast_mul]; rfl
  have lo : o * (v + 1) ≤ 3 * 25 := Nat.mul_le_mul (by omega) (by omega)
  have lp : p * (v + 1) ≤ 40 * 25 := Nat.mul_le_mul (by omega) (by omega)
  refine ⟨_, rfl, _, rfl, _, _, rfl, rfl, _, rfl, _, _, rfl, rfl, _, _, rfl, rfl, mulx_ok (abs_le (by omega) (by omega)) (abs_le (by omega) (by omega)) (by decide), _, rfl, g, _, _, rfl, g4, by omega, by decide, small_2900 (by decide), fun r5 H5 r50 r51 g5 b5 => ?_⟩
  obtain ⟨e, rfl⟩ : ∃ e : Nat, r5 = (e : Int) := ⟨r5.toNat, by omega⟩
  refine ⟨_, _, rfl, rfl, ?_⟩
  have mul2 : ((p : Int) + (o : Int)) * ((v : Int) + 1) = ((p * (v + 1) : Nat) : Int) + ((o * (v + 1) : Nat) : Int) := by rw [Int.add_mul, mulo, mulp]
  dsimp only
  refine ⟨_, rfl, _, rfl, _, _, rfl, rfl, _, _, rfl, rfl, mulx_ok (abs_le (by omega) (by omega)) (abs_le (by omega) (by omega)) (by decide), _, _, rfl, ?_⟩
  have hmo := @how_tab d v o
  have hmp := @how_tab d v p
  have hms := @how_tab d v (p + o) e hdv (by omega) (by omega)
  have wmo := @how_mild d v o
  have wmp := @how_mild d v p
  have wms := @how_mild d v (p + o) e hdv (by omega) (by omega)
  dsimp only
  rw [mul2, mulo]
  rw [Int.natCast_add, mul2] at hms wms
  rw [mulo] at hmo wmo
  rw [mulp] at hmp wmp
  refine ⟨_, rfl, _, rfl, _, rfl, _, rfl, _, _, rfl, rfl, _, _, rfl, rfl, mulx_ok (abs_le (by omega) (by omega)) (abs_le (by omega) (by omega)) (by decide), _, _, rfl, rfl, _, _, rfl, rfl, _, _, rfl, ?_⟩
  rw [mulp]
  generalize o * (v + 1) = A at *
  generalize p * (v + 1) = B at *
  have en : ((B : Int) + (A : Int) + (e : Int) - (B : Int) + 1 - (A : Int)).toNat = e + 1 := by omega
  refine ⟨⟨by omega, by omega, by omega, by omega⟩, ?_⟩
  rw [en]
  refine for_range (lo := (A : Int)) (n := e + 1) (fun k σ H6 => ∃ v4 : Option V, σ = [some (.ref g), some (.int d), some (.int v), some (.int ((B : Int) + A + e)), v4, some (.int p), some (.int o), some (.int (convTo (d - v) o p e k * 2 ^ (v * (p + o)))), some (.int A)] ∧ H6 = H5) ⟨none, ?_, rfl⟩ ?_ ?_
  · show _ = [some (V.ref g), some (.int d), some (.int v), some (.int ((B : Int) + A + e)), none, some (.int p), some (.int o), some (.int ((0 : Int) * 2 ^ (v * (p + o)))), some (.int A)]
    rw [Int.zero_mul]
    rfl
  · rintro k σ H6 hk ⟨v4, rfl, rfl⟩
    refine ⟨_, rfl, _, rfl, _, rfl, _, rfl, _, rfl, d, v, o, (A : Int) + (k : Int), rfl, by omega, by omega, by omega, by omega, by omega, by omega, (by rw [mulo]; exact @wmo k hdv (by omega) (by omega)), ?_⟩
    have eb : (B : Int) + A + e - ((A : Int) + (k : Int)) = (B : Int) + ((e - k : Nat) : Int) := by omega
    refine ⟨_, rfl, _, rfl, _, rfl, _, rfl, _, rfl, _, _, rfl, rfl, d, v, p, (B : Int) + ((e - k : Nat) : Int), ?_, by omega, by omega, by omega, by omega, by omega, by omega, (by rw [mulp]; exact @wmp (e - k) hdv (by omega) (by omega)), ?_⟩
    · show [V.int (d : Int), V.int v, V.int p, V.int ((B : Int) + A + e - ((A : Int) + (k : Int)))] = _
      rw [eb]
    rw [@hmo k hdv (by omega) (by omega), @hmp (e - k) hdv (by omega) (by omega)]
    have l1 : v * o ≤ 24 * 3 := Nat.mul_le_mul (by omega) (by omega)
    have l2 : v * p ≤ 24 * 40 := Nat.mul_le_mul (by omega) (by omega)
    refine ⟨_, _, rfl, rfl, mulx_ok (tab_abs hdv (by omega) (by omega) _) (tab_abs hdv (by omega) (by omega) _) (by omega), _, _, rfl, rfl, ?_⟩
    refine ⟨some (.int ((A : Int) + (k : Int))), ?_, rfl⟩
    dsimp only
    have ec : ((convTo (d - v) o p e k : Nat) : Int) + ((tabAt (d - v) o k * tabAt (d - v) p (e - k) : Nat) : Int) = ((convTo (d - v) o p e (k + 1) : Nat) : Int) := by rw [conv_next, Int.natCast_add]
    rw [pow_parts, ← Int.natCast_mul, ← Int.add_mul, ec]
    rfl
  · rintro σ H6 ⟨v4, rfl, rfl⟩
    refine ⟨_, rfl, _, rfl, _, rfl, _, rfl, _, _, rfl, rfl, _, rfl, d, v, p + o, (B : Int) + A + e, ?_, by omega, by omega, by omega, by omega, by omega, by omega, ?_, ?_⟩
    · show [V.int (d : Int), V.int v, V.int ((p : Int) + (o : Int)), _] = _
      rw [Int.natCast_add]
    · rw [Int.natCast_add, mul2]
      exact wms
    rw [hms]
    have hc := conv_ok ⟨d - v, hdv⟩ ⟨p, by omega⟩ ⟨o, by omega⟩ ⟨e, by omega⟩ (by show 1 ≤ p; omega) (by show 1 ≤ o; omega)
    simp only at hc
    have hc2 : convTo (d - v) o p e (e + 1) = tabAt (d - v) (p + o) e := hc
    rw [hc2]
    refine ⟨_, rfl, rfl, ?_⟩
    rw [decide_eq_true rfl]
    exact q _ ((((b1.trans b2).trans b3).trans b4).trans b5) (g5.mono (by omega))
def sp_law (K : PySem.W.Frag) : Sp := fun vs H Q _ => ∃ (a : Addr) (ns : List Int), vs = [.ref a] ∧ SqL K H a (ns.map V.int) ∧ ns.length ≤ 63 ∧ ∀ H', Q (.bl true) H'
theorem G_law (T : Top K mg) : FnOk P w K mg base CX0 9 T.f_law T.fd_law ["_law_script"] (sp_law K) := by
  refine T.F_law.ok sc_law (fun vs H Q E h => by obtain ⟨a, ns, rfl, _⟩ := h; rfl) (fun cdv A outer s H vs Q E hr h => ?_)
  obtain ⟨a, ns, rfl, hS, hn, q⟩ := h
  refine ⟨_, PSs.nox (pss_cons (ps_for PassesOwn.never rfl (pi_range1 (by rfl) T.n_range (pa_cons pe_int pa_nil)) (pg_name (i := 1) sc_law.nd rfl (by first | exact Or.inl rfl | exact Or.inr rfl))
    (pss_cons (ps_set (i := 2) sc_law.nd rfl (by first | exact Or.inl rfl | exact Or.inr rfl) (pe_call (G_law_generator T) (hr.mono (by decide)) (by rfl) T.g_law_generator T.F_law_generator.kp T.b_law_generator .nil pass0 (pa_cons (pv 0) (pa_cons (pv 1) pa_nil))))
  (pss_cons (ps_set (i := 3) sc_law.nd rfl (by first | exact Or.inl rfl | exact Or.inr rfl) (pe_op op_add pe_int (pe_call (G_law_random T) (hr.mono (by decide)) (by rfl) T.g_law_random T.F_law_random.kp T.b_law_random .nil pass0 (pa_cons (pv 2) (pa_cons pe_int pa_nil)))))
  (pss_cons (ps_set (i := 4) sc_law.nd rfl (by first | exact Or.inl rfl | exact Or.inr rfl) (pe_call (G_law_random T) (hr.mono (by decide)) (by rfl) T.g_law_random T.F_law_random.kp T.b_law_random .nil pass0 (pa_cons (pv 2) (pa_cons (pe_op op_add (pv 3) pe_int) pa_nil))))
  (pss_one (ps_if (PW.pt (pw_or (pt_not (pt_val (pe_call (G_law_right T) (hr.mono (by decide)) (by rfl) T.g_law_right T.F_law_right.kp T.b_law_right .nil pass0 (pa_cons (pv 2) (pa_cons (pv 3) (pa_cons (pv 4) (pa_cons (pe_call (G_law_random T) (hr.mono (by decide)) (by rfl) T.g_law_random T.F_law_random.kp T.b_law_random .nil pass0 (pa_cons (pv 2) (pa_cons pe_int pa_nil))) pa_nil))))))) (pw_or1 (pt_not (pt_val (pe_call (G_law_halves_right T) (hr.mono (by decide)) (by rfl) T.g_law_halves_right T.F_law_halves_right.kp T.b_law_halves_right .nil pass0 (pa_cons (pv 2) pa_nil)))))))
    (pss_one (ps_ret pe_bl))
    pss_nil))))))
  (pss_one (ps_ret (pe_and (pe_cmpR op_eq (pe_call (G_how_many T) (hr.mono (by decide)) (by rfl) T.g_how_many T.F_how_many.kp T.b_how_many .nil pass0 (pa_cons pe_int (pa_cons pe_int (pa_cons pe_int (pa_cons (pe_op op_mul pe_int pe_int) pa_nil))))) (pe_op op_shl pe_int (pe_op op_mul pe_int pe_int)) (nomark _)) (pe_and (pe_cmpR op_eq (pe_call (G_how_many T) (hr.mono (by decide)) (by rfl) T.g_how_many T.F_how_many.kp T.b_how_many .nil pass0 (pa_cons pe_int (pa_cons pe_int (pa_cons pe_int (pa_cons pe_int pa_nil))))) pe_int (nomark _)) (pe_one (pe_cmpR op_eq (pe_call (G_how_many T) (hr.mono (by decide)) (by rfl) T.g_how_many T.F_how_many.kp T.b_how_many .nil pass0 (pa_cons pe_int (pa_cons pe_int (pa_cons pe_int (pa_cons pe_int pa_nil))))) pe_int (nomark _)))))))), ?_⟩
  refine ⟨_, rfl, by decide, by decide, ?_⟩
  refine for_range (lo := 0) (n := 3) (fun i σ H1 => ∃ v1 v2 v3 v4, σ = [some (.ref a), v1, v2, v3, v4] ∧ Same H H1) ⟨none, none, none, none, rfl, Same.refl _⟩ ?_ ?_
  · rintro i σ H1 hi ⟨v1, v2, v3, v4, rfl, s1⟩
    refine ⟨_, rfl, _, rfl, a, ns, i, ?_, s1.seq hS, fun H2 g s2 ng g2 => ?_⟩
    · show [V.ref a, V.int (0 + (i : Int))] = _
      rw [Int.zero_add]
    refine ⟨_, rfl, g, _, _, rfl, g2, by omega, by decide, small_2900 (by decide), fun r1 H3 r10 r11 g3 b3 => ?_⟩
    refine ⟨_, _, rfl, rfl, ?_⟩
    obtain ⟨d, hd⟩ : ∃ d : Nat, 1 + r1 = (d : Int) := ⟨(1 + r1).toNat, by omega⟩
    dsimp only
    rw [hd]
    refine ⟨_, rfl, _, rfl, _, _, rfl, rfl, g, _, _, rfl, g3, by omega, by omega, small_2900 (by omega), fun r2 H4 r20 r21 g4 b4 => ?_⟩
    obtain ⟨v, rfl⟩ : ∃ v : Nat, r2 = (v : Int) := ⟨r2.toNat, by omega⟩
    refine ⟨_, rfl, _, rfl, _, rfl, _, rfl, g, _, _, rfl, g4, by omega, by decide, small_2900 (by decide), fun r3 H5 r30 r31 g5 b5 => ?_⟩
    obtain ⟨m, rfl⟩ : ∃ m : Nat, r3 = (m : Int) := ⟨r3.toNat, by omega⟩
    refine ⟨g, d, v, m, _, rfl, g5, by omega, by omega, by omega, by omega, by omega, fun H6 b6 g6 => ?_⟩
    refine ⟨_, rfl, iteF ?_⟩
    refine ⟨_, rfl, g, _, rfl, g6, by omega, fun H7 b7 g7 => ?_⟩
    refine ⟨_, rfl, iteF ?_⟩
    exact ⟨_, _, _, _, rfl, s1.trans (But.fresh s2 ng ((((b3.trans b4).trans b5).trans b6).trans b7))⟩
  · rintro σ H1 ⟨v1, v2, v3, v4, rfl, s1⟩
    refine ⟨_, _, rfl, rfl, .inl ⟨by decide, by decide⟩, 24, 24, 200, 5000, rfl, by decide, by decide, by decide, by decide, by decide, by decide, mild_200, ?_⟩
    refine ⟨_, _, rfl, rfl, .inl ⟨by decide, by decide⟩, _, _, rfl, rfl, ⟨by decide, by decide, by decide⟩, rfl, ?_⟩
    have e1 : howF 24 24 200 5000 = 1 * 2 ^ ((24 : Int) * 200).toNat := by decide +kernel
    rw [decide_eq_true (congrArg V.int e1)]
    refine ⟨_, rfl, iteT ?_⟩
    refine ⟨5, 2, 0, 0, rfl, by decide, by decide, by decide, by decide, by decide, by decide, ⟨fun u _ => ?_, by decide, by decide⟩, rfl, ?_⟩
    · show chosenN 0 u < 2 ^ 64
      unfold chosenN
      by_cases h : u > 0
      · rw [if_pos h]; decide
      · rw [if_neg h, show u = 0 by omega]; decide
    rw [decide_eq_true (congrArg V.int (show howF 5 2 0 0 = 1 by decide +kernel))]
    refine ⟨_, rfl, iteT ?_⟩
    refine ⟨5, 2, 0, 1, rfl, by decide, by decide, by decide, by decide, by decide, by decide, ⟨fun u _ => ?_, by decide, by decide⟩, rfl, ?_⟩
    · show chosenN 0 u < 2 ^ 64
      unfold chosenN
      by_cases h : u > 0
      · rw [if_pos h]; decide
      · rw [if_neg h, show u = 0 by omega]; decide
    rw [decide_eq_true (congrArg V.int (show howF 5 2 0 1 = 0 by decide +kernel))]
    exact q _
end
end My

open PySem PySem.W PySem.Calls PyProof.Rows
set_option maxRecDepth 100000 in
set_option maxHeartbeats 0 in
theorem PySem.Challenge.cw_wholesound_k50_rows_of_each_size_holds : PySem.Challenge.rw_wholesound_k50_rows_of_each_size.Holds := by
  w_on; o_law
  refine HandSHeadRun.head_any (r := OpenLaw.row PySem.Challenge.rw_wholesound_k50_rows_of_each_size) (q := view (OpenLaw.row PySem.Challenge.rw_wholesound_k50_rows_of_each_size).prog [50]) (H := My.hk) (ob := My.ob) (M := 8000) (loose := My.loose) (d := HandSHeadRun.topDef (OpenLaw.row PySem.Challenge.rw_wholesound_k50_rows_of_each_size).prog 50) (kwd := []) My.ob_eq
    (by kernel_rfl) (fun s => by kernel_rfl) My.run (by kernel_rfl) (by kernel_rfl) (by kernel_rfl) (by rfl) (by first | assumption | decide +kernel) (by decide +kernel) ⟨rfl, rfl, rfl, rfl, rfl, by decide +kernel⟩ ?hw ?hc
  case hw => w_witness2
  case hc =>
    refine L2.walk_ofE (l := PySem.Challenge.rw_wholesound_k50_rows_of_each_size) (n := 63) (k := 9) (x := "_law_script") (CX := L2.CX0) rfl (by decide) (by kernel_rfl) ⟨rfl, by decide, by decide⟩ ?F (fun _ _ _ _ z => z)
    intro w mg fa h Y G hmg0
    obtain ⟨K, KX, c⟩ := Y
    have hmg : mg ("law" : PySem.Str) = some (.ref fa) := by
      have e : (HandSHeadRun.topDef (OpenLaw.row PySem.Challenge.rw_wholesound_k50_rows_of_each_size).prog 50).name = ("law" : PySem.Str) := by kernel_rfl
      rw [← e]
      exact hmg0
    have T : My.Top K mg := My.top_mk KX G c
    have e := hmg.symm.trans T.g_law
    cases e
    have b := L2.FunD.bindsA (ps := ["_law_script"]) T.F_law fun _ _ _ _ _ _ us hl => match us, hl with | [_], _ => rfl
    exact ⟨K, T.fd_law, My.sp_law K, KX, fun s v => b s [v] rfl, fun H a ns hl _ hS => ⟨a, ns, rfl, hS, hl, fun _ => rfl⟩, fun base _ _ => My.G_law T⟩


