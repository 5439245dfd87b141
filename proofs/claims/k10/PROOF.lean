import PyProof.Rows.All
import Wide.All
import OpenK.AllK
import Wide.FinOn
import KE.KStateDown
import Lean
import HandS.ForMost
import HandS.Exc
import HandS.Flow
import HandS.DictComp
import HandS.Style
import HandS.Wide
import HandS.WideBits
import HandS.IsInst
import HandS.Codes
import HandS.Walk
import HandS.Words
import HandS.WordsExc
import HandS.Defaults
import HandS.Head0
import HandS.Head1
import HandS.Head2
import HandS.HeadEnd
import HandS.HeadHook1
import HandS.HeadHook2
import HandS.SortInts
import PyProof.Rows.SortShellAny
import PyProof.InstNe
import PySem.Challenge.RW_wholesound_k10_guesses_and_rests
set_option Elab.async false
set_option linter.all false
set_option maxRecDepth 100000
set_option maxHeartbeats 4000000
set_option exponentiation.threshold 100000
namespace Pre
open PySem PySem.Spec PyProof.Rows L2
/-! ### heaps -/
theorem same_upd {H : Hp} {p : Addr} {o : HO} (h : H p = none) : Same H (upd H p o) := fun b x e => by
  rw [upd_ne (ne_of_none e h)]
  exact e
/-- a fresh thing that is then changed is no change of what was -/
theorem same_over {H H' : Hp} {p : Addr} {o : HO} (n : H p = none) (s : Same H H') : Same H (upd H' p o) := fun b x e => by
  rw [upd_ne (ne_of_none e n)]
  exact s b x e
theorem Same.tup {K : PySem.W.Frag} {H H' : Hp} {a : Addr} {xs : List V} (e : Same H H') (h : SqT K H a xs) : SqT K H' a xs := by
  rcases h with (h | ⟨o, h⟩) | h
  · exact .inl (.inl (e _ _ h))
  · exact .inl (.inr ⟨o, e _ _ h⟩)
  · exact .inr h
mutual
theorem dp_same {K : PySem.W.Frag} {H H' : Hp} (s : Same H H') : ∀ (d : PyData) (v : V), Dp K H v d → Dp K H' v d
  | .none, _, h => by cases h; exact .non
  | .bool _, _, h => by cases h; exact .bl _
  | .int _, _, h => by cases h; exact .int _
  | .str _, _, h => by cases h; exact .str _
  | .list ds, _, h => by cases h with | lst a b => exact .lst (s.seq a) (dps_same s ds _ b)
  | .tuple ds, _, h => by cases h with | tup a b => exact .tup (Same.tup s a) (dps_same s ds _ b)
  | .dict _, _, h => nomatch h
theorem dps_same {K : PySem.W.Frag} {H H' : Hp} (s : Same H H') : ∀ (ds : List PyData) (vs : List V), DpAll K H vs ds → DpAll K H' vs ds
  | [], _, h => by cases h; exact .nil
  | d :: ds, _, h => by cases h with | cons a b => exact .cons (dp_same s d _ a) (dps_same s ds _ b)
end
theorem dp_ints {K : PySem.W.Frag} {H : Hp} : ∀ ns : List Int, DpAll K H (ns.map V.int) (ns.map PyData.int)
  | [] => .nil
  | n :: r => .cons (.int n) (dp_ints r)
theorem eqv_ints : ∀ ns ms : List Int, PyData.eqvAll (ns.map PyData.int) (ms.map PyData.int) = decide (ns = ms)
  | [], [] => rfl
  | [], _ :: _ => rfl
  | _ :: _, [] => rfl
  | n :: r, m :: q => by
    show (PyData.eqv (.int n) (.int m) && PyData.eqvAll (r.map PyData.int) (q.map PyData.int)) = decide (n :: r = m :: q)
    rw [eqv_ints r q]
    show ((n == m) && decide (r = q)) = decide (n :: r = m :: q)
    by_cases h : n = m
    · subst h; simp
    · simp [h]
theorem lay_ints : ∀ ns : List Int, PyData.canLayAll0 (ns.map PyData.int) = true
  | [] => rfl
  | n :: r => by
    show (PyData.canLay0 (.int n) && PyData.canLayAll0 (r.map PyData.int)) = true
    rw [lay_ints r]
    rfl
theorem depth_ints : ∀ ns : List Int, PyData.depthAll (ns.map PyData.int) = 0
  | [] => by simp [PyData.depthAll]
  | n :: r => by
    show PyData.depthAll (.int n :: r.map PyData.int) = 0
    rw [PyData.depthAll, depth_ints r]
    simp [PyData.depth]
theorem shaped_ints (ns : List Int) : SeqAt.shaped (.list (ns.map PyData.int)) = true := by
  unfold SeqAt.shaped
  rw [PyData.canLay0, lay_ints, PyData.depth, depth_ints]
  rfl
theorem shaped_tup (ns : List Int) : SeqAt.shaped (.tuple (ns.map PyData.int)) = true := by
  unfold SeqAt.shaped
  rw [PyData.canLay0, lay_ints, PyData.depth, depth_ints]
  rfl
/-! ### comparisons of lists and tuples of whole numbers that are told alike -/
theorem ne_tup {K : PySem.W.Frag} {H : Hp} {a b : Addr} {ns : List Int} {Q : V → Hp → Prop} (ha : SqT K H a (ns.map V.int)) (hb : SqT K H b (ns.map V.int)) (q : Q (.bl false) H) : rNeD K (.ref a) (.ref b) H Q := by
  refine ⟨.tuple (ns.map PyData.int), .tuple (ns.map PyData.int), .tup ha (dp_ints ns), .tup hb (dp_ints ns), shaped_tup ns, shaped_tup ns, ?_⟩
  rw [PyData.eqv, eqv_ints, decide_eq_true rfl]
  exact q
theorem eq_tup {K : PySem.W.Frag} {H : Hp} {a b : Addr} {ns : List Int} {Q : V → Hp → Prop} (ha : SqT K H a (ns.map V.int)) (hb : SqT K H b (ns.map V.int)) (q : Q (.bl true) H) : rEqD K (.ref a) (.ref b) H Q := by
  refine ⟨.tuple (ns.map PyData.int), .tuple (ns.map PyData.int), .tup ha (dp_ints ns), .tup hb (dp_ints ns), shaped_tup ns, shaped_tup ns, ?_⟩
  rw [PyData.eqv, eqv_ints, decide_eq_true rfl]
  exact q
/-- lists of whole numbers, compared -/
theorem eqD_lst {K : PySem.W.Frag} {H : Hp} {a b : Addr} {ns ms : List Int} {Q : V → Hp → Prop} (ha : SqL K H a (ns.map V.int)) (hb : SqL K H b (ms.map V.int)) (q : Q (.bl (decide (ns = ms))) H) : rEqD K (.ref a) (.ref b) H Q := by
  refine ⟨.list (ns.map PyData.int), .list (ms.map PyData.int), .lst ha (dp_ints ns), .lst hb (dp_ints ms), shaped_ints ns, shaped_ints ms, ?_⟩
  rw [PyData.eqv, eqv_ints]
  exact q
theorem neD_lst {K : PySem.W.Frag} {H : Hp} {a b : Addr} {ns ms : List Int} {Q : V → Hp → Prop} (ha : SqL K H a (ns.map V.int)) (hb : SqL K H b (ms.map V.int)) (q : Q (.bl (!decide (ns = ms))) H) : rNeD K (.ref a) (.ref b) H Q := by
  refine ⟨.list (ns.map PyData.int), .list (ms.map PyData.int), .lst ha (dp_ints ns), .lst hb (dp_ints ms), shaped_ints ns, shaped_ints ms, ?_⟩
  rw [PyData.eqv, eqv_ints]
  exact q
theorem ne_lst {K : PySem.W.Frag} {H : Hp} {a b : Addr} {ns : List Int} {Q : V → Hp → Prop} (ha : SqL K H a (ns.map V.int)) (hb : SqL K H b (ns.map V.int)) (q : Q (.bl false) H) : rNeD K (.ref a) (.ref b) H Q :=
  neD_lst ha hb (by rw [decide_eq_true rfl]; exact q)
theorem eq_lst {K : PySem.W.Frag} {H : Hp} {a b : Addr} {ns : List Int} {Q : V → Hp → Prop} (ha : SqL K H a (ns.map V.int)) (hb : SqL K H b (ns.map V.int)) (q : Q (.bl true) H) : rEqD K (.ref a) (.ref b) H Q :=
  eqD_lst ha hb (by rw [decide_eq_true rfl]; exact q)
/-! ### powers -/
def CPowW (i j : Int) : Prop := 0 ≤ j ∧ (Builtin.Int.intBits i : Int) * j ≤ 2 ^ 27
theorem op_powW {X : Cx} : OpR X (binaryOp .Pow) (rI CPowW fun i j => .int (i ^ j.toNat)) := opI fun _ _ _ _ _ _ _ hc q => pow_int hc.1 hc.2 q
/-! ### comprehensions whose parts leave what is tracked as it is: sel tells of each item what comes of it -/
theorem take_fm {α : Type} {l : List (Option α)} {i : Nat} {o : Option α} (h : l[i]? = some o) : (l.take (i + 1)).filterMap id = (l.take i).filterMap id ++ o.toList := by
  rw [List.take_add_one, h, List.filterMap_append]
  cases o <;> rfl
theorem fm_len {α : Type} (l : List (Option α)) (i : Nat) : ((l.take i).filterMap id).length ≤ l.length :=
  Nat.le_trans (List.length_filterMap_le _ _) (by rw [List.length_take]; omega)
theorem lc_selL {K : PySem.W.Frag} {a : Addr} {xs : List V} {j : Nat} {tt : TT} {te : TE} {vs : List Nat} {σ : L2.St} {H1 : Hp} {D : Addr} {Qd : Hp → Prop} (sel : List (Option V)) (nD : H1 D = none) (hS : SqL K H1 a xs) (hlen : sel.length = xs.length) (hz : xs.length < sizeLine)
    (hw : ∀ x, wipe ((wipe σ vs).set j (some x)) vs = wipe σ vs)
    (hs : ∀ (i : Nat) (x : V) (o : Option V) (H' : Hp), xs[i]? = some x → sel[i]? = some o → Same H1 H' → ∀ Qt : Option V → Hp → Prop, (∀ H'', Same H' H'' → Qt o H'') →
      tt ((wipe σ vs).set j (some x)) H' fun b H3 => if b = true then te ((wipe σ vs).set j (some x)) H3 fun y H4 => Qt (some y) H4 else Qt none H3)
    (hd : ∀ H', Same H1 H' → H' D = some (.lst (sel.filterMap id)) → Qd H') :
    ∃ W : Nat → Nat → Hp → Prop, (∃ m, W 0 m (upd H1 D (.lst []))) ∧ ∀ i m H, W i m H →
      ((Itl K a).stop i H ∧ Qd H) ∨ ((Itl K a).go i H ∧ ∃ Nx : Hp → Prop, (∀ H', Nx H' → ∃ m', m' < m ∧ W (i + 1) m' H') ∧ ∀ x H', (Itl K a).yld i H x H' → gName j x (wipe σ vs) H' fun σ2 H2 => wipe σ2 vs = wipe σ vs ∧ tt σ2 H2 fun b H3 =>
        if b = true then te σ2 H3 fun y H4 => ∃ acc, H4 D = some (.lst acc) ∧ acc.length < sizeLine ∧ Nx (upd H4 D (.lst (acc ++ [y]))) else Nx H3) := by
  refine lc_list (K := K) (a := a) (xs := xs) (fun i H => Same H1 H ∧ H D = some (.lst ((sel.take i).filterMap id))) ⟨same_upd nD, upd_same⟩ (fun i H _ p => p.1.seq hS) ?_ ?_
  · rintro i x H hx ⟨s, hD⟩
    refine ⟨hw x, ?_⟩
    have hi : i < sel.length := by rw [hlen]; exact (List.getElem?_eq_some_iff.mp hx).1
    have ho : sel[i]? = some sel[i] := List.getElem?_eq_getElem hi
    have hl : ((sel.take i).filterMap id).length < sizeLine := Nat.lt_of_le_of_lt (fm_len sel i) (by omega)
    refine hs i x sel[i] H hx ho s (fun o H4 => match o with
      | some y => ∃ acc, H4 D = some (.lst acc) ∧ acc.length < sizeLine ∧ (Same H1 (upd H4 D (.lst (acc ++ [y]))) ∧ (upd H4 D (.lst (acc ++ [y]))) D = some (.lst ((sel.take (i + 1)).filterMap id)))
      | none => Same H1 H4 ∧ H4 D = some (.lst ((sel.take (i + 1)).filterMap id))) fun H4 s4 => ?_
    generalize sel[i] = o at ho ⊢
    cases o with
    | some y =>
      refine ⟨_, s4 _ _ hD, hl, same_over nD (s.trans s4), ?_⟩
      rw [upd_same, take_fm ho]
      rfl
    | none =>
      refine ⟨s.trans s4, ?_⟩
      rw [take_fm ho, s4 _ _ hD]
      simp
  · rintro H ⟨s, hD⟩
    refine hd H s ?_
    rw [hD, ← hlen, List.take_length]
/-- the items of a range -/
def rgV (lo : Int) (n : Nat) : List V := (List.range n).map fun (i : Nat) => V.int (lo + (i : Int))
theorem lc_selR {lo : Int} {n : Nat} {j : Nat} {tt : TT} {te : TE} {vs : List Nat} {σ : L2.St} {H1 : Hp} {D : Addr} {Qd : Hp → Prop} (sel : List (Option V)) (nD : H1 D = none) (hlen : sel.length = n) (hz : n < sizeLine)
    (hw : ∀ x, wipe ((wipe σ vs).set j (some x)) vs = wipe σ vs)
    (hs : ∀ (i : Nat) (o : Option V) (H' : Hp), i < n → sel[i]? = some o → Same H1 H' → ∀ Qt : Option V → Hp → Prop, (∀ H'', Same H' H'' → Qt o H'') →
      tt ((wipe σ vs).set j (some (.int (lo + (i : Int))))) H' fun b H3 => if b = true then te ((wipe σ vs).set j (some (.int (lo + (i : Int))))) H3 fun y H4 => Qt (some y) H4 else Qt none H3)
    (hd : ∀ H', Same H1 H' → H' D = some (.lst (sel.filterMap id)) → Qd H') :
    ∃ W : Nat → Nat → Hp → Prop, (∃ m, W 0 m (upd H1 D (.lst []))) ∧ ∀ i m H, W i m H →
      ((Itr lo n).stop i H ∧ Qd H) ∨ ((Itr lo n).go i H ∧ ∃ Nx : Hp → Prop, (∀ H', Nx H' → ∃ m', m' < m ∧ W (i + 1) m' H') ∧ ∀ x H', (Itr lo n).yld i H x H' → gName j x (wipe σ vs) H' fun σ2 H2 => wipe σ2 vs = wipe σ vs ∧ tt σ2 H2 fun b H3 =>
        if b = true then te σ2 H3 fun y H4 => ∃ acc, H4 D = some (.lst acc) ∧ acc.length < sizeLine ∧ Nx (upd H4 D (.lst (acc ++ [y]))) else Nx H3) := by
  refine lc_range (lo := lo) (n := n) (fun i H => Same H1 H ∧ H D = some (.lst ((sel.take i).filterMap id))) ⟨same_upd nD, upd_same⟩ ?_ ?_
  · rintro i H hi' ⟨s, hD⟩
    refine ⟨hw _, ?_⟩
    have hi : i < sel.length := by rw [hlen]; exact hi'
    have ho : sel[i]? = some sel[i] := List.getElem?_eq_getElem hi
    have hl : ((sel.take i).filterMap id).length < sizeLine := Nat.lt_of_le_of_lt (fm_len sel i) (by omega)
    refine hs i sel[i] H hi' ho s (fun o H4 => match o with
      | some y => ∃ acc, H4 D = some (.lst acc) ∧ acc.length < sizeLine ∧ (Same H1 (upd H4 D (.lst (acc ++ [y]))) ∧ (upd H4 D (.lst (acc ++ [y]))) D = some (.lst ((sel.take (i + 1)).filterMap id)))
      | none => Same H1 H4 ∧ H4 D = some (.lst ((sel.take (i + 1)).filterMap id))) fun H4 s4 => ?_
    generalize sel[i] = o at ho ⊢
    cases o with
    | some y =>
      refine ⟨_, s4 _ _ hD, hl, same_over nD (s.trans s4), ?_⟩
      rw [upd_same, take_fm ho]
      rfl
    | none =>
      refine ⟨s.trans s4, ?_⟩
      rw [take_fm ho, s4 _ _ hD]
      simp
  · rintro H ⟨s, hD⟩
    refine hd H s ?_
    rw [hD, ← hlen, List.take_length]
theorem fm_some {α : Type} (ys : List α) : (ys.map some).filterMap id = ys := by
  rw [List.filterMap_map]
  show List.filterMap (fun y => some y) ys = ys
  exact List.filterMap_some
/-- no test: ys tells what comes of each item -/
theorem lc_mapL {K : PySem.W.Frag} {a : Addr} {xs : List V} {j : Nat} {te : TE} {vs : List Nat} {σ : L2.St} {H1 : Hp} {D : Addr} {Qd : Hp → Prop} (ys : List V) (nD : H1 D = none) (hS : SqL K H1 a xs) (hlen : ys.length = xs.length) (hz : xs.length < sizeLine)
    (hw : ∀ x, wipe ((wipe σ vs).set j (some x)) vs = wipe σ vs)
    (hs : ∀ (i : Nat) (x y : V) (H' : Hp), xs[i]? = some x → ys[i]? = some y → Same H1 H' → ∀ Qt : V → Hp → Prop, (∀ H'', Same H' H'' → Qt y H'') → te ((wipe σ vs).set j (some x)) H' Qt)
    (hd : ∀ H', Same H1 H' → H' D = some (.lst ys) → Qd H') :
    ∃ W : Nat → Nat → Hp → Prop, (∃ m, W 0 m (upd H1 D (.lst []))) ∧ ∀ i m H, W i m H →
      ((Itl K a).stop i H ∧ Qd H) ∨ ((Itl K a).go i H ∧ ∃ Nx : Hp → Prop, (∀ H', Nx H' → ∃ m', m' < m ∧ W (i + 1) m' H') ∧ ∀ x H', (Itl K a).yld i H x H' → gName j x (wipe σ vs) H' fun σ2 H2 => wipe σ2 vs = wipe σ vs ∧ tYes σ2 H2 fun b H3 =>
        if b = true then te σ2 H3 fun y H4 => ∃ acc, H4 D = some (.lst acc) ∧ acc.length < sizeLine ∧ Nx (upd H4 D (.lst (acc ++ [y]))) else Nx H3) := by
  refine lc_selL (K := K) (a := a) (xs := xs) (tt := tYes) (ys.map some) nD hS (by rw [List.length_map]; exact hlen) hz hw ?_ ?_
  · intro i x o H' hx ho s Qt qt
    rw [List.getElem?_map] at ho
    obtain ⟨y, hy, rfl⟩ := Option.map_eq_some_iff.mp ho
    show if true = true then te ((wipe σ vs).set j (some x)) H' (fun y H4 => Qt (some y) H4) else Qt none H'
    exact iteT (hs i x y H' hx hy s (fun y H4 => Qt (some y) H4) qt)
  · intro H' s hD
    rw [fm_some] at hD
    exact hd H' s hD
theorem lc_mapR {lo : Int} {n : Nat} {j : Nat} {te : TE} {vs : List Nat} {σ : L2.St} {H1 : Hp} {D : Addr} {Qd : Hp → Prop} (ys : List V) (nD : H1 D = none) (hlen : ys.length = n) (hz : n < sizeLine)
    (hw : ∀ x, wipe ((wipe σ vs).set j (some x)) vs = wipe σ vs)
    (hs : ∀ (i : Nat) (y : V) (H' : Hp), i < n → ys[i]? = some y → Same H1 H' → ∀ Qt : V → Hp → Prop, (∀ H'', Same H' H'' → Qt y H'') → te ((wipe σ vs).set j (some (.int (lo + (i : Int))))) H' Qt)
    (hd : ∀ H', Same H1 H' → H' D = some (.lst ys) → Qd H') :
    ∃ W : Nat → Nat → Hp → Prop, (∃ m, W 0 m (upd H1 D (.lst []))) ∧ ∀ i m H, W i m H →
      ((Itr lo n).stop i H ∧ Qd H) ∨ ((Itr lo n).go i H ∧ ∃ Nx : Hp → Prop, (∀ H', Nx H' → ∃ m', m' < m ∧ W (i + 1) m' H') ∧ ∀ x H', (Itr lo n).yld i H x H' → gName j x (wipe σ vs) H' fun σ2 H2 => wipe σ2 vs = wipe σ vs ∧ tYes σ2 H2 fun b H3 =>
        if b = true then te σ2 H3 fun y H4 => ∃ acc, H4 D = some (.lst acc) ∧ acc.length < sizeLine ∧ Nx (upd H4 D (.lst (acc ++ [y]))) else Nx H3) := by
  refine lc_selR (lo := lo) (n := n) (tt := tYes) (ys.map some) nD (by rw [List.length_map]; exact hlen) hz hw ?_ ?_
  · intro i o H' hi ho s Qt qt
    rw [List.getElem?_map] at ho
    obtain ⟨y, hy, rfl⟩ := Option.map_eq_some_iff.mp ho
    show if true = true then te ((wipe σ vs).set j (some (.int (lo + (i : Int))))) H' (fun y H4 => Qt (some y) H4) else Qt none H'
    exact iteT (hs i y H' hi hy s (fun y H4 => Qt (some y) H4) qt)
  · intro H' s hD
    rw [fm_some] at hD
    exact hd H' s hD
/-- an item of a list of whole numbers -/
theorem int_at {ns : List Int} {i : Nat} {x : V} (h : (ns.map V.int)[i]? = some x) : ∃ n, ns[i]? = some n ∧ x = .int n := by
  rw [List.getElem?_map] at h
  obtain ⟨n, hn, e⟩ := Option.map_eq_some_iff.mp h
  exact ⟨n, hn, e.symm⟩
/-! ### rules with the written part named (within a comprehension Lean doesn't find it) -/
section
variable {X : Cx}
theorem k_len (K : PySem.W.Frag) (h : X.K = K) : CallR X (.builtin "len") (fun xs H Q => ∃ p ys, xs = [.ref p] ∧ (SqL K H p ys ∨ SqT K H p ys) ∧ Q (.int ys.length) H) := by subst h; exact call_len_seq
theorem k_sum (K : PySem.W.Frag) (h : X.K = K) (hc : X.calm = true) : CallR X (.builtin "sum") (rSum K) := by subst h; exact cr_sum hc
theorem k_max (K : PySem.W.Frag) (h : X.K = K) (hc : X.calm = true) : CallR X (.builtin "max") (rMax K) := by subst h; exact cr_max hc
theorem k_min (K : PySem.W.Frag) (h : X.K = K) (hc : X.calm = true) : CallR X (.builtin "min") (rMin K) := by subst h; exact cr_min hc
theorem k_isi (K : PySem.W.Frag) (h : X.K = K) : CallR X (.builtin "isinstance") (rIsi K) := by subst h; exact call_isi
theorem k_listOf (K : PySem.W.Frag) (h : X.K = K) : CallR X (.type "list") (fun xs H Q => ∃ p ys, xs = [.ref p] ∧ (SqL K H p ys ∨ SqT K H p ys) ∧ ∀ l, H l = none → Q (.ref l) (upd H l (.lst ys))) := by subst h; exact call_list_of
theorem k_tupleOf (K : PySem.W.Frag) (h : X.K = K) : CallR X (.type "tuple") (fun xs H Q => ∃ p ys, xs = [.ref p] ∧ ((SqL K H p ys ∧ ∀ l, H l = none → Q (.ref l) (upd H l (.tup ys))) ∨ (SqT K H p ys ∧ Q (.ref p) H))) := by subst h; exact call_tuple_of
theorem k_ixL (K : PySem.W.Frag) (h : X.K = K) : IxR X (rIxL K) := by subst h; exact ix_list
theorem k_ixT (K : PySem.W.Frag) (h : X.K = K) : IxR X (rIxT K) := by subst h; exact ix_tup
theorem k_slL (K : PySem.W.Frag) (h : X.K = K) : SlR X (rSlL K) := by subst h; exact sl_list
theorem k_slT (K : PySem.W.Frag) (h : X.K = K) : SlR X (rSlT K) := by subst h; exact sl_tup
theorem k_eqD (K : PySem.W.Frag) (h : X.K = K) (hu : X.A.units + 64 < cLine) : OpR X (compareOp .Eq) (rEqD K) := by subst h; exact op_eqD hu
theorem k_neD (K : PySem.W.Frag) (h : X.K = K) (hu : X.A.units + 64 < cLine) : OpR X (compareOp .NotEq) (rNeD K) := by subst h; exact op_neD hu
theorem k_in (K : PySem.W.Frag) (h : X.K = K) : OpR X (compareOp .In) (rIn K false) := by subst h; exact op_in_seq
theorem k_notIn (K : PySem.W.Frag) (h : X.K = K) : OpR X (compareOp .NotIn) (rIn K true) := by subst h; exact op_notIn_seq
theorem k_piL (K : PySem.W.Frag) (h : X.K = K) {tg l : Expr} {tl : TE} (hl : PE X l tl) : PI X tg l (iList K tl) := by subst h; exact pi_list hl
theorem k_piT (K : PySem.W.Frag) (h : X.K = K) {tg l : Expr} {tl : TE} (hl : PE X l tl) : PI X tg l (iTup K tl) := by subst h; exact pi_tup hl
theorem k_piE (K : PySem.W.Frag) (h : X.K = K) {e : Expr} {ta : TA} {p pos tpos : Pos} {elts : List Expr} {kk : Nat} (hg : Gl X "enumerate") (hm : X.mg "enumerate" = none) (ha : PA X [e] ta) (hs : starEach [e] X.env = [(false, eval e X.env)] := by rfl) : PI X (.Tuple elts kk tpos) (.Call (.Name "enumerate" p) [e] [] pos) (iEnum K ta) := by subst h; exact pi_enum hg hm ha hs
theorem k_pgT (K : PySem.W.Frag) (h : X.K = K) {es : List Expr} {k : Nat} {t : TGs} {n : Nat} {pos : Pos} (hc : X.calm = true) (hp : PGs X es t) (hn : (assignEach es X.env).length = n := by rfl) (hst : (assignEach es X.env).findIdx? (·.1) = none := by rfl) : PG X (.Tuple es k pos) (gTup K n t) := by subst h; exact pg_tup hc hp hn hst
theorem k_index (K : PySem.W.Frag) (h : X.K = K) : MtR X "list.index" (rIndex K) := by subst h; exact mt_index
end
/-! ### small things -/
theorem fresh {H : Hp} {p : Addr} (o : HO) (np : H p = none) : ∃ H', upd H p o = H' ∧ Same H H' ∧ H' p = some o := ⟨_, rfl, same_upd np, upd_same⟩
theorem cut_take (xs : List V) (k : Nat) : cutV xs none (some (k : Int)) = xs.take k := by
  unfold cutV
  rw [HT.sIx_nat, HT.sIx_none, List.drop_zero, Nat.sub_zero]
  rcases Nat.le_total k xs.length with h | h
  · rw [Nat.min_eq_left h]
  · rw [Nat.min_eq_right h, List.take_of_length_le h, List.take_length]
theorem cut_drop (xs : List V) (k : Nat) : cutV xs (some (k : Int)) none = xs.drop k := by
  unfold cutV
  rw [HT.sIx_nat, HT.sIx_none]
  rcases Nat.le_total k xs.length with h | h
  · rw [Nat.min_eq_left h, List.take_of_length_le (by rw [List.length_drop]; exact Nat.le_refl _)]
  · rw [Nat.min_eq_right h, List.drop_length, List.drop_of_length_le h, List.take_nil]
theorem rep_ints (k : Nat) (ks : List Int) : (List.replicate k (ks.map V.int)).flatten = ((List.replicate k ks).flatten).map V.int := by
  rw [List.map_flatten, List.map_replicate]
theorem rep_len {α : Type} (k : Nat) (ks : List α) : ((List.replicate k ks).flatten).length = k * ks.length := by
  induction k with
  | zero => simp
  | succ k ih => rw [List.replicate_succ, List.flatten_cons, List.length_append, ih, Nat.succ_mul]; omega
theorem rep_mem {α : Type} {k : Nat} {ks : List α} {x : α} (h : x ∈ (List.replicate k ks).flatten) : x ∈ ks := by
  obtain ⟨l, hl, hx⟩ := List.mem_flatten.mp h
  rw [(List.mem_replicate.mp hl).2] at hx
  exact hx
/-! ### comprehensions that make new things: R tells what is known of the i-th; D is no part of it -/
def Off (D : Addr) (H H' : Hp) : Prop := ∀ b o, b ≠ D → H b = some o → H' b = some o
def RelPv (R : Nat → V → Hp → Prop) (H1 : Hp) (D : Addr) (i : Nat) (H : Hp) : Prop := ∃ ys : List V, Same H1 H ∧ H D = some (.lst ys) ∧ ys.length = i ∧ ∀ (k : Nat) (y : V), ys[k]? = some y → R k y H
theorem lc_relR {lo : Int} {n : Nat} {j : Nat} {te : TE} {vs : List Nat} {σ : L2.St} {H1 : Hp} {D : Addr} {Qd : Hp → Prop} (R : Nat → V → Hp → Prop) (nD : H1 D = none) (hz : n < sizeLine)
    (mono : ∀ i y H H', Off D H H' → R i y H → R i y H')
    (hw : ∀ x, wipe ((wipe σ vs).set j (some x)) vs = wipe σ vs)
    (hs : ∀ (i : Nat) (H' : Hp) (xs : List V), i < n → Same H1 H' → H' D = some (.lst xs) → ∀ Qt : V → Hp → Prop, (∀ y H'', Same H' H'' → R i y H'' → Qt y H'') → te ((wipe σ vs).set j (some (.int (lo + (i : Int))))) H' Qt)
    (hd : ∀ H' ys, Same H1 H' → H' D = some (.lst ys) → ys.length = n → (∀ (i : Nat) (y : V), ys[i]? = some y → R i y H') → Qd H') :
    ∃ W : Nat → Nat → Hp → Prop, (∃ m, W 0 m (upd H1 D (.lst []))) ∧ ∀ i m H, W i m H →
      ((Itr lo n).stop i H ∧ Qd H) ∨ ((Itr lo n).go i H ∧ ∃ Nx : Hp → Prop, (∀ H', Nx H' → ∃ m', m' < m ∧ W (i + 1) m' H') ∧ ∀ x H', (Itr lo n).yld i H x H' → gName j x (wipe σ vs) H' fun σ2 H2 => wipe σ2 vs = wipe σ vs ∧ tYes σ2 H2 fun b H3 =>
        if b = true then te σ2 H3 fun y H4 => ∃ acc, H4 D = some (.lst acc) ∧ acc.length < sizeLine ∧ Nx (upd H4 D (.lst (acc ++ [y]))) else Nx H3) := by
  refine lc_range (lo := lo) (n := n) (RelPv R H1 D) ⟨[], same_upd nD, upd_same, rfl, fun k y h => by simp at h⟩ ?_ ?_
  · rintro i H hi ⟨ys, s, hD, hl, hR⟩
    refine ⟨hw _, ?_⟩
    show if true = true then te ((wipe σ vs).set j (some (.int (lo + (i : Int))))) H (fun y H4 => ∃ acc, H4 D = some (.lst acc) ∧ acc.length < sizeLine ∧ RelPv R H1 D (i + 1) (upd H4 D (.lst (acc ++ [y])))) else RelPv R H1 D (i + 1) H
    refine iteT (hs i H ys hi s hD _ fun y H4 s4 r4 => ?_)
    refine ⟨ys, s4 _ _ hD, by omega, ys ++ [y], same_over nD (s.trans s4), upd_same, by rw [List.length_append, hl]; rfl, fun k z hz => ?_⟩
    have off : Off D H4 (upd H4 D (.lst (ys ++ [y]))) := fun b o nb h => by rw [upd_ne nb]; exact h
    by_cases hk : k < ys.length
    · rw [List.getElem?_append_left hk] at hz
      exact mono k z H _ (fun b o nb h => off b o nb (s4 b o h)) (hR k z hz)
    · rw [List.getElem?_append_right (by omega)] at hz
      have hk2 : k - ys.length = 0 := by
        have h2 := (List.getElem?_eq_some_iff.mp hz).1
        rw [List.length_singleton] at h2
        omega
      rw [hk2] at hz
      cases hz
      have ek : k = i := by omega
      rw [ek]
      exact mono i y H4 _ off r4
  · rintro H ⟨ys, s, hD, hl, hR⟩
    exact hd H ys s hD hl hR
end Pre

namespace My
open PySem PySem.Spec PyProof.Rows L2 Pre
/-! ### == and != of instances by their class's own __eq__ -/
/-- != of a class with own __eq__, without own __ne__ -/
theorem own_ne {prog : Program} {w : World} {A : Around} {E : Value → Shared → Prop} {s : Shared} {K : PySem.W.Frag} {x C f : Addr} {ox : Obj} {od : Option Obj} {b tb : Value} {Q : Value → Shared → Prop} (room : A.units + 1 < cLine) (kin : K.In s.heap)
    (inst : PySem.W.InstAt s.heap x ox C od) (tyb : PySem.W.Looks (model prog w) s.heap (typeOf b) tb) (nf : PySem.W.notFirst K C tb = true) (hne : PySem.W.findIn K (.ref C) "__ne__" = some (some (.builtin "object.__ne__")))
    (heq : PySem.W.findIn K (.ref C) "__eq__" = some (some (.ref f))) (isf : PySem.W.isFn K (.ref f) = true) (hob : PySem.W.subIn K (.ref C) (.type "object") = some true)
    (h : wpAny (model prog w) A.in1 (call (.ref f) [.ref x, b]) (fun v s' => ∃ r, v = .bool r ∧ Q (.bool (!r)) s') E s) : wpAny (model prog w) A (richCompare .NotEq (.ref x) b) Q E s := by
  have body : wpAny (model prog w) A.in1 (Builtin.«object.__ne__» ⟨[.ref x, b], []⟩) (fun fin s' => ∃ r, fin = .done (.ret (.bool r)) ∧ Q (.bool r) s') E s := by
    unfold Builtin.«object.__ne__»
    refine wpAny_bind (wpAny_of_eq (a := ((Value.ref x : Value), [b])) (by first | rfl | (simp only [slotArgs]; rfl)) ?_)
    refine wpAny_bind (wpAny_cRoomFor (show A.in1.units < cLine from room) ?_)
    refine wpAny_bind (PySem.W.ifBound_K kin inst heq isf (wpAny_mono h (fun v s' hv => ?_) fun _ _ e => e))
    obtain ⟨r, rfl, q⟩ := hv
    refine wpAny_bind (wpAny_truthy_bool ?_)
    exact wpAny_pure ⟨!r, rfl, q⟩
  have one : wpAny (model prog w) A (tryCompare (.ref x) "__ne__" b) (fun o s' => ∃ v, o = some v ∧ Q v s') E s := by
    have called : wpAny (model prog w) A (call (.builtin "object.__ne__") ([.ref x] ++ [b]) >>= fun v => pure (some v)) (fun o s' => ∃ v r, o = some v ∧ v = .bool r ∧ Q v s') E s := by
      refine wpAny_bind (wpAny_call (codeAny_call_builtin PySem.F.cmp_object.ne.plain PySem.F.cmpEntry_ne (PySem.W.check_slot PySem.F.cmpKind_ne PySem.F.cmpSplit_ne (inst.type.andThen (PySem.W.looks_subIn kin hob)) (PySem.F.cmpArgs_ne _ _) ?_)))
      refine wpAny_mono body (fun fin s' hf => ?_) fun _ _ e => e
      obtain ⟨r, rfl, q⟩ := hf
      exact wpAny_pure ⟨_, r, rfl, rfl, q⟩
    have inner : wpAny (model prog w) A (callSpecialIfBound? (.ref x) "__ne__" [b]) (fun o s' => ∃ v r, o = some v ∧ v = .bool r ∧ Q v s') E s := by
      simp only [callSpecialIfBound?, bindSpecialIfBound?]
      refine wpAny_holding (wpAny_bind (wpAny_bind (wpAny_bind (inst.type.here ((PySem.W.looks_findIn kin hne).here ?_)))))
      refine wpAny_bind (wpAny_askSetting (wpAny_ite ?_))
      rw [PySem.F.cmp_object.ne.bind]
      split
      · exact wpAny_bind (wpAny_pure (wpAny_pure called))
      · exact wpAny_tryCatch (wpAny_bind (wpAny_pure (wpAny_pure called)))
    unfold tryCompare
    refine wpAny_bind (wpAny_mono inner (fun o s' ho => ?_) fun _ _ e => e)
    obtain ⟨v, r, rfl, rfl, q⟩ := ho
    exact wpAny_pure ⟨_, rfl, q⟩
  unfold richCompare
  simp only [oneThing_ref]
  refine wpAny_holding (wpAny_bind (wpAny_cRoomFor (by omega) ?_))
  refine wpAny_bind (inst.type.here (wpAny_bind (tyb.here ?_)))
  have last : wpAny (model prog w) A (tryCompare (.ref x) "__ne__" b) (fun o s' => ∃ v, o = some v ∧ Q v s') E s := one
  split
  · rename_i q
    have e : PySem.W.subIn K tb (.ref C) = some false := by
      rcases Bool.or_eq_true_iff.mp nf with e | e
      · rw [beq_iff_eq.mp e] at q; simp at q
      · exact beq_iff_eq.mp e
    refine wpAny_bind ((PySem.W.looks_subIn kin e).here ?_)
    simp only [Bool.false_eq_true, if_false]
    refine wpAny_bind (wpAny_mono last (fun o s' z => ?_) fun _ _ e => e)
    obtain ⟨v, rfl, hq⟩ := z
    exact wpAny_pure hq
  · refine wpAny_bind (wpAny_pure ?_)
    simp only [Bool.false_eq_true, if_false]
    refine wpAny_bind (wpAny_mono last (fun o s' z => ?_) fun _ _ e => e)
    obtain ⟨v, rfl, hq⟩ := z
    exact wpAny_pure hq
/-- what is asked of a class with own __eq__ -/
structure EqC (K : PySem.W.Frag) (C f : Addr) : Prop where
  eq : PySem.W.findIn K (.ref C) "__eq__" = some (some (.ref f))
  fn : PySem.W.isFn K (.ref f) = true
  ne : PySem.W.findIn K (.ref C) "__ne__" = some (some (.builtin "object.__ne__"))
  ob : PySem.W.subIn K (.ref C) (.type "object") = some true
  li : PySem.W.subIn K (.type "list") (.ref C) = some false
  ki : PySem.W.kitOne K (.type "list") (.ref C) = some false
/-- what stands right of ==: an instance of the same class, or a list -/
def Rhs (K : PySem.W.Frag) (H : Hp) (C : Addr) (y : V) : Prop := ∃ b, y = .ref b ∧ ((∃ dy gs, H b = some (.ins C dy gs)) ∨ ∃ xs, SqL K H b xs)
section
variable {X : Cx} {CX : CXT} {k : Nat} {f C : Addr} {fd : FuncData} {ps : List Str} {sp : Sp} {E : XK}
theorem rhs_ty {pins : List (Addr × Obj)} {σ : L2.St} {H : Hp} {s : Shared} {y : V} {u : Value} (I : Inv X pins σ H s) (c : EqC X.K C f) (h : Rhs X.K H C y) (r : RelV y u) : ∃ tb, PySem.W.Looks (model X.prog X.w) s.heap (typeOf u) tb ∧ PySem.W.notFirst X.K C tb = true := by
  obtain ⟨b, rfl, h⟩ := h
  cases r
  rcases h with ⟨dy, gs, hb⟩ | ⟨xs, hb⟩
  · obtain ⟨mB, J, _⟩ := ins_get I.hok hb
    obtain ⟨od, J, _⟩ := J.look
    exact ⟨_, J.type, by simp [PySem.W.notFirst]⟩
  · obtain ⟨us, _, ⟨o, n, ho, hc, _⟩, _⟩ := I.list hb
    refine ⟨.type "list", fun A Q E s' k q => wpAny_typeOf_ref (k _ _ ho) (by rw [hc]; exact q), ?_⟩
    simp only [PySem.W.notFirst, c.li]
    simp
theorem run_eq {A : Around} {pins : List (Addr × Obj)} {σ : L2.St} {H : Hp} {s : Shared} {Q : VK} {x y : V} {a : Addr} {u : Value} (F : FnOk X.prog X.w X.K X.mg X.base CX k f fd ps sp) (hr : Room k A) (fr : A.frames = X.A.frames) (hb : Binds X.K fd ps [])
    (hx : Passes CX X E) (I : Inv X pins σ H s) (ry : RelV y u) (h : sp [.ref a, y] H Q E) : wpAny (model X.prog X.w) A (call (.ref f) [.ref a, u]) (EP X pins σ Q) X.xe s := by
  have rr : Vals [V.ref a, y] [Value.ref a, u] := .cons rfl (.cons ry .nil)
  have e := I.env0
  have e0 : Env0 X.prog X.w X.K X.mg X.base A X.stack s H := ⟨by rw [fr]; exact e.frames, e.mod, e.bs, e.bsz, e.funs, e.frf, e.hok, e.bare⟩
  have bn := hb s [.ref a, u] I.kIn (by have := F.len _ _ _ _ h; simpa using this)
  rw [List.append_nil] at bn
  refine wpAny_call (codeAny_mono (F.run A X.stack s H ⟨[.ref a, u], []⟩ [.ref a, u] [.ref a, y] Q E hr e0 bn rr h) fun z s2 hz => ?_)
  match z, hz with
  | .error e, hz => exact hx pins σ H s e s2 I hz
  | .ok (.ret v), hz => exact I.after hz
def rOwn (K : PySem.W.Frag) (C : Addr) (sp : Sp) (E : XK) (no : Bool) : R2 := fun x y H Q => ∃ (a dx : Addr) (fs : List (Str × V)), x = .ref a ∧ H a = some (.ins C dx fs) ∧ Rhs K H C y ∧ sp [x, y] H (fun v H' => ∃ b, v = .bl b ∧ Q (.bl (b != no)) H') E
theorem op_own_eq (c : EqC X.K C f) (F : FnOk X.prog X.w X.K X.mg X.base CX k f fd ps sp) (hr : Room (k + 1) X.A) (hb : Binds X.K fd ps []) (hx : Passes CX X E) : OpR X (compareOp .Eq) (rOwn X.K C sp E false) := by
  intro pins s σ H x y v u Q I rx ry h
  obtain ⟨a, dx, fs, rfl, ha, hy, h⟩ := h
  cases rx
  obtain ⟨tb, lb, nf⟩ := rhs_ty I c hy ry
  obtain ⟨mA, J, _⟩ := ins_get I.hok ha
  obtain ⟨od, J, _⟩ := J.look
  obtain ⟨m, hF⟩ := I.fr
  refine PySem.W.cmp_K (op := .Eq) hr.units0 hF I.ok.mod.kin J lb nf c.eq c.fn (wpAny_mono (run_eq (x := .ref a) F (hr.mono (by omega)) rfl hb hx I ry h) (fun v s2 hv => ?_) fun _ _ z => z)
  obtain ⟨z, H2, I2, r2, b, rfl, q⟩ := hv
  cases r2
  refine ⟨.bl b, H2, I2, rfl, ?_⟩
  have e : (b != false) = b := by cases b <;> rfl
  rw [e] at q
  exact q
theorem op_own_ne (c : EqC X.K C f) (F : FnOk X.prog X.w X.K X.mg X.base CX k f fd ps sp) (hr : Room (k + 1) X.A) (hb : Binds X.K fd ps []) (hx : Passes CX X E) : OpR X (compareOp .NotEq) (rOwn X.K C sp E true) := by
  intro pins s σ H x y v u Q I rx ry h
  obtain ⟨a, dx, fs, rfl, ha, hy, h⟩ := h
  cases rx
  obtain ⟨tb, lb, nf⟩ := rhs_ty I c hy ry
  obtain ⟨mA, J, _⟩ := ins_get I.hok ha
  obtain ⟨od, J, _⟩ := J.look
  refine own_ne (by have := hr.units; omega) I.kIn J lb nf c.ne c.eq c.fn c.ob (wpAny_mono (run_eq (x := .ref a) F hr.in1 rfl hb hx I ry h) (fun v s2 hv => ?_) fun _ _ z => z)
  obtain ⟨z, H2, I2, r2, b, rfl, q⟩ := hv
  cases r2
  refine ⟨b, rfl, .bl (!b), H2, I2, rfl, ?_⟩
  have e : (b != true) = !b := by cases b <;> rfl
  rw [e] at q
  exact q
end
end My

namespace My
open PySem PySem.Spec PyProof.Rows L2
theorem nil_binds {K : PySem.W.Frag} {fd : FuncData} {ps : List Str} (h : ∃ ds, Vals [] ds ∧ Binds K fd ps ds) : Binds K fd ps [] := by
  obtain ⟨ds, v, b⟩ := h
  cases v
  exact b
def top (i : Nat) : Stmt := PySem.Challenge.pw_wholesound_k10_guesses_and_rests.main.body.getD i (.Pass ⟨0, 0, 0, 0⟩)
abbrev s_is_whole : Stmt := top 10
abbrev N_is_whole : List Str := ["value"]
theorem sc_is_whole : FnScope N_is_whole ["value"] (defScope s_is_whole) := ⟨rfl, rfl, rfl, by decide +kernel, rfl, by decide +kernel, by decide +kernel⟩
abbrev s_is_between : Stmt := top 11
abbrev N_is_between : List Str := ["value", "low", "high"]
theorem sc_is_between : FnScope N_is_between ["value", "low", "high"] (defScope s_is_between) := ⟨rfl, rfl, rfl, by decide +kernel, rfl, by decide +kernel, by decide +kernel⟩
abbrev s_are_wholes : Stmt := top 12
abbrev N_are_wholes : List Str := ["value", "item"]
theorem sc_are_wholes : FnScope N_are_wholes ["value"] (defScope s_are_wholes) := ⟨rfl, rfl, rfl, by decide +kernel, rfl, by decide +kernel, by decide +kernel⟩
abbrev s_check_depth : Stmt := top 13
abbrev N_check_depth : List Str := ["depth", "most"]
theorem sc_check_depth : FnScope N_check_depth ["depth", "most"] (defScope s_check_depth) := ⟨rfl, rfl, rfl, by decide +kernel, rfl, by decide +kernel, by decide +kernel⟩
abbrev s_is_sample : Stmt := top 15
abbrev N_is_sample : List Str := ["value", "depth"]
theorem sc_is_sample : FnScope N_is_sample ["value", "depth"] (defScope s_is_sample) := ⟨rfl, rfl, rfl, by decide +kernel, rfl, by decide +kernel, by decide +kernel⟩
abbrev s_are_samples : Stmt := top 16
abbrev N_are_samples : List Str := ["value", "depth", "item"]
theorem sc_are_samples : FnScope N_are_samples ["value", "depth"] (defScope s_are_samples) := ⟨rfl, rfl, rfl, by decide +kernel, rfl, by decide +kernel, by decide +kernel⟩
abbrev s_wrapped : Stmt := top 17
abbrev N_wrapped : List Str := ["number", "depth", "half"]
theorem sc_wrapped : FnScope N_wrapped ["number", "depth"] (defScope s_wrapped) := ⟨rfl, rfl, rfl, by decide +kernel, rfl, by decide +kernel, by decide +kernel⟩
abbrev s_check_guesser : Stmt := top 24
abbrev N_check_guesser : List Str := ["value"]
theorem sc_check_guesser : FnScope N_check_guesser ["value"] (defScope s_check_guesser) := ⟨rfl, rfl, rfl, by decide +kernel, rfl, by decide +kernel, by decide +kernel⟩
abbrev s_check_row : Stmt := top 25
abbrev N_check_row : List Str := ["depth", "value"]
theorem sc_check_row : FnScope N_check_row ["depth", "value"] (defScope s_check_row) := ⟨rfl, rfl, rfl, by decide +kernel, rfl, by decide +kernel, by decide +kernel⟩
abbrev s_sum_before : Stmt := top 26
abbrev N_sum_before : List Str := ["guesser", "before", "found", "number", "weight"]
theorem sc_sum_before : FnScope N_sum_before ["guesser", "before"] (defScope s_sum_before) := ⟨rfl, rfl, rfl, by decide +kernel, rfl, by decide +kernel, by decide +kernel⟩
abbrev s_guess_behind : Stmt := top 27
abbrev N_guess_behind : List Str := ["guesser", "before"]
theorem sc_guess_behind : FnScope N_guess_behind ["guesser", "before"] (defScope s_guess_behind) := ⟨rfl, rfl, rfl, by decide +kernel, rfl, by decide +kernel, by decide +kernel⟩
abbrev s_guess : Stmt := top 28
abbrev N_guess : List Str := ["guesser", "before"]
theorem sc_guess : FnScope N_guess ["guesser", "before"] (defScope s_guess) := ⟨rfl, rfl, rfl, by decide +kernel, rfl, by decide +kernel, by decide +kernel⟩
abbrev s_steps : Stmt := top 29
abbrev N_steps : List Str := ["order", "product", "turn", "item"]
theorem sc_steps : FnScope N_steps ["order"] (defScope s_steps) := ⟨rfl, rfl, rfl, by decide +kernel, rfl, by decide +kernel, by decide +kernel⟩
abbrev s_told_rests : Stmt := top 30
abbrev N_told_rests : List Str := ["guesser", "row", "many", "found", "place"]
theorem sc_told_rests : FnScope N_told_rests ["guesser", "row"] (defScope s_told_rests) := ⟨rfl, rfl, rfl, by decide +kernel, rfl, by decide +kernel, by decide +kernel⟩
abbrev s_rests : Stmt := top 31
abbrev N_rests : List Str := ["guesser", "depth", "row", "item"]
theorem sc_rests : FnScope N_rests ["guesser", "depth", "row"] (defScope s_rests) := ⟨rfl, rfl, rfl, by decide +kernel, rfl, by decide +kernel, by decide +kernel⟩
abbrev s_row_of : Stmt := top 32
abbrev N_row_of : List Str := ["guesser", "depth", "rests", "many", "found", "rest"]
theorem sc_row_of : FnScope N_row_of ["guesser", "depth", "rests"] (defScope s_row_of) := ⟨rfl, rfl, rfl, by decide +kernel, rfl, by decide +kernel, by decide +kernel⟩
abbrev s_plain_rests : Stmt := top 33
abbrev N_plain_rests : List Str := ["guesser", "row"]
theorem sc_plain_rests : FnScope N_plain_rests ["guesser", "row"] (defScope s_plain_rests) := ⟨rfl, rfl, rfl, by decide +kernel, rfl, by decide +kernel, by decide +kernel⟩
abbrev s_times_sum : Stmt := top 34
abbrev N_times_sum : List Str := ["one", "other", "found", "place", "item", "spot", "factor"]
theorem sc_times_sum : FnScope N_times_sum ["one", "other"] (defScope s_times_sum) := ⟨rfl, rfl, rfl, by decide +kernel, rfl, by decide +kernel, by decide +kernel⟩
abbrev s_law_cell : Stmt := top 36
abbrev N_law_cell : List Str := ["_law_script", "_law_index"]
theorem sc_law_cell : FnScope N_law_cell ["_law_script", "_law_index"] (defScope s_law_cell) := ⟨rfl, rfl, rfl, by decide +kernel, rfl, by decide +kernel, by decide +kernel⟩
abbrev s_law_hash : Stmt := top 37
abbrev N_law_hash : List Str := ["_law_seed", "_law_index", "_law_mixed"]
theorem sc_law_hash : FnScope N_law_hash ["_law_seed", "_law_index"] (defScope s_law_hash) := ⟨rfl, rfl, rfl, by decide +kernel, rfl, by decide +kernel, by decide +kernel⟩
abbrev s_law_generator : Stmt := top 38
abbrev N_law_generator : List Str := ["_law_script", "_law_index", "_law_seed"]
theorem sc_law_generator : FnScope N_law_generator ["_law_script", "_law_index"] (defScope s_law_generator) := ⟨rfl, rfl, rfl, by decide +kernel, rfl, by decide +kernel, by decide +kernel⟩
abbrev s_law_random : Stmt := top 39
abbrev N_law_random : List Str := ["_law_generator_here", "_law_bound", "_law_drawn", "_law_turn"]
theorem sc_law_random : FnScope N_law_random ["_law_generator_here", "_law_bound"] (defScope s_law_random) := ⟨rfl, rfl, rfl, by decide +kernel, rfl, by decide +kernel, by decide +kernel⟩
abbrev s_law_wrapped : Stmt := top 40
abbrev N_law_wrapped : List Str := ["_law_number", "_law_depth"]
theorem sc_law_wrapped : FnScope N_law_wrapped ["_law_number", "_law_depth"] (defScope s_law_wrapped) := ⟨rfl, rfl, rfl, by decide +kernel, rfl, by decide +kernel, by decide +kernel⟩
abbrev s_law_sample : Stmt := top 41
abbrev N_law_sample : List Str := ["_law_generator_here", "_law_depth", "_law_low"]
theorem sc_law_sample : FnScope N_law_sample ["_law_generator_here", "_law_depth"] (defScope s_law_sample) := ⟨rfl, rfl, rfl, by decide +kernel, rfl, by decide +kernel, by decide +kernel⟩
abbrev s_law_row : Stmt := top 42
abbrev N_law_row : List Str := ["_law_generator_here", "_law_depth", "_law_many", "_law_place"]
theorem sc_law_row : FnScope N_law_row ["_law_generator_here", "_law_depth", "_law_many"] (defScope s_law_row) := ⟨rfl, rfl, rfl, by decide +kernel, rfl, by decide +kernel, by decide +kernel⟩
abbrev s_law_weights : Stmt := top 43
abbrev N_law_weights : List Str := ["_law_generator_here", "_law_many", "_law_found", "_law_number", "_law_great", "_law_kind"]
theorem sc_law_weights : FnScope N_law_weights ["_law_generator_here", "_law_many"] (defScope s_law_weights) := ⟨rfl, rfl, rfl, by decide +kernel, rfl, by decide +kernel, by decide +kernel⟩
abbrev s_law_guess : Stmt := top 44
abbrev N_law_guess : List Str := ["_law_weights_here", "_law_shift", "_law_before", "_law_total", "_law_number"]
theorem sc_law_guess : FnScope N_law_guess ["_law_weights_here", "_law_shift", "_law_before"] (defScope s_law_guess) := ⟨rfl, rfl, rfl, by decide +kernel, rfl, by decide +kernel, by decide +kernel⟩
abbrev s_law_all_rows : Stmt := top 45
abbrev N_law_all_rows : List Str := ["_law_depth", "_law_many", "_law_found", "_law_place", "_law_longer", "_law_row_here", "_law_sample_here"]
theorem sc_law_all_rows : FnScope N_law_all_rows ["_law_depth", "_law_many"] (defScope s_law_all_rows) := ⟨rfl, rfl, rfl, by decide +kernel, rfl, by decide +kernel, by decide +kernel⟩
abbrev s_law_rests_of : Stmt := top 46
abbrev N_law_rests_of : List Str := ["_law_weights_here", "_law_shift", "_law_row_here", "_law_found", "_law_place", "_law_told"]
theorem sc_law_rests_of : FnScope N_law_rests_of ["_law_weights_here", "_law_shift", "_law_row_here"] (defScope s_law_rests_of) := ⟨rfl, rfl, rfl, by decide +kernel, rfl, by decide +kernel, by decide +kernel⟩
abbrev s_law_right : Stmt := top 47
abbrev N_law_right : List Str := ["_law_generator_here", "_law_guesser", "_law_weights_here", "_law_shift", "_law_depth", "_law_row_here", "_law_due", "_law_given", "_law_told", "_law_back", "_law_great", "_law_item", "_law_place"]
theorem sc_law_right : FnScope N_law_right ["_law_generator_here", "_law_guesser", "_law_weights_here", "_law_shift"] (defScope s_law_right) := ⟨rfl, rfl, rfl, by decide +kernel, rfl, by decide +kernel, by decide +kernel⟩
abbrev s_law_all_right : Stmt := top 48
abbrev N_law_all_right : List Str := ["_law_generator_here", "_law_guesser", "_law_rows", "_law_told", "_law_depth", "_law_many", "_law_row_here"]
theorem sc_law_all_right : FnScope N_law_all_right ["_law_generator_here", "_law_guesser"] (defScope s_law_all_right) := ⟨rfl, rfl, rfl, by decide +kernel, rfl, by decide +kernel, by decide +kernel⟩
abbrev s_law_steps_right : Stmt := top 49
abbrev N_law_steps_right : List Str := ["_law_generator_here", "_law_order", "_law_row_here", "_law_due", "_law_turn", "_law_made", "_law_place", "_law_at"]
theorem sc_law_steps_right : FnScope N_law_steps_right ["_law_generator_here"] (defScope s_law_steps_right) := ⟨rfl, rfl, rfl, by decide +kernel, rfl, by decide +kernel, by decide +kernel⟩
abbrev s_law : Stmt := top 50
abbrev N_law : List Str := ["_law_script", "_law_index", "_law_generator_here", "_law_given", "_law_guesser", "_law_weights_here", "_law_shift"]
theorem sc_law : FnScope N_law ["_law_script"] (defScope s_law) := ⟨rfl, rfl, rfl, by decide +kernel, rfl, by decide +kernel, by decide +kernel⟩
abbrev s_Guesser___init__ : Stmt := inClass (top 23) 0
abbrev N_Guesser___init__ : List Str := ["self", "weights", "shift", "weight"]
theorem sc_Guesser___init__ : FnScope N_Guesser___init__ ["self", "weights", "shift"] (defScope s_Guesser___init__) := ⟨rfl, rfl, rfl, by decide +kernel, rfl, by decide +kernel, by decide +kernel⟩
abbrev s_Guesser_weights : Stmt := inClass (top 23) 1
abbrev N_Guesser_weights : List Str := ["self"]
theorem sc_Guesser_weights : FnScope N_Guesser_weights ["self"] (defScope s_Guesser_weights) := ⟨rfl, rfl, rfl, by decide +kernel, rfl, by decide +kernel, by decide +kernel⟩
abbrev s_Guesser_shift : Stmt := inClass (top 23) 2
abbrev N_Guesser_shift : List Str := ["self"]
theorem sc_Guesser_shift : FnScope N_Guesser_shift ["self"] (defScope s_Guesser_shift) := ⟨rfl, rfl, rfl, by decide +kernel, rfl, by decide +kernel, by decide +kernel⟩
abbrev s_Guesser_order : Stmt := inClass (top 23) 3
abbrev N_Guesser_order : List Str := ["self"]
theorem sc_Guesser_order : FnScope N_Guesser_order ["self"] (defScope s_Guesser_order) := ⟨rfl, rfl, rfl, by decide +kernel, rfl, by decide +kernel, by decide +kernel⟩
abbrev s_Guesser___eq__ : Stmt := inClass (top 23) 4
abbrev N_Guesser___eq__ : List Str := ["self", "other"]
theorem sc_Guesser___eq__ : FnScope N_Guesser___eq__ ["self", "other"] (defScope s_Guesser___eq__) := ⟨rfl, rfl, rfl, by decide +kernel, rfl, by decide +kernel, by decide +kernel⟩
/-- what the top has left -/
structure Top (K : PySem.W.Frag) (mg : Str → Option Value) where
  C_Guesser : Addr
  gc_Guesser : mg "Guesser" = some (.ref C_Guesser)
  cl_Guesser : Cls K C_Guesser
  ic_Guesser : C8.InsC K C_Guesser
  f_Guesser___eq__ : Addr
  ec_Guesser : EqC K C_Guesser f_Guesser___eq__
  na_Guesser_parts : NoAttr K C_Guesser "parts"
  na_Guesser_down : NoAttr K C_Guesser "down"
  f_is_whole : Addr
  fd_is_whole : FuncData
  F_is_whole : FunD K "is_whole" "is_whole" (defArgs s_is_whole) (defBody s_is_whole) (defScope s_is_whole) [] [] f_is_whole fd_is_whole
  b_is_whole : Binds K fd_is_whole ["value"] []
  g_is_whole : mg "is_whole" = some (.ref f_is_whole)
  f_is_between : Addr
  fd_is_between : FuncData
  F_is_between : FunD K "is_between" "is_between" (defArgs s_is_between) (defBody s_is_between) (defScope s_is_between) [] [] f_is_between fd_is_between
  b_is_between : Binds K fd_is_between ["value", "low", "high"] []
  g_is_between : mg "is_between" = some (.ref f_is_between)
  f_are_wholes : Addr
  fd_are_wholes : FuncData
  F_are_wholes : FunD K "are_wholes" "are_wholes" (defArgs s_are_wholes) (defBody s_are_wholes) (defScope s_are_wholes) [] [] f_are_wholes fd_are_wholes
  b_are_wholes : Binds K fd_are_wholes ["value"] []
  g_are_wholes : mg "are_wholes" = some (.ref f_are_wholes)
  f_check_depth : Addr
  fd_check_depth : FuncData
  F_check_depth : FunD K "check_depth" "check_depth" (defArgs s_check_depth) (defBody s_check_depth) (defScope s_check_depth) [.int 24] [] f_check_depth fd_check_depth
  b_check_depth : Binds K fd_check_depth ["depth", "most"] []
  g_check_depth : mg "check_depth" = some (.ref f_check_depth)
  e0_check_depth : List Value
  v0_check_depth : Vals [.int 24] e0_check_depth
  b0_check_depth : Binds K fd_check_depth ["depth", "most"] e0_check_depth
  f_is_sample : Addr
  fd_is_sample : FuncData
  F_is_sample : FunD K "is_sample" "is_sample" (defArgs s_is_sample) (defBody s_is_sample) (defScope s_is_sample) [] [] f_is_sample fd_is_sample
  b_is_sample : Binds K fd_is_sample ["value", "depth"] []
  g_is_sample : mg "is_sample" = some (.ref f_is_sample)
  f_are_samples : Addr
  fd_are_samples : FuncData
  F_are_samples : FunD K "are_samples" "are_samples" (defArgs s_are_samples) (defBody s_are_samples) (defScope s_are_samples) [] [] f_are_samples fd_are_samples
  b_are_samples : Binds K fd_are_samples ["value", "depth"] []
  g_are_samples : mg "are_samples" = some (.ref f_are_samples)
  f_wrapped : Addr
  fd_wrapped : FuncData
  F_wrapped : FunD K "wrapped" "wrapped" (defArgs s_wrapped) (defBody s_wrapped) (defScope s_wrapped) [] [] f_wrapped fd_wrapped
  b_wrapped : Binds K fd_wrapped ["number", "depth"] []
  g_wrapped : mg "wrapped" = some (.ref f_wrapped)
  f_check_guesser : Addr
  fd_check_guesser : FuncData
  F_check_guesser : FunD K "check_guesser" "check_guesser" (defArgs s_check_guesser) (defBody s_check_guesser) (defScope s_check_guesser) [] [] f_check_guesser fd_check_guesser
  b_check_guesser : Binds K fd_check_guesser ["value"] []
  g_check_guesser : mg "check_guesser" = some (.ref f_check_guesser)
  f_check_row : Addr
  fd_check_row : FuncData
  F_check_row : FunD K "check_row" "check_row" (defArgs s_check_row) (defBody s_check_row) (defScope s_check_row) [] [] f_check_row fd_check_row
  b_check_row : Binds K fd_check_row ["depth", "value"] []
  g_check_row : mg "check_row" = some (.ref f_check_row)
  f_sum_before : Addr
  fd_sum_before : FuncData
  F_sum_before : FunD K "sum_before" "sum_before" (defArgs s_sum_before) (defBody s_sum_before) (defScope s_sum_before) [] [] f_sum_before fd_sum_before
  b_sum_before : Binds K fd_sum_before ["guesser", "before"] []
  g_sum_before : mg "sum_before" = some (.ref f_sum_before)
  f_guess_behind : Addr
  fd_guess_behind : FuncData
  F_guess_behind : FunD K "guess_behind" "guess_behind" (defArgs s_guess_behind) (defBody s_guess_behind) (defScope s_guess_behind) [] [] f_guess_behind fd_guess_behind
  b_guess_behind : Binds K fd_guess_behind ["guesser", "before"] []
  g_guess_behind : mg "guess_behind" = some (.ref f_guess_behind)
  f_guess : Addr
  fd_guess : FuncData
  F_guess : FunD K "guess" "guess" (defArgs s_guess) (defBody s_guess) (defScope s_guess) [] [] f_guess fd_guess
  b_guess : Binds K fd_guess ["guesser", "before"] []
  g_guess : mg "guess" = some (.ref f_guess)
  f_steps : Addr
  fd_steps : FuncData
  F_steps : FunD K "steps" "steps" (defArgs s_steps) (defBody s_steps) (defScope s_steps) [] [] f_steps fd_steps
  b_steps : Binds K fd_steps ["order"] []
  g_steps : mg "steps" = some (.ref f_steps)
  f_told_rests : Addr
  fd_told_rests : FuncData
  F_told_rests : FunD K "told_rests" "told_rests" (defArgs s_told_rests) (defBody s_told_rests) (defScope s_told_rests) [] [] f_told_rests fd_told_rests
  b_told_rests : Binds K fd_told_rests ["guesser", "row"] []
  g_told_rests : mg "told_rests" = some (.ref f_told_rests)
  f_rests : Addr
  fd_rests : FuncData
  F_rests : FunD K "rests" "rests" (defArgs s_rests) (defBody s_rests) (defScope s_rests) [] [] f_rests fd_rests
  b_rests : Binds K fd_rests ["guesser", "depth", "row"] []
  g_rests : mg "rests" = some (.ref f_rests)
  f_row_of : Addr
  fd_row_of : FuncData
  F_row_of : FunD K "row_of" "row_of" (defArgs s_row_of) (defBody s_row_of) (defScope s_row_of) [] [] f_row_of fd_row_of
  b_row_of : Binds K fd_row_of ["guesser", "depth", "rests"] []
  g_row_of : mg "row_of" = some (.ref f_row_of)
  f_plain_rests : Addr
  fd_plain_rests : FuncData
  F_plain_rests : FunD K "plain_rests" "plain_rests" (defArgs s_plain_rests) (defBody s_plain_rests) (defScope s_plain_rests) [] [] f_plain_rests fd_plain_rests
  b_plain_rests : Binds K fd_plain_rests ["guesser", "row"] []
  g_plain_rests : mg "plain_rests" = some (.ref f_plain_rests)
  f_times_sum : Addr
  fd_times_sum : FuncData
  F_times_sum : FunD K "times_sum" "times_sum" (defArgs s_times_sum) (defBody s_times_sum) (defScope s_times_sum) [] [] f_times_sum fd_times_sum
  b_times_sum : Binds K fd_times_sum ["one", "other"] []
  g_times_sum : mg "times_sum" = some (.ref f_times_sum)
  f_law_cell : Addr
  fd_law_cell : FuncData
  F_law_cell : FunD K "_law_cell" "_law_cell" (defArgs s_law_cell) (defBody s_law_cell) (defScope s_law_cell) [] [] f_law_cell fd_law_cell
  b_law_cell : Binds K fd_law_cell ["_law_script", "_law_index"] []
  g_law_cell : mg "_law_cell" = some (.ref f_law_cell)
  f_law_hash : Addr
  fd_law_hash : FuncData
  F_law_hash : FunD K "_law_hash" "_law_hash" (defArgs s_law_hash) (defBody s_law_hash) (defScope s_law_hash) [] [] f_law_hash fd_law_hash
  b_law_hash : Binds K fd_law_hash ["_law_seed", "_law_index"] []
  g_law_hash : mg "_law_hash" = some (.ref f_law_hash)
  f_law_generator : Addr
  fd_law_generator : FuncData
  F_law_generator : FunD K "_law_generator" "_law_generator" (defArgs s_law_generator) (defBody s_law_generator) (defScope s_law_generator) [] [] f_law_generator fd_law_generator
  b_law_generator : Binds K fd_law_generator ["_law_script", "_law_index"] []
  g_law_generator : mg "_law_generator" = some (.ref f_law_generator)
  f_law_random : Addr
  fd_law_random : FuncData
  F_law_random : FunD K "_law_random" "_law_random" (defArgs s_law_random) (defBody s_law_random) (defScope s_law_random) [] [] f_law_random fd_law_random
  b_law_random : Binds K fd_law_random ["_law_generator_here", "_law_bound"] []
  g_law_random : mg "_law_random" = some (.ref f_law_random)
  f_law_wrapped : Addr
  fd_law_wrapped : FuncData
  F_law_wrapped : FunD K "_law_wrapped" "_law_wrapped" (defArgs s_law_wrapped) (defBody s_law_wrapped) (defScope s_law_wrapped) [] [] f_law_wrapped fd_law_wrapped
  b_law_wrapped : Binds K fd_law_wrapped ["_law_number", "_law_depth"] []
  g_law_wrapped : mg "_law_wrapped" = some (.ref f_law_wrapped)
  f_law_sample : Addr
  fd_law_sample : FuncData
  F_law_sample : FunD K "_law_sample" "_law_sample" (defArgs s_law_sample) (defBody s_law_sample) (defScope s_law_sample) [] [] f_law_sample fd_law_sample
  b_law_sample : Binds K fd_law_sample ["_law_generator_here", "_law_depth"] []
  g_law_sample : mg "_law_sample" = some (.ref f_law_sample)
  f_law_row : Addr
  fd_law_row : FuncData
  F_law_row : FunD K "_law_row" "_law_row" (defArgs s_law_row) (defBody s_law_row) (defScope s_law_row) [] [] f_law_row fd_law_row
  b_law_row : Binds K fd_law_row ["_law_generator_here", "_law_depth", "_law_many"] []
  g_law_row : mg "_law_row" = some (.ref f_law_row)
  f_law_weights : Addr
  fd_law_weights : FuncData
  F_law_weights : FunD K "_law_weights" "_law_weights" (defArgs s_law_weights) (defBody s_law_weights) (defScope s_law_weights) [] [] f_law_weights fd_law_weights
  b_law_weights : Binds K fd_law_weights ["_law_generator_here", "_law_many"] []
  g_law_weights : mg "_law_weights" = some (.ref f_law_weights)
  f_law_guess : Addr
  fd_law_guess : FuncData
  F_law_guess : FunD K "_law_guess" "_law_guess" (defArgs s_law_guess) (defBody s_law_guess) (defScope s_law_guess) [] [] f_law_guess fd_law_guess
  b_law_guess : Binds K fd_law_guess ["_law_weights_here", "_law_shift", "_law_before"] []
  g_law_guess : mg "_law_guess" = some (.ref f_law_guess)
  f_law_all_rows : Addr
  fd_law_all_rows : FuncData
  F_law_all_rows : FunD K "_law_all_rows" "_law_all_rows" (defArgs s_law_all_rows) (defBody s_law_all_rows) (defScope s_law_all_rows) [] [] f_law_all_rows fd_law_all_rows
  b_law_all_rows : Binds K fd_law_all_rows ["_law_depth", "_law_many"] []
  g_law_all_rows : mg "_law_all_rows" = some (.ref f_law_all_rows)
  f_law_rests_of : Addr
  fd_law_rests_of : FuncData
  F_law_rests_of : FunD K "_law_rests_of" "_law_rests_of" (defArgs s_law_rests_of) (defBody s_law_rests_of) (defScope s_law_rests_of) [] [] f_law_rests_of fd_law_rests_of
  b_law_rests_of : Binds K fd_law_rests_of ["_law_weights_here", "_law_shift", "_law_row_here"] []
  g_law_rests_of : mg "_law_rests_of" = some (.ref f_law_rests_of)
  f_law_right : Addr
  fd_law_right : FuncData
  F_law_right : FunD K "_law_right" "_law_right" (defArgs s_law_right) (defBody s_law_right) (defScope s_law_right) [] [] f_law_right fd_law_right
  b_law_right : Binds K fd_law_right ["_law_generator_here", "_law_guesser", "_law_weights_here", "_law_shift"] []
  g_law_right : mg "_law_right" = some (.ref f_law_right)
  f_law_all_right : Addr
  fd_law_all_right : FuncData
  F_law_all_right : FunD K "_law_all_right" "_law_all_right" (defArgs s_law_all_right) (defBody s_law_all_right) (defScope s_law_all_right) [] [] f_law_all_right fd_law_all_right
  b_law_all_right : Binds K fd_law_all_right ["_law_generator_here", "_law_guesser"] []
  g_law_all_right : mg "_law_all_right" = some (.ref f_law_all_right)
  f_law_steps_right : Addr
  fd_law_steps_right : FuncData
  F_law_steps_right : FunD K "_law_steps_right" "_law_steps_right" (defArgs s_law_steps_right) (defBody s_law_steps_right) (defScope s_law_steps_right) [] [] f_law_steps_right fd_law_steps_right
  b_law_steps_right : Binds K fd_law_steps_right ["_law_generator_here"] []
  g_law_steps_right : mg "_law_steps_right" = some (.ref f_law_steps_right)
  f_law : Addr
  fd_law : FuncData
  F_law : FunD K "law" "law" (defArgs s_law) (defBody s_law) (defScope s_law) [] [] f_law fd_law
  b_law : Binds K fd_law ["_law_script"] []
  g_law : mg "law" = some (.ref f_law)
  f_Guesser___init__ : Addr
  fd_Guesser___init__ : FuncData
  F_Guesser___init__ : FunD K "__init__" "Guesser.__init__" (defArgs s_Guesser___init__) (defBody s_Guesser___init__) (defScope s_Guesser___init__) [] [] f_Guesser___init__ fd_Guesser___init__
  b_Guesser___init__ : Binds K fd_Guesser___init__ ["self", "weights", "shift"] []
  me_Guesser___init__ : Meth K C_Guesser "__init__" f_Guesser___init__
  mk_Guesser : Mk K C_Guesser f_Guesser___init__
  f_Guesser_weights : Addr
  fd_Guesser_weights : FuncData
  F_Guesser_weights : FunD K "weights" "Guesser.weights" (defArgs s_Guesser_weights) (defBody s_Guesser_weights) (defScope s_Guesser_weights) [] [] f_Guesser_weights fd_Guesser_weights
  b_Guesser_weights : Binds K fd_Guesser_weights ["self"] []
  me_Guesser_weights : Meth K C_Guesser "weights" f_Guesser_weights
  f_Guesser_shift : Addr
  fd_Guesser_shift : FuncData
  F_Guesser_shift : FunD K "shift" "Guesser.shift" (defArgs s_Guesser_shift) (defBody s_Guesser_shift) (defScope s_Guesser_shift) [] [] f_Guesser_shift fd_Guesser_shift
  b_Guesser_shift : Binds K fd_Guesser_shift ["self"] []
  me_Guesser_shift : Meth K C_Guesser "shift" f_Guesser_shift
  f_Guesser_order : Addr
  fd_Guesser_order : FuncData
  F_Guesser_order : FunD K "order" "Guesser.order" (defArgs s_Guesser_order) (defBody s_Guesser_order) (defScope s_Guesser_order) [] [] f_Guesser_order fd_Guesser_order
  b_Guesser_order : Binds K fd_Guesser_order ["self"] []
  me_Guesser_order : Meth K C_Guesser "order" f_Guesser_order
  fd_Guesser___eq__ : FuncData
  F_Guesser___eq__ : FunD K "__eq__" "Guesser.__eq__" (defArgs s_Guesser___eq__) (defBody s_Guesser___eq__) (defScope s_Guesser___eq__) [] [] f_Guesser___eq__ fd_Guesser___eq__
  b_Guesser___eq__ : Binds K fd_Guesser___eq__ ["self", "other"] []
  me_Guesser___eq__ : Meth K C_Guesser "__eq__" f_Guesser___eq__
  n_len : mg "len" = none
  n_sum : mg "sum" = none
  n_max : mg "max" = none
  n_int : mg "int" = none
  n_bool : mg "bool" = none
  n_list : mg "list" = none
  n_range : mg "range" = none
  n_isinstance : mg "isinstance" = none
  n_enumerate : mg "enumerate" = none
  n_sorted : mg "sorted" = none
  n_repr : mg "repr" = none
  t_MOST_DEPTH_kinds : Tok
  m_MOST_DEPTH_kinds : mg "MOST_DEPTH_kinds" = some (.int 24 t_MOST_DEPTH_kinds)
  t_MOST_ORDER : Tok
  m_MOST_ORDER : mg "MOST_ORDER" = some (.int 8 t_MOST_ORDER)
  t_MOST_WEIGHT : Tok
  m_MOST_WEIGHT : mg "MOST_WEIGHT" = some (.int 32768 t_MOST_WEIGHT)
  t_MOST_SHIFT : Tok
  m_MOST_SHIFT : mg "MOST_SHIFT" = some (.int 15 t_MOST_SHIFT)
  t_MOST_DEPTH_guessers : Tok
  m_MOST_DEPTH_guessers : mg "MOST_DEPTH_guessers" = some (.int 32 t_MOST_DEPTH_guessers)
def d_is_whole : He.DefD := ⟨("is_whole", none), "is_whole", "is_whole", defArgs s_is_whole, defBody s_is_whole, defScope s_is_whole, [], []⟩
def d_is_between : He.DefD := ⟨("is_between", none), "is_between", "is_between", defArgs s_is_between, defBody s_is_between, defScope s_is_between, [], []⟩
def d_are_wholes : He.DefD := ⟨("are_wholes", none), "are_wholes", "are_wholes", defArgs s_are_wholes, defBody s_are_wholes, defScope s_are_wholes, [], []⟩
def d_check_depth : He.DefD := ⟨("check_depth", none), "check_depth", "check_depth", defArgs s_check_depth, defBody s_check_depth, defScope s_check_depth, [.int 24], []⟩
def d_is_sample : He.DefD := ⟨("is_sample", none), "is_sample", "is_sample", defArgs s_is_sample, defBody s_is_sample, defScope s_is_sample, [], []⟩
def d_are_samples : He.DefD := ⟨("are_samples", none), "are_samples", "are_samples", defArgs s_are_samples, defBody s_are_samples, defScope s_are_samples, [], []⟩
def d_wrapped : He.DefD := ⟨("wrapped", none), "wrapped", "wrapped", defArgs s_wrapped, defBody s_wrapped, defScope s_wrapped, [], []⟩
def d_check_guesser : He.DefD := ⟨("check_guesser", none), "check_guesser", "check_guesser", defArgs s_check_guesser, defBody s_check_guesser, defScope s_check_guesser, [], []⟩
def d_check_row : He.DefD := ⟨("check_row", none), "check_row", "check_row", defArgs s_check_row, defBody s_check_row, defScope s_check_row, [], []⟩
def d_sum_before : He.DefD := ⟨("sum_before", none), "sum_before", "sum_before", defArgs s_sum_before, defBody s_sum_before, defScope s_sum_before, [], []⟩
def d_guess_behind : He.DefD := ⟨("guess_behind", none), "guess_behind", "guess_behind", defArgs s_guess_behind, defBody s_guess_behind, defScope s_guess_behind, [], []⟩
def d_guess : He.DefD := ⟨("guess", none), "guess", "guess", defArgs s_guess, defBody s_guess, defScope s_guess, [], []⟩
def d_steps : He.DefD := ⟨("steps", none), "steps", "steps", defArgs s_steps, defBody s_steps, defScope s_steps, [], []⟩
def d_told_rests : He.DefD := ⟨("told_rests", none), "told_rests", "told_rests", defArgs s_told_rests, defBody s_told_rests, defScope s_told_rests, [], []⟩
def d_rests : He.DefD := ⟨("rests", none), "rests", "rests", defArgs s_rests, defBody s_rests, defScope s_rests, [], []⟩
def d_row_of : He.DefD := ⟨("row_of", none), "row_of", "row_of", defArgs s_row_of, defBody s_row_of, defScope s_row_of, [], []⟩
def d_plain_rests : He.DefD := ⟨("plain_rests", none), "plain_rests", "plain_rests", defArgs s_plain_rests, defBody s_plain_rests, defScope s_plain_rests, [], []⟩
def d_times_sum : He.DefD := ⟨("times_sum", none), "times_sum", "times_sum", defArgs s_times_sum, defBody s_times_sum, defScope s_times_sum, [], []⟩
def d_law_cell : He.DefD := ⟨("_law_cell", none), "_law_cell", "_law_cell", defArgs s_law_cell, defBody s_law_cell, defScope s_law_cell, [], []⟩
def d_law_hash : He.DefD := ⟨("_law_hash", none), "_law_hash", "_law_hash", defArgs s_law_hash, defBody s_law_hash, defScope s_law_hash, [], []⟩
def d_law_generator : He.DefD := ⟨("_law_generator", none), "_law_generator", "_law_generator", defArgs s_law_generator, defBody s_law_generator, defScope s_law_generator, [], []⟩
def d_law_random : He.DefD := ⟨("_law_random", none), "_law_random", "_law_random", defArgs s_law_random, defBody s_law_random, defScope s_law_random, [], []⟩
def d_law_wrapped : He.DefD := ⟨("_law_wrapped", none), "_law_wrapped", "_law_wrapped", defArgs s_law_wrapped, defBody s_law_wrapped, defScope s_law_wrapped, [], []⟩
def d_law_sample : He.DefD := ⟨("_law_sample", none), "_law_sample", "_law_sample", defArgs s_law_sample, defBody s_law_sample, defScope s_law_sample, [], []⟩
def d_law_row : He.DefD := ⟨("_law_row", none), "_law_row", "_law_row", defArgs s_law_row, defBody s_law_row, defScope s_law_row, [], []⟩
def d_law_weights : He.DefD := ⟨("_law_weights", none), "_law_weights", "_law_weights", defArgs s_law_weights, defBody s_law_weights, defScope s_law_weights, [], []⟩
def d_law_guess : He.DefD := ⟨("_law_guess", none), "_law_guess", "_law_guess", defArgs s_law_guess, defBody s_law_guess, defScope s_law_guess, [], []⟩
def d_law_all_rows : He.DefD := ⟨("_law_all_rows", none), "_law_all_rows", "_law_all_rows", defArgs s_law_all_rows, defBody s_law_all_rows, defScope s_law_all_rows, [], []⟩
def d_law_rests_of : He.DefD := ⟨("_law_rests_of", none), "_law_rests_of", "_law_rests_of", defArgs s_law_rests_of, defBody s_law_rests_of, defScope s_law_rests_of, [], []⟩
def d_law_right : He.DefD := ⟨("_law_right", none), "_law_right", "_law_right", defArgs s_law_right, defBody s_law_right, defScope s_law_right, [], []⟩
def d_law_all_right : He.DefD := ⟨("_law_all_right", none), "_law_all_right", "_law_all_right", defArgs s_law_all_right, defBody s_law_all_right, defScope s_law_all_right, [], []⟩
def d_law_steps_right : He.DefD := ⟨("_law_steps_right", none), "_law_steps_right", "_law_steps_right", defArgs s_law_steps_right, defBody s_law_steps_right, defScope s_law_steps_right, [], []⟩
def d_law : He.DefD := ⟨("law", none), "law", "law", defArgs s_law, defBody s_law, defScope s_law, [], []⟩
def d_Guesser___init__ : He.DefD := ⟨("Guesser", some "__init__"), "__init__", "Guesser.__init__", defArgs s_Guesser___init__, defBody s_Guesser___init__, defScope s_Guesser___init__, [], []⟩
def d_Guesser_weights : He.DefD := ⟨("Guesser", some "weights"), "weights", "Guesser.weights", defArgs s_Guesser_weights, defBody s_Guesser_weights, defScope s_Guesser_weights, [], []⟩
def d_Guesser_shift : He.DefD := ⟨("Guesser", some "shift"), "shift", "Guesser.shift", defArgs s_Guesser_shift, defBody s_Guesser_shift, defScope s_Guesser_shift, [], []⟩
def d_Guesser_order : He.DefD := ⟨("Guesser", some "order"), "order", "Guesser.order", defArgs s_Guesser_order, defBody s_Guesser_order, defScope s_Guesser_order, [], []⟩
def d_Guesser___eq__ : He.DefD := ⟨("Guesser", some "__eq__"), "__eq__", "Guesser.__eq__", defArgs s_Guesser___eq__, defBody s_Guesser___eq__, defScope s_Guesser___eq__, [], []⟩
def fn : List He.DefD := [d_is_whole, d_is_between, d_are_wholes, d_check_depth, d_is_sample, d_are_samples, d_wrapped, d_check_guesser, d_check_row, d_sum_before, d_guess_behind, d_guess, d_steps, d_told_rests, d_rests, d_row_of, d_plain_rests, d_times_sum, d_law_cell, d_law_hash, d_law_generator, d_law_random, d_law_wrapped, d_law_sample, d_law_row, d_law_weights, d_law_guess, d_law_all_rows, d_law_rests_of, d_law_right, d_law_all_right, d_law_steps_right, d_law, d_Guesser___init__, d_Guesser_weights, d_Guesser_shift, d_Guesser_order, d_Guesser___eq__]
def fa0 : List He.Fa := [.glo "is_whole", .glo "is_between", .glo "are_wholes", .glo "check_depth", .glo "is_sample", .glo "are_samples", .glo "wrapped", .glo "check_guesser", .glo "check_row", .glo "sum_before", .glo "guess_behind", .glo "guess", .glo "steps", .glo "told_rests", .glo "rests", .glo "row_of", .glo "plain_rests", .glo "times_sum", .glo "_law_cell", .glo "_law_hash", .glo "_law_generator", .glo "_law_random", .glo "_law_wrapped", .glo "_law_sample", .glo "_law_row", .glo "_law_weights", .glo "_law_guess", .glo "_law_all_rows", .glo "_law_rests_of", .glo "_law_right"]
def fa1 : List He.Fa := [.glo "_law_all_right", .glo "_law_steps_right", .glo "law", .free "len", .free "sum", .free "max", .free "int", .free "bool", .free "list", .free "range", .free "isinstance", .free "enumerate", .free "sorted", .free "repr", .int "MOST_DEPTH_kinds" 24, .int "MOST_ORDER" 8, .int "MOST_WEIGHT" 32768, .int "MOST_SHIFT" 15, .int "MOST_DEPTH_guessers" 32, .glo "Guesser", .cls "Guesser", .noat "Guesser" "parts", .noat "Guesser" "down", .mkr "Guesser", .meth "Guesser" "__init__", .meth "Guesser" "weights", .meth "Guesser" "shift", .meth "Guesser" "order", .meth "Guesser" "__eq__"]
def fa : List He.Fa := fa0 ++ fa1
/-- isinstance of an own class -/
def insB (K : PySem.W.Frag) (x : Str) : Bool := decide (PySem.W.findIn K (.ref (He.ga K x)) "__class__" = some (some (.builtin "object.__class__"))) && (decide (PySem.W.specialIn K (.builtin "object.__class__") "__get__" = some (some (.builtin "getset_descriptor.__get__"))) && (decide (PySem.W.takesIn K (.builtin "object.__class__") = some true) && (decide (PySem.W.mroIn K (He.ga K x) (.type "object") = some true) && decide (PySem.W.kitOne K (.ref (He.ga K x)) (.ref (He.ga K x)) = some true))))
theorem insB_ok {K : PySem.W.Frag} {x : Str} (cl : Cls K (He.ga K x)) (h : insB K x = true) : C8.InsC K (He.ga K x) := by
  unfold insB at h
  simp only [Bool.and_eq_true, decide_eq_true_eq] at h
  exact ⟨cl, h.1, h.2.1, h.2.2.1, h.2.2.2.1, h.2.2.2.2⟩
def eqB (K : PySem.W.Frag) (x : Str) : Bool := decide (PySem.W.findIn K (.ref (He.ga K x)) "__ne__" = some (some (.builtin "object.__ne__"))) && (decide (PySem.W.subIn K (.ref (He.ga K x)) (.type "object") = some true) && (decide (PySem.W.subIn K (.type "list") (.ref (He.ga K x)) = some false) && decide (PySem.W.kitOne K (.type "list") (.ref (He.ga K x)) = some false)))
theorem eqB_ok {K : PySem.W.Frag} {x : Str} {f : Addr} (m : Meth K (He.ga K x) "__eq__" f) (h : eqB K x = true) : EqC K (He.ga K x) f := by
  unfold eqB at h
  simp only [Bool.and_eq_true, decide_eq_true_eq] at h
  exact ⟨m.at_, m.fn, h.1, h.2.1, h.2.2.1, h.2.2.2⟩
def eqs : List Str := ["Guesser"]
def own : List Str := ["Guesser"]
def ex (K : PySem.W.Frag) : Bool := (own.all fun x => insB K x) && eqs.all fun x => eqB K x
abbrev R : PySem.W.OpenRow := PySem.W.OpenLaw.row PySem.Challenge.rw_wholesound_k10_guesses_and_rests
abbrev Al : Type := He.AlD × Bool
def obsG (g : Addr → Option Obj) : Al := (He.obsDG 5 fa fn g, ex (He.frG g (He.asD g 5)))
def Says (K : PySem.W.Frag) : Prop := He.SaysD fa fn K ∧ ex K = true
def hk : PySem.W.Hook where
  α := Al
  obs := fun s => obsG s.heap.get?
  val := fun _ => (He.valD fn, true)
  says := fun _ h => ∃ K : PySem.W.Frag, K.In h ∧ Says K
  of := fun _ _ e => ⟨_, He.frG_in, congrArg Prod.fst e, congrArg Prod.snd e⟩
  keeps := fun _ _ _ ⟨K, hK, c⟩ k => ⟨K, PySem.W.Frag.In.keeps hK k, c⟩
def ob (s : PySem.W.SharedT) : Al := obsG (HandSHeadRun.getT s)
theorem ob_eq (s : PySem.W.SharedT) : ob s = hk.obs s.abs := by
  have e : HandSHeadRun.getT s = s.abs.heap.get? := funext (HandSHeadRun.getT_eq s)
  show obsG (HandSHeadRun.getT s) = obsG s.abs.heap.get?
  rw [e]
def loose0 : List PySem.Str := ["SoundError", "InvalidNumber", "InvalidDepth", "InvalidList", "InvalidItem", "InvalidRow", "InvalidGuesser", "MOST_DEPTH_kinds", "is_whole", "is_between", "are_wholes", "check_depth", "is_sample", "are_samples", "wrapped", "MOST_ORDER", "MOST_WEIGHT", "MOST_SHIFT", "MOST_DEPTH_guessers", "Guesser", "check_guesser", "check_row", "sum_before", "guess_behind", "guess", "steps", "told_rests", "rests", "row_of", "plain_rests"]
def loose1 : List PySem.Str := ["times_sum", "_law_cell", "_law_hash", "_law_generator", "_law_random", "_law_wrapped", "_law_sample", "_law_row", "_law_weights", "_law_guess", "_law_all_rows", "_law_rests_of", "_law_right", "_law_all_right", "_law_steps_right"]
abbrev loose : List PySem.Str := loose0 ++ loose1
theorem run (w : World) : HandSHeadRun.RunEq R (PySem.W.view R.prog [50]) hk ob 8000 loose w := by
  intro os
  kernel_rfl
noncomputable def top_mk {K : PySem.W.Frag} {h : Heap} {mg : Str → Option Value} (X : K.In h) (G : h.Ns mainGlobals mg) (c : Says K) : Top K mg :=
  let p0 := c.1.def_ 0 (d := d_is_whole) rfl
  let p1 := c.1.def_ 1 (d := d_is_between) rfl
  let p2 := c.1.def_ 2 (d := d_are_wholes) rfl
  let p3 := c.1.def_ 3 (d := d_check_depth) rfl
  let p4 := c.1.def_ 4 (d := d_is_sample) rfl
  let p5 := c.1.def_ 5 (d := d_are_samples) rfl
  let p6 := c.1.def_ 6 (d := d_wrapped) rfl
  let p7 := c.1.def_ 7 (d := d_check_guesser) rfl
  let p8 := c.1.def_ 8 (d := d_check_row) rfl
  let p9 := c.1.def_ 9 (d := d_sum_before) rfl
  let p10 := c.1.def_ 10 (d := d_guess_behind) rfl
  let p11 := c.1.def_ 11 (d := d_guess) rfl
  let p12 := c.1.def_ 12 (d := d_steps) rfl
  let p13 := c.1.def_ 13 (d := d_told_rests) rfl
  let p14 := c.1.def_ 14 (d := d_rests) rfl
  let p15 := c.1.def_ 15 (d := d_row_of) rfl
  let p16 := c.1.def_ 16 (d := d_plain_rests) rfl
  let p17 := c.1.def_ 17 (d := d_times_sum) rfl
  let p18 := c.1.def_ 18 (d := d_law_cell) rfl
  let p19 := c.1.def_ 19 (d := d_law_hash) rfl
  let p20 := c.1.def_ 20 (d := d_law_generator) rfl
  let p21 := c.1.def_ 21 (d := d_law_random) rfl
  let p22 := c.1.def_ 22 (d := d_law_wrapped) rfl
  let p23 := c.1.def_ 23 (d := d_law_sample) rfl
  let p24 := c.1.def_ 24 (d := d_law_row) rfl
  let p25 := c.1.def_ 25 (d := d_law_weights) rfl
  let p26 := c.1.def_ 26 (d := d_law_guess) rfl
  let p27 := c.1.def_ 27 (d := d_law_all_rows) rfl
  let p28 := c.1.def_ 28 (d := d_law_rests_of) rfl
  let p29 := c.1.def_ 29 (d := d_law_right) rfl
  let p30 := c.1.def_ 30 (d := d_law_all_right) rfl
  let p31 := c.1.def_ 31 (d := d_law_steps_right) rfl
  let p32 := c.1.def_ 32 (d := d_law) rfl
  let p33 := c.1.def_ 33 (d := d_Guesser___init__) rfl
  let p34 := c.1.def_ 34 (d := d_Guesser_weights) rfl
  let p35 := c.1.def_ 35 (d := d_Guesser_shift) rfl
  let p36 := c.1.def_ 36 (d := d_Guesser_order) rfl
  let p37 := c.1.def_ 37 (d := d_Guesser___eq__) rfl
  let q0 := He.int_ok X G (c.1.fact 44 (f := .int "MOST_DEPTH_kinds" 24) rfl)
  let q1 := He.int_ok X G (c.1.fact 45 (f := .int "MOST_ORDER" 8) rfl)
  let q2 := He.int_ok X G (c.1.fact 46 (f := .int "MOST_WEIGHT" 32768) rfl)
  let q3 := He.int_ok X G (c.1.fact 47 (f := .int "MOST_SHIFT" 15) rfl)
  let q4 := He.int_ok X G (c.1.fact 48 (f := .int "MOST_DEPTH_guessers" 32) rfl)
  { C_Guesser := _, gc_Guesser := He.glo_ok X G (c.1.fact 49 (f := .glo "Guesser") rfl), cl_Guesser := He.cls_ok (c.1.fact 50 (f := .cls "Guesser") rfl), ic_Guesser := insB_ok (x := "Guesser") (He.cls_ok (c.1.fact 50 (f := .cls "Guesser") rfl)) (List.all_eq_true.mp (Bool.and_eq_true_iff.mp c.2).1 "Guesser" (by decide +kernel)),
    ec_Guesser := eqB_ok (x := "Guesser") (He.meth_ok (c.1.fact 58 (f := .meth "Guesser" "__eq__") rfl)) (List.all_eq_true.mp (Bool.and_eq_true_iff.mp c.2).2 "Guesser" (by decide +kernel)),
    na_Guesser_parts := He.noat_ok (c.1.fact 51 (f := .noat "Guesser" "parts") rfl),
    na_Guesser_down := He.noat_ok (c.1.fact 52 (f := .noat "Guesser" "down") rfl),
    f_is_whole := _, fd_is_whole := p0.choose, F_is_whole := p0.choose_spec, b_is_whole := p0.choose_spec.bindsN fun _ _ _ _ _ _ us hl => match us, hl with | [_], _ => rfl, g_is_whole := He.glo_ok X G (c.1.fact 0 (f := .glo "is_whole") rfl),
    f_is_between := _, fd_is_between := p1.choose, F_is_between := p1.choose_spec, b_is_between := p1.choose_spec.bindsN fun _ _ _ _ _ _ us hl => match us, hl with | [_, _, _], _ => rfl, g_is_between := He.glo_ok X G (c.1.fact 1 (f := .glo "is_between") rfl),
    f_are_wholes := _, fd_are_wholes := p2.choose, F_are_wholes := p2.choose_spec, b_are_wholes := p2.choose_spec.bindsN fun _ _ _ _ _ _ us hl => match us, hl with | [_], _ => rfl, g_are_wholes := He.glo_ok X G (c.1.fact 2 (f := .glo "are_wholes") rfl),
    f_check_depth := _, fd_check_depth := p3.choose, F_check_depth := p3.choose_spec, b_check_depth := nil_binds (p3.choose_spec.binds1 (ps := ["depth", "most"]) 2 1 (by simp [He.DefD.dvs, d_check_depth]) rfl fun _ _ _ _ _ _ _ us its h1 h2 => match us, its, h1, h2 with | [_, _], [_], _, _ => ⟨_, rfl, rfl⟩), e0_check_depth := (p3.choose_spec.binds1 (ps := ["depth", "most"]) 1 0 (by simp [He.DefD.dvs, d_check_depth]) rfl fun _ _ _ _ _ _ _ us its h1 h2 => match us, its, h1, h2 with | [_], [_], _, _ => ⟨_, rfl, rfl⟩).choose, v0_check_depth := (p3.choose_spec.binds1 (ps := ["depth", "most"]) 1 0 (by simp [He.DefD.dvs, d_check_depth]) rfl fun _ _ _ _ _ _ _ us its h1 h2 => match us, its, h1, h2 with | [_], [_], _, _ => ⟨_, rfl, rfl⟩).choose_spec.1, b0_check_depth := (p3.choose_spec.binds1 (ps := ["depth", "most"]) 1 0 (by simp [He.DefD.dvs, d_check_depth]) rfl fun _ _ _ _ _ _ _ us its h1 h2 => match us, its, h1, h2 with | [_], [_], _, _ => ⟨_, rfl, rfl⟩).choose_spec.2, g_check_depth := He.glo_ok X G (c.1.fact 3 (f := .glo "check_depth") rfl),
    f_is_sample := _, fd_is_sample := p4.choose, F_is_sample := p4.choose_spec, b_is_sample := p4.choose_spec.bindsN fun _ _ _ _ _ _ us hl => match us, hl with | [_, _], _ => rfl, g_is_sample := He.glo_ok X G (c.1.fact 4 (f := .glo "is_sample") rfl),
    f_are_samples := _, fd_are_samples := p5.choose, F_are_samples := p5.choose_spec, b_are_samples := p5.choose_spec.bindsN fun _ _ _ _ _ _ us hl => match us, hl with | [_, _], _ => rfl, g_are_samples := He.glo_ok X G (c.1.fact 5 (f := .glo "are_samples") rfl),
    f_wrapped := _, fd_wrapped := p6.choose, F_wrapped := p6.choose_spec, b_wrapped := p6.choose_spec.bindsN fun _ _ _ _ _ _ us hl => match us, hl with | [_, _], _ => rfl, g_wrapped := He.glo_ok X G (c.1.fact 6 (f := .glo "wrapped") rfl),
    f_check_guesser := _, fd_check_guesser := p7.choose, F_check_guesser := p7.choose_spec, b_check_guesser := p7.choose_spec.bindsN fun _ _ _ _ _ _ us hl => match us, hl with | [_], _ => rfl, g_check_guesser := He.glo_ok X G (c.1.fact 7 (f := .glo "check_guesser") rfl),
    f_check_row := _, fd_check_row := p8.choose, F_check_row := p8.choose_spec, b_check_row := p8.choose_spec.bindsN fun _ _ _ _ _ _ us hl => match us, hl with | [_, _], _ => rfl, g_check_row := He.glo_ok X G (c.1.fact 8 (f := .glo "check_row") rfl),
    f_sum_before := _, fd_sum_before := p9.choose, F_sum_before := p9.choose_spec, b_sum_before := p9.choose_spec.bindsN fun _ _ _ _ _ _ us hl => match us, hl with | [_, _], _ => rfl, g_sum_before := He.glo_ok X G (c.1.fact 9 (f := .glo "sum_before") rfl),
    f_guess_behind := _, fd_guess_behind := p10.choose, F_guess_behind := p10.choose_spec, b_guess_behind := p10.choose_spec.bindsN fun _ _ _ _ _ _ us hl => match us, hl with | [_, _], _ => rfl, g_guess_behind := He.glo_ok X G (c.1.fact 10 (f := .glo "guess_behind") rfl),
    f_guess := _, fd_guess := p11.choose, F_guess := p11.choose_spec, b_guess := p11.choose_spec.bindsN fun _ _ _ _ _ _ us hl => match us, hl with | [_, _], _ => rfl, g_guess := He.glo_ok X G (c.1.fact 11 (f := .glo "guess") rfl),
    f_steps := _, fd_steps := p12.choose, F_steps := p12.choose_spec, b_steps := p12.choose_spec.bindsN fun _ _ _ _ _ _ us hl => match us, hl with | [_], _ => rfl, g_steps := He.glo_ok X G (c.1.fact 12 (f := .glo "steps") rfl),
    f_told_rests := _, fd_told_rests := p13.choose, F_told_rests := p13.choose_spec, b_told_rests := p13.choose_spec.bindsN fun _ _ _ _ _ _ us hl => match us, hl with | [_, _], _ => rfl, g_told_rests := He.glo_ok X G (c.1.fact 13 (f := .glo "told_rests") rfl),
    f_rests := _, fd_rests := p14.choose, F_rests := p14.choose_spec, b_rests := p14.choose_spec.bindsN fun _ _ _ _ _ _ us hl => match us, hl with | [_, _, _], _ => rfl, g_rests := He.glo_ok X G (c.1.fact 14 (f := .glo "rests") rfl),
    f_row_of := _, fd_row_of := p15.choose, F_row_of := p15.choose_spec, b_row_of := p15.choose_spec.bindsN fun _ _ _ _ _ _ us hl => match us, hl with | [_, _, _], _ => rfl, g_row_of := He.glo_ok X G (c.1.fact 15 (f := .glo "row_of") rfl),
    f_plain_rests := _, fd_plain_rests := p16.choose, F_plain_rests := p16.choose_spec, b_plain_rests := p16.choose_spec.bindsN fun _ _ _ _ _ _ us hl => match us, hl with | [_, _], _ => rfl, g_plain_rests := He.glo_ok X G (c.1.fact 16 (f := .glo "plain_rests") rfl),
    f_times_sum := _, fd_times_sum := p17.choose, F_times_sum := p17.choose_spec, b_times_sum := p17.choose_spec.bindsN fun _ _ _ _ _ _ us hl => match us, hl with | [_, _], _ => rfl, g_times_sum := He.glo_ok X G (c.1.fact 17 (f := .glo "times_sum") rfl),
    f_law_cell := _, fd_law_cell := p18.choose, F_law_cell := p18.choose_spec, b_law_cell := p18.choose_spec.bindsN fun _ _ _ _ _ _ us hl => match us, hl with | [_, _], _ => rfl, g_law_cell := He.glo_ok X G (c.1.fact 18 (f := .glo "_law_cell") rfl),
    f_law_hash := _, fd_law_hash := p19.choose, F_law_hash := p19.choose_spec, b_law_hash := p19.choose_spec.bindsN fun _ _ _ _ _ _ us hl => match us, hl with | [_, _], _ => rfl, g_law_hash := He.glo_ok X G (c.1.fact 19 (f := .glo "_law_hash") rfl),
    f_law_generator := _, fd_law_generator := p20.choose, F_law_generator := p20.choose_spec, b_law_generator := p20.choose_spec.bindsN fun _ _ _ _ _ _ us hl => match us, hl with | [_, _], _ => rfl, g_law_generator := He.glo_ok X G (c.1.fact 20 (f := .glo "_law_generator") rfl),
    f_law_random := _, fd_law_random := p21.choose, F_law_random := p21.choose_spec, b_law_random := p21.choose_spec.bindsN fun _ _ _ _ _ _ us hl => match us, hl with | [_, _], _ => rfl, g_law_random := He.glo_ok X G (c.1.fact 21 (f := .glo "_law_random") rfl),
    f_law_wrapped := _, fd_law_wrapped := p22.choose, F_law_wrapped := p22.choose_spec, b_law_wrapped := p22.choose_spec.bindsN fun _ _ _ _ _ _ us hl => match us, hl with | [_, _], _ => rfl, g_law_wrapped := He.glo_ok X G (c.1.fact 22 (f := .glo "_law_wrapped") rfl),
    f_law_sample := _, fd_law_sample := p23.choose, F_law_sample := p23.choose_spec, b_law_sample := p23.choose_spec.bindsN fun _ _ _ _ _ _ us hl => match us, hl with | [_, _], _ => rfl, g_law_sample := He.glo_ok X G (c.1.fact 23 (f := .glo "_law_sample") rfl),
    f_law_row := _, fd_law_row := p24.choose, F_law_row := p24.choose_spec, b_law_row := p24.choose_spec.bindsN fun _ _ _ _ _ _ us hl => match us, hl with | [_, _, _], _ => rfl, g_law_row := He.glo_ok X G (c.1.fact 24 (f := .glo "_law_row") rfl),
    f_law_weights := _, fd_law_weights := p25.choose, F_law_weights := p25.choose_spec, b_law_weights := p25.choose_spec.bindsN fun _ _ _ _ _ _ us hl => match us, hl with | [_, _], _ => rfl, g_law_weights := He.glo_ok X G (c.1.fact 25 (f := .glo "_law_weights") rfl),
    f_law_guess := _, fd_law_guess := p26.choose, F_law_guess := p26.choose_spec, b_law_guess := p26.choose_spec.bindsN fun _ _ _ _ _ _ us hl => match us, hl with | [_, _, _], _ => rfl, g_law_guess := He.glo_ok X G (c.1.fact 26 (f := .glo "_law_guess") rfl),
    f_law_all_rows := _, fd_law_all_rows := p27.choose, F_law_all_rows := p27.choose_spec, b_law_all_rows := p27.choose_spec.bindsN fun _ _ _ _ _ _ us hl => match us, hl with | [_, _], _ => rfl, g_law_all_rows := He.glo_ok X G (c.1.fact 27 (f := .glo "_law_all_rows") rfl),
    f_law_rests_of := _, fd_law_rests_of := p28.choose, F_law_rests_of := p28.choose_spec, b_law_rests_of := p28.choose_spec.bindsN fun _ _ _ _ _ _ us hl => match us, hl with | [_, _, _], _ => rfl, g_law_rests_of := He.glo_ok X G (c.1.fact 28 (f := .glo "_law_rests_of") rfl),
    f_law_right := _, fd_law_right := p29.choose, F_law_right := p29.choose_spec, b_law_right := p29.choose_spec.bindsN fun _ _ _ _ _ _ us hl => match us, hl with | [_, _, _, _], _ => rfl, g_law_right := He.glo_ok X G (c.1.fact 29 (f := .glo "_law_right") rfl),
    f_law_all_right := _, fd_law_all_right := p30.choose, F_law_all_right := p30.choose_spec, b_law_all_right := p30.choose_spec.bindsN fun _ _ _ _ _ _ us hl => match us, hl with | [_, _], _ => rfl, g_law_all_right := He.glo_ok X G (c.1.fact 30 (f := .glo "_law_all_right") rfl),
    f_law_steps_right := _, fd_law_steps_right := p31.choose, F_law_steps_right := p31.choose_spec, b_law_steps_right := p31.choose_spec.bindsN fun _ _ _ _ _ _ us hl => match us, hl with | [_], _ => rfl, g_law_steps_right := He.glo_ok X G (c.1.fact 31 (f := .glo "_law_steps_right") rfl),
    f_law := _, fd_law := p32.choose, F_law := p32.choose_spec, b_law := p32.choose_spec.bindsN fun _ _ _ _ _ _ us hl => match us, hl with | [_], _ => rfl, g_law := He.glo_ok X G (c.1.fact 32 (f := .glo "law") rfl),
    f_Guesser___init__ := _, fd_Guesser___init__ := p33.choose, F_Guesser___init__ := p33.choose_spec, b_Guesser___init__ := p33.choose_spec.bindsN fun _ _ _ _ _ _ us hl => match us, hl with | [_, _, _], _ => rfl, me_Guesser___init__ := He.meth_ok (c.1.fact 54 (f := .meth "Guesser" "__init__") rfl), mk_Guesser := He.mkr_ok (c.1.fact 53 (f := .mkr "Guesser") rfl),
    f_Guesser_weights := _, fd_Guesser_weights := p34.choose, F_Guesser_weights := p34.choose_spec, b_Guesser_weights := p34.choose_spec.bindsN fun _ _ _ _ _ _ us hl => match us, hl with | [_], _ => rfl, me_Guesser_weights := He.meth_ok (c.1.fact 55 (f := .meth "Guesser" "weights") rfl),
    f_Guesser_shift := _, fd_Guesser_shift := p35.choose, F_Guesser_shift := p35.choose_spec, b_Guesser_shift := p35.choose_spec.bindsN fun _ _ _ _ _ _ us hl => match us, hl with | [_], _ => rfl, me_Guesser_shift := He.meth_ok (c.1.fact 56 (f := .meth "Guesser" "shift") rfl),
    f_Guesser_order := _, fd_Guesser_order := p36.choose, F_Guesser_order := p36.choose_spec, b_Guesser_order := p36.choose_spec.bindsN fun _ _ _ _ _ _ us hl => match us, hl with | [_], _ => rfl, me_Guesser_order := He.meth_ok (c.1.fact 57 (f := .meth "Guesser" "order") rfl),
    f_Guesser___eq__ := _, fd_Guesser___eq__ := p37.choose, F_Guesser___eq__ := p37.choose_spec, b_Guesser___eq__ := p37.choose_spec.bindsN fun _ _ _ _ _ _ us hl => match us, hl with | [_, _], _ => rfl, me_Guesser___eq__ := He.meth_ok (c.1.fact 58 (f := .meth "Guesser" "__eq__") rfl),
    n_len := He.free_ok X G (c.1.fact 33 (f := .free "len") rfl),
    n_sum := He.free_ok X G (c.1.fact 34 (f := .free "sum") rfl),
    n_max := He.free_ok X G (c.1.fact 35 (f := .free "max") rfl),
    n_int := He.free_ok X G (c.1.fact 36 (f := .free "int") rfl),
    n_bool := He.free_ok X G (c.1.fact 37 (f := .free "bool") rfl),
    n_list := He.free_ok X G (c.1.fact 38 (f := .free "list") rfl),
    n_range := He.free_ok X G (c.1.fact 39 (f := .free "range") rfl),
    n_isinstance := He.free_ok X G (c.1.fact 40 (f := .free "isinstance") rfl),
    n_enumerate := He.free_ok X G (c.1.fact 41 (f := .free "enumerate") rfl),
    n_sorted := He.free_ok X G (c.1.fact 42 (f := .free "sorted") rfl),
    n_repr := He.free_ok X G (c.1.fact 43 (f := .free "repr") rfl),
    t_MOST_DEPTH_kinds := q0.choose, m_MOST_DEPTH_kinds := q0.choose_spec,
    t_MOST_ORDER := q1.choose, m_MOST_ORDER := q1.choose_spec,
    t_MOST_WEIGHT := q2.choose, m_MOST_WEIGHT := q2.choose_spec,
    t_MOST_SHIFT := q3.choose, m_MOST_SHIFT := q3.choose_spec,
    t_MOST_DEPTH_guessers := q4.choose, m_MOST_DEPTH_guessers := q4.choose_spec }
end My

namespace My
open PySem PySem.Spec PyProof.Rows L2 Pre
section
variable {P : Program} {w : World} {K : PySem.W.Frag} {mg : Str → Option Value} {base : Heap}
/-! ### is_whole, is_between, of whole numbers -/
def sp_is_whole : Sp := fun vs H Q _ => ∃ i : Int, vs = [.int i] ∧ Q (.bl true) H
theorem G_is_whole (T : Top K mg) : FnOk P w K mg base CX0 1 T.f_is_whole T.fd_is_whole ["value"] sp_is_whole := by
  refine T.F_is_whole.ok sc_is_whole (fun vs H Q E h => by obtain ⟨i, rfl, _⟩ := h; rfl) (fun cdv A outer s H vs Q E hr h => ?_)
  obtain ⟨i, rfl, q⟩ := h
  refine ⟨_, PSs.nox (pss_one (ps_ret (pe_and (pe_callB (k_isi K rfl) (by rfl) T.n_isinstance (by decide +kernel) (pa_cons (pv 0) (pa_cons (pe_bltn (v := .ty "int") (by rfl) T.n_int (by decide +kernel) rfl) pa_nil))) (pe_one (pe_not (pe_callB (k_isi K rfl) (by rfl) T.n_isinstance (by decide +kernel) (pa_cons (pv 0) (pa_cons (pe_bltn (v := .ty "bool") (by rfl) T.n_bool (by decide +kernel) rfl) pa_nil)))))))), ?_⟩
  refine ⟨_, rfl, _, _, _, _, true, rfl, .ty _, .base (.int i), kit_ty (by decide +kernel), true, rfl, iteT ?_⟩
  exact ⟨_, rfl, _, _, _, _, false, rfl, .ty _, .base (.int i), kit_ty (by decide +kernel), false, rfl, q⟩
/-- value a whole number, low one, high None or one -/
def sp_is_between : Sp := fun vs H Q _ => ∃ (i lo : Int) (hi : Option Int), vs = [.int i, .int lo, (match hi with | some j => .int j | none => .non)] ∧ Q (.bl (decide (lo ≤ i ∧ ∀ j, hi = some j → i ≤ j))) H
theorem G_is_between (T : Top K mg) : FnOk P w K mg base CX0 2 T.f_is_between T.fd_is_between ["value", "low", "high"] sp_is_between := by
  refine T.F_is_between.ok sc_is_between (fun vs H Q E h => by obtain ⟨i, lo, hi, rfl, _⟩ := h; rfl) (fun cdv A outer s H vs Q E hr h => ?_)
  obtain ⟨i, lo, hi, rfl, q⟩ := h
  refine ⟨_, PSs.nox (pss_one (ps_ret (pe_and (pe_call (G_is_whole T) (hr.mono (by decide)) (by rfl) T.g_is_whole T.F_is_whole.kp T.b_is_whole .nil pass0 (pa_cons (pv 0) pa_nil)) (pe_and (pe_cmpR op_le (pv 1) (pv 0) (nomark _)) (pe_one (pe_or (pe_cmpR op_isN (pv 2) pe_non (nomark _)) (pe_one (pe_cmpR op_le (pv 0) (pv 2) (nomark _))))))))), ?_⟩
  refine ⟨_, rfl, i, rfl, true, rfl, iteT ?_⟩
  refine ⟨_, rfl, _, rfl, _, _, rfl, rfl, _, rfl, ite2 (fun e => ?_) (fun e => ?_)⟩
  · have e1 : lo ≤ i := of_decide_eq_true e
    cases hi with
    | none =>
      refine ⟨_, rfl, rfl, _, rfl, iteT ?_⟩
      rw [decide_eq_true ⟨e1, fun j h => nomatch h⟩] at q
      exact q
    | some j =>
      refine ⟨_, rfl, rfl, _, rfl, iteF ⟨_, rfl, _, rfl, _, _, rfl, rfl, ?_⟩⟩
      have e2 : decide (lo ≤ i ∧ ∀ j', some j = some j' → i ≤ j') = decide (i ≤ j) := by
        by_cases h : i ≤ j
        · rw [decide_eq_true h, decide_eq_true]
          exact ⟨e1, fun j' e => by cases e; exact h⟩
        · rw [decide_eq_false h, decide_eq_false]
          exact fun z => h (z.2 j rfl)
      rw [e2] at q
      exact q
  · have e1 : ¬ lo ≤ i := fun h => e (decide_eq_true h)
    rw [decide_eq_false fun z => e1 z.1] at q
    exact q
end
end My

set_option exponentiation.threshold 100000
namespace My
open PySem PySem.Spec PyProof.Rows L2 Pre
section
variable {P : Program} {w : World} {K : PySem.W.Frag} {mg : Str → Option Value} {base : Heap}
/-! ### the law's draws -/
/-- a generator: its count is at most n -/
def GenAt (H : Hp) (g : Addr) (n : Nat) : Prop := ∃ x y z : Int, H g = some (.lst [.int x, .int y, .int z]) ∧ 0 ≤ z ∧ z ≤ (n : Int)
/-- all but one thing stand as they stood -/
def But (g : Addr) (H H' : Hp) : Prop := ∀ b o, b ≠ g → H b = some o → H' b = some o
theorem But.refl {g : Addr} {H : Hp} : But g H H := fun _ _ _ h => h
theorem But.trans {g : Addr} {H H1 H2 : Hp} (a : But g H H1) (b : But g H1 H2) : But g H H2 := fun c o n h => b c o n (a c o n h)
theorem But.same {g : Addr} {H H1 H2 : Hp} (a : But g H H1) (b : Same H1 H2) : But g H H2 := fun c o n h => b c o (a c o n h)
theorem But.of {g : Addr} {H H1 : Hp} (b : Same H H1) : But g H H1 := fun c o _ h => b c o h
theorem But.upd {g : Addr} {H H1 : Hp} {o : HO} (a : But g H H1) : But g H (upd H1 g o) := fun c u n h => by
  rw [upd_ne n]
  exact a c u n h
theorem But.free {g : Addr} {H H1 : Hp} (a : But g H H1) {p : Addr} (n : p ≠ g) (h : H1 p = none) : H p = none := by
  cases e : H p with
  | none => rfl
  | some o => rw [a p o n e] at h; cases h
/-- what is changed was not there at first -/
theorem But.fresh {g : Addr} {H H1 H2 : Hp} (s : Same H H1) (n : H g = none) (b : But g H1 H2) : Same H H2 := fun c o h => b c o (ne_of_none h n) (s c o h)
theorem GenAt.mono {H : Hp} {g : Addr} {n m : Nat} (h : GenAt H g n) (l : n ≤ m) : GenAt H g m := by
  obtain ⟨x, y, z, a, b, c⟩ := h
  exact ⟨x, y, z, a, b, by omega⟩
theorem GenAt.same {H H' : Hp} {g : Addr} {n : Nat} (h : GenAt H g n) (s : Same H H') : GenAt H' g n := by
  obtain ⟨x, y, z, a, b⟩ := h
  exact ⟨x, y, z, s _ _ a, b⟩
theorem GenAt.ne {H : Hp} {g : Addr} {n : Nat} {p : Addr} (h : GenAt H g n) (np : H p = none) : p ≠ g := by
  obtain ⟨x, y, z, a, _⟩ := h
  exact (ne_of_none a np).symm
theorem small_2900 {b : Int} (h : b ≤ 2 ^ 60) : b < 2 ^ 2900 := by omega
theorem pow_pos' (w : Nat) : (0 : Int) < 2 ^ w := Int.pow_pos (by decide)
theorem pow2_le {k m : Nat} (h : k ≤ m) : (2 : Int) ^ k ≤ 2 ^ m := by
  have e := Nat.pow_le_pow_right (show 0 < 2 by decide) h
  have e2 : ((2 ^ k : Nat) : Int) ≤ ((2 ^ m : Nat) : Int) := Int.ofNat_le.mpr e
  rw [Int.natCast_pow, Int.natCast_pow] at e2
  exact e2
def sp_law_cell (K : PySem.W.Frag) : Sp := fun vs H Q _ => ∃ (a : Addr) (ns : List Int) (i : Nat), vs = [.ref a, .int i] ∧ SqL K H a (ns.map V.int) ∧ ∀ (n : Int) H', Same H H' → Q (.int n) H'
theorem G_law_cell (T : Top K mg) : FnOk P w K mg base CX0 1 T.f_law_cell T.fd_law_cell ["_law_script", "_law_index"] (sp_law_cell K) := by
  refine T.F_law_cell.ok sc_law_cell (fun vs H Q E h => by obtain ⟨a, ns, i, rfl, _⟩ := h; rfl) (fun cdv A outer s H vs Q E hr h => ?_)
  obtain ⟨a, ns, i, rfl, hS, q⟩ := h
  refine ⟨_, PSs.nox (pss_cons (ps_if (pt_cmpR op_lt (pv 1) (pe_callB (k_len K rfl) (by rfl) T.n_len (by decide +kernel) (pa_cons (pv 0) pa_nil)) (nomark _))
    (pss_one (ps_ret (pe_ix (k_ixL K rfl) (pv 0) (pv 1) (fun _ _ => rfl))))
    pss_nil)
  (pss_one (ps_ret (pe_op op_mod (pe_callB (k_sum K rfl rfl) (by rfl) T.n_sum (by decide +kernel) (pa_cons (pe_slice (k_slL K rfl) (pv 0) po_none (po_some pe_int)) pa_nil)) pe_int)))), ?_⟩
  refine ⟨_, rfl, _, rfl, a, _, rfl, .inl hS, _, _, rfl, rfl, _, rfl, ite2 (fun e => ?_) (fun e => ?_)⟩
  · have e1 : (i : Int) < (((ns.map V.int).length : Nat) : Int) := of_decide_eq_true e
    rw [List.length_map] at e1
    have hi : i < ns.length := by omega
    refine ⟨_, rfl, _, rfl, a, _, _, .int ns[i], rfl, rfl, hS, atI_nat (by rw [List.getElem?_map, List.getElem?_eq_getElem hi]; rfl), ?_⟩
    exact q _ _ (Same.refl _)
  · refine ⟨_, rfl, _, rfl, a, _, rfl, hS, fun p np => ?_⟩
    have ec : ∃ ms : List Int, cutV (ns.map V.int) none (some 1) = ms.map V.int := by
      unfold cutV
      exact ⟨(ns.drop (HT.sIx (ns.map V.int).length 0 none)).take (HT.sIx (ns.map V.int).length (ns.map V.int).length (some 1) - HT.sIx (ns.map V.int).length 0 none), by rw [List.map_take, List.map_drop]⟩
    obtain ⟨ms, em⟩ := ec
    refine ⟨p, ms, rfl, .inl (.inl (by rw [upd_same, em])), _, _, rfl, rfl, (by show (0 : Int) < 1000003; decide), ?_⟩
    exact q _ _ (same_upd np)
theorem cmul_mod (x m j : Int) (h0 : 0 < m) (h1 : m ≤ 2 ^ 60) : CMul (x % m) j := by
  have a := Int.emod_nonneg x (show m ≠ 0 by omega)
  have b := Int.emod_lt_of_pos x h0
  exact .inl ⟨by omega, by omega⟩
def sp_law_hash : Sp := fun vs H Q _ => ∃ i j : Int, vs = [.int i, .int j] ∧ 0 ≤ j ∧ j < 2 ^ 60 ∧ ∀ n : Int, Q (.int n) H
theorem G_law_hash (T : Top K mg) : FnOk P w K mg base CX0 1 T.f_law_hash T.fd_law_hash ["_law_seed", "_law_index"] sp_law_hash := by
  refine T.F_law_hash.ok sc_law_hash (fun vs H Q E h => by obtain ⟨i, j, rfl, _⟩ := h; rfl) (fun cdv A outer s H vs Q E hr h => ?_)
  obtain ⟨i, j, rfl, h0, h1, q⟩ := h
  refine ⟨_, PSs.nox (pss_cons (ps_set (i := 2) sc_law_hash.nd rfl (by first | exact Or.inl rfl | exact Or.inr rfl) (pe_op op_mod (pe_callTy call_int1 (by rfl) T.n_int (by decide +kernel) (pa_cons (pe_op op_add (pe_op op_add (pe_op op_add (pe_op op_mul (pv 0) pe_int) (pe_op op_mul (pe_op op_mul pe_int (pv 1)) (pv 1))) (pv 1)) pe_int) pa_nil)) pe_int))
  (pss_cons (ps_set (i := 2) sc_law_hash.nd rfl (by first | exact Or.inl rfl | exact Or.inr rfl) (pe_op op_mod (pe_callTy call_int1 (by rfl) T.n_int (by decide +kernel) (pa_cons (pe_op op_add (pe_op op_mul (pv 2) (pv 2)) pe_int) pa_nil)) pe_int))
  (pss_one (ps_ret (pe_op op_mod (pe_callTy call_int1 (by rfl) T.n_int (by decide +kernel) (pa_cons (pe_op op_mul (pv 2) pe_int) pa_nil)) pe_int))))), ?_⟩
  refine ⟨_, rfl, _, _, rfl, rfl, .inr ⟨by decide, by decide⟩, _, rfl, _, _, rfl, rfl, .inl ⟨by decide, by decide⟩, _, rfl, _, _, rfl, rfl, .inr ⟨by omega, by omega⟩, _, _, rfl, rfl, _, rfl, _, _, rfl, rfl, _, _, rfl, rfl,
    .inl ⟨_, rfl, _, _, rfl, rfl, (by show (0 : Int) < _; decide), ?_⟩⟩
  refine ⟨_, rfl, _, rfl, _, _, rfl, rfl, cmul_mod _ _ _ (by decide) (by decide), _, _, rfl, rfl, .inl ⟨_, rfl, _, _, rfl, rfl, (by show (0 : Int) < _; decide), ?_⟩⟩
  refine ⟨_, rfl, _, _, rfl, rfl, .inr ⟨by decide, by decide⟩, .inl ⟨_, rfl, _, _, rfl, rfl, (by show (0 : Int) < _; decide), ?_⟩⟩
  exact q _

def sp_law_generator (K : PySem.W.Frag) : Sp := fun vs H Q _ => ∃ (a : Addr) (ns : List Int) (i : Nat), vs = [.ref a, .int i] ∧ SqL K H a (ns.map V.int) ∧ ∀ H' g, Same H H' → H g = none → GenAt H' g (1000 * i) → Q (.ref g) H'
theorem G_law_generator (T : Top K mg) : FnOk P w K mg base CX0 2 T.f_law_generator T.fd_law_generator ["_law_script", "_law_index"] (sp_law_generator K) := by
  refine T.F_law_generator.ok sc_law_generator (fun vs H Q E h => by obtain ⟨a, ns, i, rfl, _⟩ := h; rfl) (fun cdv A outer s H vs Q E hr h => ?_)
  obtain ⟨a, ns, i, rfl, hS, q⟩ := h
  refine ⟨_, PSs.nox (pss_cons (ps_set (i := 2) sc_law_generator.nd rfl (by first | exact Or.inl rfl | exact Or.inr rfl) (pe_call (G_law_cell T) (hr.mono (by decide)) (by rfl) T.g_law_cell T.F_law_cell.kp T.b_law_cell .nil pass0 (pa_cons (pv 0) (pa_cons (pv 1) pa_nil))))
  (pss_one (ps_ret (pe_lst (pa_cons (pe_op op_mod (pe_callTy call_int1 (by rfl) T.n_int (by decide +kernel) (pa_cons (pe_callB (call_max2 rfl) (by rfl) T.n_max (by decide +kernel) (pa_cons (pe_op op_sub (pv 2) (pe_op op_powW pe_int pe_int)) (pa_cons pe_int pa_nil))) pa_nil)) (pe_op op_powW (pe_op op_powW pe_int pe_int) pe_int)) (pa_cons (pe_op op_mod (pe_callTy call_int1 (by rfl) T.n_int (by decide +kernel) (pa_cons (pv 2) pa_nil)) pe_int) (pa_cons (pe_op op_mul pe_int (pv 1)) pa_nil))))))), ?_⟩
  refine ⟨_, rfl, _, rfl, a, ns, i, rfl, hS, fun n H1 s1 => ?_⟩
  refine ⟨_, rfl, _, _, rfl, rfl, ⟨by decide, by decide +kernel⟩, _, _, rfl, rfl, _, _, rfl, .inl ⟨_, rfl, _, _, rfl, rfl, ⟨by decide, by decide +kernel⟩, _, _, rfl, rfl, ⟨by decide, by decide +kernel⟩, _, _, rfl, rfl, (by show (0 : Int) < _; decide +kernel), ?_⟩⟩
  refine ⟨_, rfl, .inl ⟨_, rfl, _, _, rfl, rfl, (by show (0 : Int) < _; decide), ?_⟩⟩
  refine ⟨_, rfl, _, _, rfl, rfl, .inl ⟨by decide, by decide⟩, (show 3 ≤ sizeLine by decide), fun g ng => ?_⟩
  exact q _ g (s1.trans (same_upd ng)) (s1.free ng) ⟨_, _, _, upd_same, by omega, by omega⟩
def sp_law_random : Sp := fun vs H Q _ => ∃ (g : Addr) (b : Int) (n : Nat), vs = [.ref g, .int b] ∧ GenAt H g n ∧ n ≤ 10 ^ 12 ∧ 0 < b ∧ b < 2 ^ 2900 ∧ ∀ (d : Int) H', 0 ≤ d → d < b → GenAt H' g (n + 100) → But g H H' → Q (.int d) H'
theorem G_law_random (T : Top K mg) : FnOk P w K mg base CX0 2 T.f_law_random T.fd_law_random ["_law_generator_here", "_law_bound"] sp_law_random := by
  refine T.F_law_random.ok sc_law_random (fun vs H Q E h => by obtain ⟨g, b, n, rfl, _⟩ := h; rfl) (fun cdv A outer s H vs Q E hr h => ?_)
  obtain ⟨g, b, n, rfl, ⟨x, y, z, hg, z0, z1⟩, hn, b0, b1, q⟩ := h
  refine ⟨_, PSs.nox (pss_cons (ps_if (pt_cmpR op_gt (pe_ix (k_ixL K rfl) (pv 0) pe_int (fun _ _ => rfl)) pe_int (nomark _))
    (pss_cons (ps_set (i := 2) sc_law_random.nd rfl (by first | exact Or.inl rfl | exact Or.inr rfl) (pe_op op_mod (pe_callTy call_int1 (by rfl) T.n_int (by decide +kernel) (pa_cons (pe_ix (k_ixL K rfl) (pv 0) pe_int (fun _ _ => rfl)) pa_nil)) (pv 1)))
  (pss_cons (ps_asg (pe_op op_fdivW (pe_ix (k_ixL K rfl) (pv 0) pe_int (fun _ _ => rfl)) (pv 1)) (pg_sub (pv 0) pe_int set_list))
  (pss_one (ps_ret (pv 2)))))
    pss_nil)
  (pss_cons (ps_set (i := 2) sc_law_random.nd rfl (by first | exact Or.inl rfl | exact Or.inr rfl) pe_int)
  (pss_cons (ps_for PassesOwn.never rfl (pi_range1 (by rfl) T.n_range (pa_cons (pe_op op_add pe_int (pe_op op_fdivW (pe_bits (pv 1)) pe_int)) pa_nil)) (pg_name (i := 3) sc_law_random.nd rfl (by first | exact Or.inl rfl | exact Or.inr rfl))
    (pss_cons (ps_asg (pe_op op_add (pe_ix (k_ixL K rfl) (pv 0) pe_int (fun _ _ => rfl)) pe_int) (pg_sub (pv 0) pe_int set_list))
  (pss_one (ps_set (i := 2) sc_law_random.nd rfl (by first | exact Or.inl rfl | exact Or.inr rfl) (pe_op op_add (pe_op op_mul (pv 2) pe_int) (pe_call (G_law_hash T) (hr.mono (by decide)) (by rfl) T.g_law_hash T.F_law_hash.kp T.b_law_hash .nil pass0 (pa_cons (pe_ix (k_ixL K rfl) (pv 0) pe_int (fun _ _ => rfl)) (pa_cons (pe_ix (k_ixL K rfl) (pv 0) pe_int (fun _ _ => rfl)) pa_nil))))))))
  (pss_one (ps_ret (pe_op op_mod (pe_callTy call_int1 (by rfl) T.n_int (by decide +kernel) (pa_cons (pv 2) pa_nil)) (pv 1))))))), ?_⟩
  have a0 : ∀ x y z : Int, atI [V.int x, .int y, .int z] 0 = some (.int x) := fun _ _ _ => rfl
  have a1 : ∀ x y z : Int, atI [V.int x, .int y, .int z] 1 = some (.int y) := fun _ _ _ => rfl
  have a2 : ∀ x y z : Int, atI [V.int x, .int y, .int z] 2 = some (.int z) := fun _ _ _ => rfl
  have hS : SqL K H g [.int x, .int y, .int z] := .inl (.inl hg)
  have nb : b.natAbs < 2 ^ 2900 := by
    have e : ((b.natAbs : Nat) : Int) < ((2 ^ 2900 : Nat) : Int) := by
      rw [Int.natCast_pow]
      omega
    exact Int.ofNat_lt.mp e
  refine ⟨_, rfl, g, _, 0, _, rfl, rfl, hS, a0 x y z, _, _, rfl, rfl, _, rfl, ite2 (fun e => ?_) (fun e => ?_)⟩
  · refine ⟨_, rfl, g, _, 0, _, rfl, rfl, hS, a0 x y z, .inl ⟨_, rfl, _, rfl, _, _, rfl, rfl, b0, ?_⟩⟩
    refine ⟨_, rfl, g, _, 0, _, rfl, rfl, hS, a0 x y z, _, rfl, _, _, rfl, rfl, wide_div b0 nb (by decide) (by decide), _, rfl, g, _, 0, 0, rfl, rfl, hg, rfl, _, rfl, ?_⟩
    exact q _ _ (Int.emod_nonneg _ (by omega)) (Int.emod_lt_of_pos _ b0) ⟨_, _, _, upd_same, z0, by omega⟩ (But.upd But.refl)
  · have hb : Builtin.Int.intBits b ≤ 2900 := PyProof.Rows.intBits_le nb
    have hq0 : (0 : Int) ≤ ((Builtin.Int.intBits b : Nat) : Int) / 30 := Int.ediv_nonneg (Int.natCast_nonneg _) (by decide)
    have hq1 : ((Builtin.Int.intBits b : Nat) : Int) / 30 ≤ 97 := by omega
    refine ⟨_, rfl, _, rfl, _, _, rfl, rfl, ⟨by decide, by decide +kernel⟩, _, _, rfl, rfl, _, rfl, by omega, by omega, ?_⟩
    refine for_range (lo := 0) (n := (1 + ((Builtin.Int.intBits b : Nat) : Int) / 30).toNat) (fun i σ H1 => ∃ (d z' : Int) (v : Option V), σ = [some (.ref g), some (.int b), some (.int d), v] ∧ H1 g = some (.lst [.int x, .int y, .int z']) ∧ 0 ≤ z' ∧ z' ≤ (n : Int) + (i : Int) ∧ But g H H1)
      ⟨0, z, none, rfl, hg, z0, by omega, But.refl⟩ ?_ ?_
    · rintro i σ H1 hi ⟨d, z', v, rfl, hg1, y0, y1, b1⟩
      have hS1 : SqL K H1 g [.int x, .int y, .int z'] := .inl (.inl hg1)
      refine ⟨_, rfl, g, _, 2, _, rfl, rfl, hS1, a2 x y z', _, _, rfl, rfl, _, rfl, g, _, 2, 2, rfl, rfl, hg1, rfl, ?_⟩
      have hS2 : SqL K (upd H1 g (.lst [.int x, .int y, .int (z' + 1)])) g [.int x, .int y, .int (z' + 1)] := .inl (.inl upd_same)
      refine ⟨_, rfl, _, _, rfl, rfl, .inr ⟨by decide, by decide⟩, _, rfl, g, _, 1, _, rfl, rfl, hS2, a1 _ _ _, _, rfl, g, _, 2, _, rfl, rfl, hS2, a2 _ _ _, _, _, rfl, by omega, by omega, fun r => ?_⟩
      exact ⟨_, _, rfl, rfl, _, z' + 1, _, rfl, upd_same, by omega, by omega, But.upd b1⟩
    · rintro σ H1 ⟨d, z', v, rfl, hg1, y0, y1, b1⟩
      refine ⟨_, rfl, .inl ⟨_, rfl, _, rfl, _, _, rfl, rfl, b0, ?_⟩⟩
      exact q _ _ (Int.emod_nonneg _ (by omega)) (Int.emod_lt_of_pos _ b0) ⟨_, _, _, hg1, y0, by omega⟩ b1
/-- a comprehension over a range that draws whole numbers -/
theorem lc_drawR {lo : Int} {n : Nat} {j : Nat} {te : TE} {vs : List Nat} {σ : L2.St} {H1 : Hp} {D : Addr} {Qd : Hp → Prop} (g : Addr) (m step : Nat) (P : Int → Prop) (nD : H1 D = none) (hG : GenAt H1 g m) (hz : n < sizeLine)
    (hw : ∀ x, wipe ((wipe σ vs).set j (some x)) vs = wipe σ vs)
    (hs : ∀ (i : Nat) (H' : Hp), i < n → But g H1 H' → GenAt H' g (m + step * i) → ∀ Qt : V → Hp → Prop, (∀ (y : Int) H'', P y → But g H' H'' → GenAt H'' g (m + step * (i + 1)) → Qt (.int y) H'') → te ((wipe σ vs).set j (some (.int (lo + (i : Int))))) H' Qt)
    (hd : ∀ H' (ys : List Int), But g H1 H' → GenAt H' g (m + step * n) → H' D = some (.lst (ys.map V.int)) → ys.length = n → (∀ y ∈ ys, P y) → Qd H') :
    ∃ W : Nat → Nat → Hp → Prop, (∃ m, W 0 m (upd H1 D (.lst []))) ∧ ∀ i m H, W i m H →
      ((Itr lo n).stop i H ∧ Qd H) ∨ ((Itr lo n).go i H ∧ ∃ Nx : Hp → Prop, (∀ H', Nx H' → ∃ m', m' < m ∧ W (i + 1) m' H') ∧ ∀ x H', (Itr lo n).yld i H x H' → gName j x (wipe σ vs) H' fun σ2 H2 => wipe σ2 vs = wipe σ vs ∧ tYes σ2 H2 fun b H3 =>
        if b = true then te σ2 H3 fun y H4 => ∃ acc, H4 D = some (.lst acc) ∧ acc.length < sizeLine ∧ Nx (upd H4 D (.lst (acc ++ [y]))) else Nx H3) := by
  have nDg : D ≠ g := hG.ne nD
  refine lc_range (lo := lo) (n := n) (fun i H => ∃ ys : List Int, But g H1 H ∧ GenAt H g (m + step * i) ∧ H D = some (.lst (ys.map V.int)) ∧ ys.length = i ∧ ∀ y ∈ ys, P y)
    ⟨[], But.of (same_upd nD), hG.same (same_upd nD), upd_same, rfl, (fun _ h => nomatch h)⟩ ?_ ?_
  · rintro i H hi ⟨ys, b, hg, hD, hl, hP⟩
    refine ⟨hw _, ?_⟩
    unfold tYes
    dsimp only
    rw [if_pos (show true = true from rfl)]
    refine hs i H hi b hg _ fun y H2 py b2 hg2 => ?_
    refine ⟨_, b2 _ _ nDg hD, by rw [List.length_map]; omega, ys ++ [y], ?_, ?_, ?_, ?_, ?_⟩
    · intro c o nc hc
      rw [upd_ne (ne_of_none hc nD)]
      exact b2 _ _ nc (b _ _ nc hc)
    · obtain ⟨x1, x2, x3, e1, e2⟩ := hg2
      exact ⟨x1, x2, x3, by rw [upd_ne nDg.symm]; exact e1, e2⟩
    · rw [upd_same, List.map_append]
      rfl
    · rw [List.length_append, hl]
      rfl
    · intro z hz
      rcases List.mem_append.mp hz with hz | hz
      · exact hP z hz
      · rw [List.mem_singleton.mp hz]
        exact py
  · rintro H ⟨ys, b, hg, hD, hl, hP⟩
    exact hd H ys b hg hD hl hP
end
end My

namespace My
theorem getD_of {l : List Int} {i : Nat} (h : i < l.length) : l.getD i 0 = l[i] := by
  rw [List.getD_eq_getElem?_getD, List.getElem?_eq_getElem h]
  rfl
/-! ### guesses, rests, in plain terms -/
def dot : List Int → List Int → Int
  | w :: ws, b :: bs => w * b + dot ws bs
  | _, _ => 0
theorem dot_nil (ws : List Int) : dot ws [] = 0 := by cases ws <;> rfl
theorem dot_take : ∀ (i : Nat) (ws bs : List Int), i < ws.length → i < bs.length → dot (ws.take (i + 1)) bs = dot (ws.take i) bs + ws.getD i 0 * bs.getD i 0
  | 0, w :: ws, b :: bs, _, _ => by simp [dot]
  | i + 1, w :: ws, b :: bs, h1, h2 => by
    have ih := dot_take i ws bs (by simpa using h1) (by simpa using h2)
    show w * b + dot (ws.take (i + 1)) bs = w * b + dot (ws.take i) bs + ws.getD i 0 * bs.getD i 0
    rw [ih]
    omega
  | _, [], _, h, _ => by simp at h
  | _, _ :: _, [], _, h => by simp at h
/-- only as many items as there are weights count -/
theorem dot_long : ∀ (ws bs cs : List Int), ws.length ≤ bs.length → dot ws (bs ++ cs) = dot ws bs
  | [], _, _, _ => rfl
  | w :: ws, b :: bs, cs, h => by
    show w * b + dot ws (bs ++ cs) = w * b + dot ws bs
    rw [dot_long ws bs cs (by simpa using h)]
  | _ :: _, [], _, h => by simp at h
def guessF (ws : List Int) (sh : Nat) (pre : List Int) : Int := dot ws pre.reverse / 2 ^ sh
theorem guess_end (ws : List Int) (sh : Nat) (pre : List Int) (k : Nat) (h : k + ws.length ≤ pre.length) : guessF ws sh (pre.drop k) = guessF ws sh pre := by
  unfold guessF
  have e : pre.reverse = (pre.drop k).reverse ++ (pre.take k).reverse := by rw [← List.reverse_append, List.take_append_drop]
  rw [e, dot_long]
  rw [List.length_reverse, List.length_drop]
  omega
/-- the rest at a place -/
def restAt (ws : List Int) (sh : Nat) (row : List Int) (p : Nat) : Int := row.getD p 0 - (if p < ws.length then 0 else guessF ws sh (row.take p))
def toldR (ws : List Int) (sh : Nat) (row : List Int) : List Int := (List.range row.length).map (restAt ws sh row)
theorem toldR_len (ws : List Int) (sh : Nat) (row : List Int) : (toldR ws sh row).length = row.length := by
  unfold toldR
  rw [List.length_map, List.length_range]
theorem toldR_firsts (ws : List Int) (sh : Nat) (row : List Int) (k : Nat) (hk : k ≤ ws.length) : (toldR ws sh row).take k = row.take k := by
  apply List.ext_getElem?
  intro i
  rw [List.getElem?_take, List.getElem?_take]
  by_cases h : i < k
  · rw [if_pos h, if_pos h]
    unfold toldR
    rw [List.getElem?_map]
    by_cases h2 : i < row.length
    · rw [List.getElem?_range h2]
      show some (row.getD i 0 - if i < ws.length then 0 else _) = row[i]?
      rw [if_pos (by omega), Int.sub_zero, List.getElem?_eq_getElem h2, getD_of h2]
    · rw [List.getElem?_eq_none (by rw [List.length_range]; omega), List.getElem?_eq_none (by omega)]
      rfl
  · rw [if_neg h, if_neg h]
theorem toldR_next (ws : List Int) (sh : Nat) (row : List Int) (p : Nat) (h1 : ws.length ≤ p) (h2 : p < row.length) : (toldR ws sh row).take (p + 1) = (toldR ws sh row).take p ++ [row.getD p 0 - guessF ws sh (row.take p)] := by
  rw [List.take_add_one]
  congr 1
  unfold toldR
  rw [List.getElem?_map, List.getElem?_range h2]
  show [restAt ws sh row p] = _
  unfold restAt
  rw [if_neg (by omega)]
def wrapI (n : Int) (d : Nat) : Int := (n + 2 ^ (d - 1)) % (2 * 2 ^ (d - 1)) - 2 ^ (d - 1)
def restsF (ws : List Int) (sh : Nat) (d : Nat) (row : List Int) : List Int := (toldR ws sh row).map fun n => wrapI n d
def Samples (d : Nat) (row : List Int) : Prop := ∀ n ∈ row, -(2 ^ (d - 1)) ≤ n ∧ n ≤ 2 ^ (d - 1) - 1
def Weights (ws : List Int) : Prop := ws.length ≤ 8 ∧ ∀ n ∈ ws, -32768 ≤ n ∧ n ≤ 32768
end My

namespace My
open PySem PySem.Spec PyProof.Rows L2 Pre
/-- an instance: isinstance of its class -/
theorem tyx_ins {K : PySem.W.Frag} {H : Hp} {a C dx : Addr} {fs : List (Str × V)} (c : C8.InsC K C) (h : H a = some (.ins C dx fs)) : TyX K H (.ref a) (.ref C) := .base (.ins h c.cl c.ha c.hn c.htk c.hm)
theorem rd_list {K : PySem.W.Frag} {H : Hp} {a : Addr} {xs : List V} (h : Rd H a (.lst xs)) : TyX K H (.ref a) (.type "list") := by
  rcases h with h | ⟨o, h⟩
  · exact .base (.lst h)
  · exact .base (.frz h)
theorem Rd.same {H H' : Hp} {a : Addr} {u : HO} (h : Rd H a u) (s : Same H H') : Rd H' a u := by
  rcases h with h | ⟨o, h⟩
  · exact .inl (s _ _ h)
  · exact .inr ⟨o, s _ _ h⟩
theorem small_row {ns : List Int} (h : ns.length ≤ 1000) : (ns.map V.int).length < sizeLine := by
  rw [List.length_map]
  exact small1000 h
section
variable {P : Program} {w : World} {K : PySem.W.Frag} {mg : Str → Option Value} {base : Heap}
/-! ### checks -/
def sp_check_depth : Sp := fun vs H Q _ => ∃ d m : Int, vs = [.int d, .int m] ∧ 1 ≤ d ∧ d ≤ m ∧ Q .non H
theorem G_check_depth (T : Top K mg) : FnOk P w K mg base CX0 3 T.f_check_depth T.fd_check_depth ["depth", "most"] sp_check_depth := by
  refine T.F_check_depth.ok sc_check_depth (fun vs H Q E h => by obtain ⟨d, m, rfl, _⟩ := h; rfl) (fun cdv A outer s H vs Q E hr h => ?_)
  obtain ⟨d, m, rfl, h0, h1, q⟩ := h
  refine ⟨_, PSs.nox (pss_one (ps_if (pt_not (pt_val (pe_call (G_is_between T) (hr.mono (by decide)) (by rfl) T.g_is_between T.F_is_between.kp T.b_is_between .nil pass0 (pa_cons (pv 0) (pa_cons pe_int (pa_cons (pv 1) pa_nil))))))
    (pss_one ps_never)
    pss_nil)), ?_⟩
  refine ⟨_, rfl, _, rfl, d, 1, some m, rfl, _, rfl, ?_⟩
  rw [decide_eq_true ⟨h0, fun j h => by cases h; exact h1⟩]
  exact iteF q
def sp_is_sample : Sp := fun vs H Q _ => ∃ (n : Int) (d : Nat), vs = [.int n, .int d] ∧ 1 ≤ d ∧ d ≤ 1000 ∧ Q (.bl (decide (-(2 ^ (d - 1)) ≤ n ∧ n ≤ 2 ^ (d - 1) - 1))) H
theorem pred_toNat {d : Nat} (h : 1 ≤ d) : ((d : Int) - 1).toNat = d - 1 := by omega
theorem G_is_sample (T : Top K mg) : FnOk P w K mg base CX0 3 T.f_is_sample T.fd_is_sample ["value", "depth"] sp_is_sample := by
  refine T.F_is_sample.ok sc_is_sample (fun vs H Q E h => by obtain ⟨n, d, rfl, _⟩ := h; rfl) (fun cdv A outer s H vs Q E hr h => ?_)
  obtain ⟨n, d, rfl, h0, h1, q⟩ := h
  refine ⟨_, PSs.nox (pss_one (ps_ret (pe_call (G_is_between T) (hr.mono (by decide)) (by rfl) T.g_is_between T.F_is_between.kp T.b_is_between .nil pass0 (pa_cons (pv 0) (pa_cons (pe_op op_sub pe_int (pe_op op_shl pe_int (pe_op op_sub (pv 1) pe_int))) (pa_cons (pe_op op_sub (pe_op op_shl pe_int (pe_op op_sub (pv 1) pe_int)) pe_int) pa_nil)))))), ?_⟩
  refine ⟨_, rfl, _, rfl, _, _, rfl, rfl, _, _, rfl, rfl, ⟨by omega, by omega, by decide⟩, _, _, rfl, rfl, _, rfl, _, _, rfl, rfl, _, _, rfl, rfl, ⟨by omega, by omega, by decide⟩, _, _, rfl, rfl, n, 0 - 1 * 2 ^ ((d : Int) - 1).toNat, some (1 * 2 ^ ((d : Int) - 1).toNat - 1), rfl, ?_⟩
  have e : decide (0 - 1 * 2 ^ ((d : Int) - 1).toNat ≤ n ∧ ∀ j, some (1 * 2 ^ ((d : Int) - 1).toNat - 1 : Int) = some j → n ≤ j) = decide (-(2 ^ (d - 1)) ≤ n ∧ n ≤ 2 ^ (d - 1) - 1) := by
    rw [pred_toNat h0, Int.one_mul]
    refine decide_eq_decide.mpr ⟨fun ⟨a, b⟩ => ⟨by omega, b _ rfl⟩, fun ⟨a, b⟩ => ⟨by omega, fun j h => by cases h; exact b⟩⟩
  rw [e]
  exact q
/-- a list of samples of a depth -/
def sp_are_samples (K : PySem.W.Frag) : Sp := fun vs H Q _ => ∃ (a : Addr) (ns : List Int) (d : Nat), vs = [.ref a, .int d] ∧ Rd H a (.lst (ns.map V.int)) ∧ Samples d ns ∧ ns.length ≤ 1000 ∧ 1 ≤ d ∧ d ≤ 1000 ∧ ∀ H', Same H H' → Q (.bl true) H'
theorem fm_none {α β : Type} (l : List α) : (l.map fun _ => (none : Option β)).filterMap id = [] := by
  induction l with
  | nil => rfl
  | cons n r ih => simp
theorem G_are_samples (T : Top K mg) : FnOk P w K mg base CX0 4 T.f_are_samples T.fd_are_samples ["value", "depth"] (sp_are_samples K) := by
  refine T.F_are_samples.ok sc_are_samples (fun vs H Q E h => by obtain ⟨a, ns, d, rfl, _⟩ := h; rfl) (fun cdv A outer s H vs Q E hr h => ?_)
  obtain ⟨a, ns, d, rfl, hA, hs, hl, h0, h1, q⟩ := h
  refine ⟨_, PSs.nox (pss_one (ps_ret (pe_and (pe_callB (k_isi K rfl) (by rfl) T.n_isinstance (by decide +kernel) (pa_cons (pv 0) (pa_cons (pe_bltn (v := .ty "list") (by rfl) T.n_list (by decide +kernel) rfl) pa_nil))) (pe_one (pe_cmpR (k_eqD K rfl hr.units) (pe_lc (own := [("item", 2)]) (g := gName 2) (by rfl) sc_are_samples.nd (k_piL K rfl (pv 0)) (blkOk_by (own := [("item", 2)]) (N := N_are_samples) (sc := defScope s_are_samples) (by decide +kernel)) (fun _ _ _ _ _ => (pg_name (i := 2) sc_are_samples.nd rfl (by first | exact Or.inl rfl | exact Or.inr rfl))) (fun _ _ _ _ _ => (pts_one (pt_not (pt_val (pe_call (G_is_sample T) (hr.mono (by decide)) (by rfl) T.g_is_sample T.F_is_sample.kp T.b_is_sample .nil pass0 (pa_cons (pv 2) (pa_cons (pv 1) pa_nil))))))) (fun _ _ _ _ _ => (pv 2))) (pe_lst pa_nil) (nomark _)))))), ?_⟩
  have hS : SqL K H a (ns.map V.int) := .inl hA
  refine ⟨_, rfl, _, _, _, _, true, rfl, .ty _, rd_list hA, kit_ty (by decide +kernel), true, rfl, iteT ?_⟩
  refine ⟨_, rfl, a, rfl, ⟨_, hS⟩, fun D nD => ?_⟩
  refine lc_selL (K := K) (xs := ns.map V.int) (ns.map fun _ => none) nD hS (by rw [List.length_map, List.length_map]) (small_row hl) (fun x => rfl) ?_ ?_
  · intro i x o H' hx ho s Qt qt
    obtain ⟨n, hn, rfl⟩ := int_at hx
    rw [List.getElem?_map, hn] at ho
    cases ho
    refine ⟨_, rfl, _, rfl, n, d, rfl, h0, h1, _, rfl, ?_⟩
    rw [decide_eq_true (hs n (List.mem_of_getElem? hn))]
    exact iteF (qt _ (Same.refl _))
  · intro H' s hD
    rw [fm_none] at hD
    refine ⟨Nat.zero_le _, fun p np => ?_⟩
    refine eq_lst (ns := []) (.inl (.inl (same_upd np _ _ hD))) (.inl (.inl upd_same)) ?_
    exact q _ (s.trans (same_upd np))
def sp_wrapped : Sp := fun vs H Q _ => ∃ (n : Int) (d : Nat), vs = [.int n, .int d] ∧ 1 ≤ d ∧ d ≤ 64 ∧ Q (.int (wrapI n d)) H
theorem G_wrapped (T : Top K mg) : FnOk P w K mg base CX0 1 T.f_wrapped T.fd_wrapped ["number", "depth"] sp_wrapped := by
  refine T.F_wrapped.ok sc_wrapped (fun vs H Q E h => by obtain ⟨n, d, rfl, _⟩ := h; rfl) (fun cdv A outer s H vs Q E hr h => ?_)
  obtain ⟨n, d, rfl, h0, h1, q⟩ := h
  refine ⟨_, PSs.nox (pss_cons (ps_set (i := 2) sc_wrapped.nd rfl (by first | exact Or.inl rfl | exact Or.inr rfl) (pe_op op_shl pe_int (pe_op op_sub (pv 1) pe_int)))
  (pss_one (ps_ret (pe_op op_sub (pe_op op_mod (pe_op op_add (pv 0) (pv 2)) (pe_op op_mul pe_int (pv 2))) (pv 2))))), ?_⟩
  refine ⟨_, rfl, _, _, rfl, rfl, _, _, rfl, rfl, ⟨by omega, by omega, by decide⟩, ?_⟩
  have hp := pow_pos' (d - 1)
  have e : (1 : Int) * 2 ^ ((d : Int) - 1).toNat = 2 ^ (d - 1) := by rw [pred_toNat h0, Int.one_mul]
  dsimp only
  rw [e]
  refine ⟨_, rfl, _, rfl, _, _, rfl, rfl, _, rfl, _, _, rfl, rfl, .inl ⟨by decide, by decide⟩, _, _, rfl, rfl, (by show (0 : Int) < _; omega), _, rfl, _, _, rfl, rfl, ?_⟩
  exact q
/-! ### guessers -/
/-- a guesser of the weights ws and the shift sh -/
def GuesserAt (C : Addr) (H : Hp) (a : Addr) (ws : List Int) (sh : Nat) : Prop := Weights ws ∧ sh ≤ 15 ∧ ∃ dx p, H a = some (.ins C dx [("parts", .ref p), ("down", .int sh)]) ∧ H p = some (.lst (ws.map V.int))
theorem GuesserAt.same {C : Addr} {H H' : Hp} {a : Addr} {ws : List Int} {sh : Nat} (h : GuesserAt C H a ws sh) (s : Same H H') : GuesserAt C H' a ws sh := by
  obtain ⟨h1, h2, dx, p, h3, h4⟩ := h
  exact ⟨h1, h2, dx, p, s _ _ h3, s _ _ h4⟩
def sp_Guesser___init__ (C : Addr) (K : PySem.W.Frag) : Sp := fun vs H Q _ => ∃ (x a dx : Addr) (ws : List Int) (sh : Nat), vs = [.ref x, .ref a, .int sh] ∧ H x = some (.ins C dx []) ∧ Rd H a (.lst (ws.map V.int)) ∧ Weights ws ∧ sh ≤ 15 ∧
  ∀ H', (∀ b o, b ≠ x → H b = some o → H' b = some o) → GuesserAt C H' x ws sh → (∃ dx p, H' x = some (.ins C dx [("parts", .ref p), ("down", .int sh)]) ∧ H p = none) → Q .non H'
theorem G_Guesser___init__ (T : Top K mg) : FnOk P w K mg base CX0 3 T.f_Guesser___init__ T.fd_Guesser___init__ ["self", "weights", "shift"] (sp_Guesser___init__ T.C_Guesser K) := by
  refine T.F_Guesser___init__.ok sc_Guesser___init__ (fun vs H Q E h => by obtain ⟨x, a, dx, ws, sh, rfl, _⟩ := h; rfl) (fun cdv A outer s H vs Q E hr h => ?_)
  obtain ⟨x, a, dx, ws, sh, rfl, hx, hA, hW, hsh, q⟩ := h
  refine ⟨_, PSs.nox (pss_cons (ps_if (PW.pt (pw_or (pt_not (pt_val (pe_callB (k_isi K rfl) (by rfl) T.n_isinstance (by decide +kernel) (pa_cons (pv 1) (pa_cons (pe_bltn (v := .ty "list") (by rfl) T.n_list (by decide +kernel) rfl) pa_nil))))) (pw_or1 (pt_cmpR op_gt (pe_callB (k_len K rfl) (by rfl) T.n_len (by decide +kernel) (pa_cons (pv 1) pa_nil)) (pe_glob (v := .int 8) rfl T.m_MOST_ORDER ⟨_, rfl⟩) (nomark _)))))
    (pss_one ps_never)
    pss_nil)
  (pss_cons (ps_for PassesOwn.never rfl (k_piL K rfl (pv 1)) (pg_name (i := 3) sc_Guesser___init__.nd rfl (by first | exact Or.inl rfl | exact Or.inr rfl))
    (pss_one (ps_if (pt_not (pt_val (pe_call (G_is_between T) (hr.mono (by decide)) (by rfl) T.g_is_between T.F_is_between.kp T.b_is_between .nil pass0 (pa_cons (pv 3) (pa_cons (pe_un un_neg (pe_glob (v := .int 32768) rfl T.m_MOST_WEIGHT ⟨_, rfl⟩)) (pa_cons (pe_glob (v := .int 32768) rfl T.m_MOST_WEIGHT ⟨_, rfl⟩) pa_nil))))))
    (pss_one ps_never)
    pss_nil)))
  (pss_cons (ps_if (pt_not (pt_val (pe_call (G_is_between T) (hr.mono (by decide)) (by rfl) T.g_is_between T.F_is_between.kp T.b_is_between .nil pass0 (pa_cons (pv 2) (pa_cons pe_int (pa_cons (pe_glob (v := .int 15) rfl T.m_MOST_SHIFT ⟨_, rfl⟩) pa_nil))))))
    (pss_one ps_never)
    pss_nil)
  (pss_cons (ps_fld (pv 0) (pe_callTy (k_listOf K rfl) (by rfl) T.n_list (by decide +kernel) (pa_cons (pv 1) pa_nil)) rfl)
  (pss_one (ps_fld (pv 0) (pv 2) rfl)))))), ?_⟩
  have hS : SqL K H a (ws.map V.int) := .inl hA
  refine ⟨_, rfl, _, _, _, _, true, rfl, .ty _, rd_list hA, kit_ty (by decide +kernel), true, rfl, iteF ?_⟩
  refine ⟨_, rfl, a, _, rfl, .inl hS, _, _, rfl, rfl, _, rfl, ?_⟩
  rw [List.length_map, decide_eq_false (show ¬ (ws.length : Int) > 8 by have := hW.1; omega)]
  refine iteF ?_
  -- for weight in weights
  refine ⟨_, rfl, a, rfl, ⟨_, hS⟩, for_list (K := K) (a := a) (xs := ws.map V.int) (fun i σ H1 => ∃ v, σ = [some (.ref x), some (.ref a), some (.int sh), v] ∧ H1 = H) ⟨none, rfl, rfl⟩ (fun i σ H1 _ ⟨_, _, e⟩ => by rw [e]; exact hS) ?_ ?_⟩
  · rintro i v σ H1 hv ⟨v3, rfl, rfl⟩
    obtain ⟨n, hn, rfl⟩ := int_at hv
    have hb := hW.2 n (List.mem_of_getElem? hn)
    refine ⟨_, rfl, _, rfl, n, -32768, some 32768, rfl, _, rfl, ?_⟩
    rw [decide_eq_true ⟨hb.1, fun j h => by cases h; exact hb.2⟩]
    exact iteF ⟨_, rfl, rfl⟩
  · rintro σ H1 ⟨v3, rfl, rfl⟩
    refine ⟨_, rfl, (sh : Int), 0, some 15, rfl, _, rfl, ?_⟩
    rw [decide_eq_true ⟨by omega, fun j h => by cases h; omega⟩]
    refine iteF ?_
    -- self.parts = list(weights)
    refine ⟨_, rfl, a, _, rfl, .inl hS, fun p np => ?_⟩
    have npx : p ≠ x := (ne_of_none hx np).symm
    have hx1 : (upd H1 p (.lst (ws.map V.int))) x = some (.ins T.C_Guesser dx []) := same_upd np _ _ hx
    refine ⟨_, rfl, x, T.C_Guesser, dx, [], rfl, hx1, T.cl_Guesser, T.na_Guesser_parts, by decide, ?_⟩
    refine ⟨_, rfl, _, rfl, x, T.C_Guesser, dx, _, rfl, upd_same, T.cl_Guesser, T.na_Guesser_down, (by show 1 < 1000; decide), ?_⟩
    refine q _ (fun b o nb hb => ?_) ⟨hW, hsh, dx, p, ?_, ?_⟩ ⟨dx, p, ?_, np⟩
    · rw [upd_ne nb, upd_ne nb]
      exact same_upd np _ _ hb
    · rw [upd_same]
      rfl
    · rw [upd_ne npx, upd_ne npx, upd_same]
    · rw [upd_same]
      rfl
/-- a guesser that no change of g touches -/
def GuesserBut (C g : Addr) (H : Hp) (a : Addr) (ws : List Int) (sh : Nat) : Prop := ∀ H', But g H H' → GuesserAt C H' a ws sh
theorem GuesserBut.of {C g x : Addr} {H H' : Hp} {ws : List Int} {sh n : Nat} (hG : GenAt H g n) (nx : x ≠ g) (h : GuesserAt C H' x ws sh) (k : ∃ dx p, H' x = some (.ins C dx [("parts", .ref p), ("down", .int sh)]) ∧ H p = none) : GuesserBut C g H' x ws sh := by
  obtain ⟨hW, hs, dx, p, h1, h2⟩ := h
  obtain ⟨dx', p', h3, h4⟩ := k
  rw [h1] at h3
  cases h3
  exact fun H2 b => ⟨hW, hs, dx, p, b _ _ nx h1, b _ _ (hG.ne h4) h2⟩
theorem GuesserBut.but {C g x : Addr} {H H' : Hp} {ws : List Int} {sh : Nat} (h : GuesserBut C g H x ws sh) (b : But g H H') : GuesserBut C g H' x ws sh := fun H2 b2 => h H2 (b.trans b2)
def sp_check_guesser (C : Addr) : Sp := fun vs H Q _ => ∃ (a : Addr) (ws : List Int) (sh : Nat), vs = [.ref a] ∧ GuesserAt C H a ws sh ∧ Q .non H
theorem G_check_guesser (T : Top K mg) : FnOk P w K mg base CX0 1 T.f_check_guesser T.fd_check_guesser ["value"] (sp_check_guesser T.C_Guesser) := by
  refine T.F_check_guesser.ok sc_check_guesser (fun vs H Q E h => by obtain ⟨a, ws, sh, rfl, _⟩ := h; rfl) (fun cdv A outer s H vs Q E hr h => ?_)
  obtain ⟨a, ws, sh, rfl, hG, q⟩ := h
  refine ⟨_, PSs.nox (pss_one (ps_if (pt_not (pt_val (pe_callB (k_isi K rfl) (by rfl) T.n_isinstance (by decide +kernel) (pa_cons (pv 0) (pa_cons (pe_glob (v := .ref T.C_Guesser) rfl T.gc_Guesser rfl) pa_nil)))))
    (pss_one ps_never)
    pss_nil)), ?_⟩
  obtain ⟨_, _, dx, p, ha, _⟩ := hG
  refine ⟨_, rfl, _, _, _, _, true, rfl, .own _, tyx_ins T.ic_Guesser ha, T.ic_Guesser.me, true, rfl, iteF ?_⟩
  exact q
def sp_check_row (K : PySem.W.Frag) : Sp := fun vs H Q _ => ∃ (a : Addr) (ns : List Int) (d : Nat), vs = [.int d, .ref a] ∧ Rd H a (.lst (ns.map V.int)) ∧ Samples d ns ∧ ns.length ≤ 1000 ∧ 1 ≤ d ∧ d ≤ 1000 ∧ ∀ H', Same H H' → Q .non H'
theorem G_check_row (T : Top K mg) : FnOk P w K mg base CX0 5 T.f_check_row T.fd_check_row ["depth", "value"] (sp_check_row K) := by
  refine T.F_check_row.ok sc_check_row (fun vs H Q E h => by obtain ⟨a, ns, d, rfl, _⟩ := h; rfl) (fun cdv A outer s H vs Q E hr h => ?_)
  obtain ⟨a, ns, d, rfl, hA, hs, hl, h0, h1, q⟩ := h
  refine ⟨_, PSs.nox (pss_one (ps_if (pt_not (pt_val (pe_call (G_are_samples T) (hr.mono (by decide)) (by rfl) T.g_are_samples T.F_are_samples.kp T.b_are_samples .nil pass0 (pa_cons (pv 1) (pa_cons (pv 0) pa_nil)))))
    (pss_one ps_never)
    pss_nil)), ?_⟩
  refine ⟨_, rfl, _, rfl, a, ns, d, rfl, hA, hs, hl, h0, h1, fun H1 s1 => ⟨_, rfl, iteF ?_⟩⟩
  exact q _ s1
theorem cut_get {bs : List Int} {i n : Nat} (h : i < n) (hn : n = bs.length) : (bs.map V.int)[n - 1 - i]? = some (.int (bs.reverse.getD i 0)) := by
  subst hn
  rw [List.getElem?_map, List.getElem?_eq_getElem (show bs.length - 1 - i < bs.length by omega)]
  have h2 : i < bs.reverse.length := by rw [List.length_reverse]; exact h
  rw [getD_of h2, List.getElem_reverse]
  rfl
def sp_sum_before (C : Addr) (K : PySem.W.Frag) : Sp := fun vs H Q _ => ∃ (a b : Addr) (ws : List Int) (sh : Nat) (bs : List Int), vs = [.ref a, .ref b] ∧ GuesserAt C H a ws sh ∧ SqL K H b (bs.map V.int) ∧ ws.length ≤ bs.length ∧ ∀ H', Same H H' → Q (.int (dot ws bs.reverse)) H'
theorem G_sum_before (T : Top K mg) : FnOk P w K mg base CX0 1 T.f_sum_before T.fd_sum_before ["guesser", "before"] (sp_sum_before T.C_Guesser K) := by
  refine T.F_sum_before.ok sc_sum_before (fun vs H Q E h => by obtain ⟨a, b, ws, sh, bs, rfl, _⟩ := h; rfl) (fun cdv A outer s H vs Q E hr h => ?_)
  obtain ⟨a, b, ws, sh, bs, rfl, hG, hB, hl, q⟩ := h
  refine ⟨_, PSs.nox (pss_cons (ps_set (i := 2) sc_sum_before.nd rfl (by first | exact Or.inl rfl | exact Or.inr rfl) pe_int)
  (pss_cons (ps_for PassesOwn.never rfl (k_piE K rfl (by rfl) T.n_enumerate (pa_cons (pe_fld (pv 0) rfl) pa_nil)) (k_pgT K rfl (by rfl) (pgs_cons (pg_name (i := 3) sc_sum_before.nd rfl (by first | exact Or.inl rfl | exact Or.inr rfl)) (pgs_cons (pg_name (i := 4) sc_sum_before.nd rfl (by first | exact Or.inl rfl | exact Or.inr rfl)) pgs_nil)))
    (pss_one (ps_set (i := 2) sc_sum_before.nd rfl (by first | exact Or.inl rfl | exact Or.inr rfl) (pe_op op_add (pv 2) (pe_op op_mul (pv 4) (pe_ix (k_ixL K rfl) (pv 1) (pe_op op_sub (pe_op op_sub (pe_callB (k_len K rfl) (by rfl) T.n_len (by decide +kernel) (pa_cons (pv 1) pa_nil)) pe_int) (pv 3)) (fun _ _ => rfl)))))))
  (pss_one (ps_ret (pv 2))))), ?_⟩
  obtain ⟨hW, _, dx, p, ha, hp⟩ := id hG
  have hP : SqL K H p (ws.map V.int) := .inl (.inl hp)
  refine ⟨_, rfl, a, T.C_Guesser, dx, _, _, rfl, ha, T.cl_Guesser, T.na_Guesser_parts, rfl, p, _, rfl, hP, ?_⟩
  refine for_it (walk_enum (K := K) (a := p) (xs := ws.map V.int)) (fun i σ H1 => ∃ v3 v4, σ = [some (.ref a), some (.ref b), some (.int (dot (ws.take i) bs.reverse)), v3, v4] ∧ Same H H1) ⟨none, none, ?_, Same.refl _⟩ (fun i σ H1 _ ⟨_, _, _, s⟩ => s.seq hP) ?_ ?_
  · show _ = [some (V.ref a), some (V.ref b), some (V.int (dot [] bs.reverse)), none, none]
    rfl
  · rintro i x σ H1 H2 hi ⟨v3, v4, rfl, s1⟩ ⟨t, y, z, rfl, nt, rfl, ey, ez⟩
    cases ey
    obtain ⟨n, hn, rfl⟩ := int_at ez
    rw [List.length_map] at hi
    have s2 : Same H1 (upd H1 t (.tup [.int (i : Nat), .int n])) := same_upd nt
    have hB2 := (s1.trans s2).seq hB
    refine ⟨t, _, rfl, .inl (.inl upd_same), rfl, _, _, rfl, _, _, rfl, rfl, ?_⟩
    have hb := hW.2 n (List.mem_of_getElem? hn)
    have en : n = ws.getD i 0 := by rw [List.getD_eq_getElem?_getD, hn]; rfl
    refine ⟨_, rfl, _, rfl, _, rfl, _, rfl, b, _, rfl, .inl hB2, _, _, rfl, rfl, _, rfl, _, _, rfl, rfl, b, _, _, .int (bs.reverse.getD i 0), rfl, rfl, hB2, at_of (j := bs.length - 1 - i) (by rw [List.length_map]; omega) (cut_get (show i < bs.length by omega) rfl), _, _, rfl, rfl, .inl ⟨by omega, by omega⟩, _, _, rfl, rfl, ?_⟩
    refine ⟨some (.int (i : Nat)), some (.int n), ?_, s1.trans s2⟩
    rw [dot_take i ws bs.reverse hi (by rw [List.length_reverse]; omega), ← en]
    rfl
  · rintro σ H1 ⟨v3, v4, rfl, s1⟩
    rw [List.length_map, List.take_length]
    exact ⟨_, rfl, q _ s1⟩
def sp_guess_behind (C : Addr) (K : PySem.W.Frag) : Sp := fun vs H Q _ => ∃ (a b : Addr) (ws : List Int) (sh : Nat) (bs : List Int), vs = [.ref a, .ref b] ∧ GuesserAt C H a ws sh ∧ SqL K H b (bs.map V.int) ∧ ws.length ≤ bs.length ∧ ∀ H', Same H H' → Q (.int (guessF ws sh bs)) H'
theorem G_guess_behind (T : Top K mg) : FnOk P w K mg base CX0 2 T.f_guess_behind T.fd_guess_behind ["guesser", "before"] (sp_guess_behind T.C_Guesser K) := by
  refine T.F_guess_behind.ok sc_guess_behind (fun vs H Q E h => by obtain ⟨a, b, ws, sh, bs, rfl, _⟩ := h; rfl) (fun cdv A outer s H vs Q E hr h => ?_)
  obtain ⟨a, b, ws, sh, bs, rfl, hG, hB, hl, q⟩ := h
  refine ⟨_, PSs.nox (pss_one (ps_ret (pe_op op_shr (pe_call (G_sum_before T) (hr.mono (by decide)) (by rfl) T.g_sum_before T.F_sum_before.kp T.b_sum_before .nil pass0 (pa_cons (pv 0) (pa_cons (pv 1) pa_nil))) (pe_fld (pv 0) rfl)))), ?_⟩
  refine ⟨_, rfl, _, rfl, a, b, ws, sh, bs, rfl, hG, hB, hl, fun H1 s1 => ?_⟩
  obtain ⟨hW, _, dx, p, ha, hp⟩ := hG.same s1
  refine ⟨_, rfl, a, T.C_Guesser, dx, _, _, rfl, ha, T.cl_Guesser, T.na_Guesser_down, rfl, _, _, rfl, rfl, by omega, ?_⟩
  dsimp only
  rw [Int.toNat_natCast]
  exact q _ s1
theorem cut_mid (xs : List V) (i j : Nat) (h1 : i ≤ j) (h2 : j ≤ xs.length) : cutV xs (some (i : Int)) (some (j : Int)) = (xs.take j).drop i := by
  unfold cutV
  rw [HT.sIx_nat, HT.sIx_nat, Nat.min_eq_left h2, Nat.min_eq_left (Nat.le_trans h1 h2), List.drop_take]
def sp_told_rests (C : Addr) (K : PySem.W.Frag) : Sp := fun vs H Q _ => ∃ (a b : Addr) (ws : List Int) (sh : Nat) (row : List Int), vs = [.ref a, .ref b] ∧ GuesserAt C H a ws sh ∧ SqL K H b (row.map V.int) ∧ row.length ≤ 1000 ∧
  ∀ H' p, Same H H' → H p = none → H' p = some (.lst ((toldR ws sh row).map V.int)) → Q (.ref p) H'
theorem G_told_rests (T : Top K mg) : FnOk P w K mg base CX0 3 T.f_told_rests T.fd_told_rests ["guesser", "row"] (sp_told_rests T.C_Guesser K) := by
  refine T.F_told_rests.ok sc_told_rests (fun vs H Q E h => by obtain ⟨a, b, ws, sh, row, rfl, _⟩ := h; rfl) (fun cdv A outer s H vs Q E hr h => ?_)
  obtain ⟨a, b, ws, sh, row, rfl, hG, hB, hl, q⟩ := h
  refine ⟨_, PSs.nox (pss_cons (ps_set (i := 2) sc_told_rests.nd rfl (by first | exact Or.inl rfl | exact Or.inr rfl) (pe_callB (k_len K rfl) (by rfl) T.n_len (by decide +kernel) (pa_cons (pe_fld (pv 0) rfl) pa_nil)))
  (pss_cons (ps_set (i := 3) sc_told_rests.nd rfl (by first | exact Or.inl rfl | exact Or.inr rfl) (pe_callTy (k_listOf K rfl) (by rfl) T.n_list (by decide +kernel) (pa_cons (pe_slice (k_slL K rfl) (pv 1) po_none (po_some (pv 2))) pa_nil)))
  (pss_cons (ps_for PassesOwn.never rfl (pi_range2 (by rfl) T.n_range (pa_cons (pv 2) (pa_cons (pe_callB (k_len K rfl) (by rfl) T.n_len (by decide +kernel) (pa_cons (pv 1) pa_nil)) pa_nil))) (pg_name (i := 4) sc_told_rests.nd rfl (by first | exact Or.inl rfl | exact Or.inr rfl))
    (pss_one (ps_expr (pe_bm PySem.F.plainAttrs_list PySem.F.slot_list_append PySem.F.type_list_append mt_append (pv 3) (pa_cons (pe_op op_sub (pe_ix (k_ixL K rfl) (pv 1) (pv 4) (fun _ _ => rfl)) (pe_call (G_guess_behind T) (hr.mono (by decide)) (by rfl) T.g_guess_behind T.F_guess_behind.kp T.b_guess_behind .nil pass0 (pa_cons (pv 0) (pa_cons (pe_slice (k_slL K rfl) (pv 1) (po_some (pe_op op_sub (pv 4) (pv 2))) (po_some (pv 4))) pa_nil)))) pa_nil)))))
  (pss_one (ps_ret (pv 3)))))), ?_⟩
  obtain ⟨hW, _, dx, p, ha, hp⟩ := id hG
  have hP : SqL K H p (ws.map V.int) := .inl (.inl hp)
  refine ⟨_, rfl, a, T.C_Guesser, dx, _, _, rfl, ha, T.cl_Guesser, T.na_Guesser_parts, rfl, p, _, rfl, .inl hP, ?_⟩
  rw [List.length_map]
  refine ⟨_, rfl, _, rfl, _, rfl, b, _, rfl, hB, fun c nc => ?_⟩
  rw [cut_take, ← List.map_take]
  obtain ⟨H1, e1, s1, h1⟩ := fresh (.lst ((row.take ws.length).map V.int)) nc
  rw [e1]
  refine ⟨c, _, rfl, .inl (.inl (.inl h1)), fun f nf => ?_⟩
  obtain ⟨H2, e2, s2, h2⟩ := fresh (.lst ((row.take ws.length).map V.int)) nf
  rw [e2]
  have s12 := s1.trans s2
  have hw8 := hW.1
  refine ⟨_, rfl, _, rfl, b, _, rfl, .inl (s12.seq hB), _, _, rfl, ⟨by omega, by omega, by rw [List.length_map]; omega, by rw [List.length_map]; omega⟩, ?_⟩
  rw [List.length_map]
  have nHf : H f = none := s1.free nf
  refine for_range (lo := (ws.length : Int)) (n := ((row.length : Int) - (ws.length : Int)).toNat) (fun i σ H3 => ∃ v4, σ = [some (.ref a), some (.ref b), some (.int ws.length), some (.ref f), v4] ∧ Same H H3 ∧ H3 f = some (.lst (((toldR ws sh row).take (ws.length + i)).map V.int))) ⟨none, rfl, s12, ?_⟩ ?_ ?_
  · rw [h2, Nat.add_zero, toldR_firsts ws sh row ws.length (Nat.le_refl _)]
  · rintro i σ H3 hi ⟨v4, rfl, s3, h3⟩
    have hpl : ws.length + i < row.length := by omega
    have hB3 := s3.seq hB
    have rowAt : atI (row.map V.int) ((ws.length : Int) + (i : Int)) = some (.int (row.getD (ws.length + i) 0)) := by
      refine at_of (j := ws.length + i) (by omega) ?_
      rw [List.getElem?_map, List.getElem?_eq_getElem hpl, getD_of hpl]
      rfl
    refine ⟨_, rfl, .inl ⟨rfl, _, .inl (.inl h3)⟩, _, rfl, _, rfl, b, _, _, _, rfl, rfl, hB3, rowAt, ?_⟩
    refine ⟨_, rfl, _, rfl, _, rfl, _, rfl, _, _, rfl, rfl, _, rfl, _, rfl, _, rfl, b, _, rfl, hB3, fun c2 nc2 => ?_⟩
    have ec : cutV (row.map V.int) (some ((ws.length : Int) + (i : Int) - (ws.length : Int))) (some ((ws.length : Int) + (i : Int))) = (((row.take (ws.length + i)).drop i)).map V.int := by
      rw [show (ws.length : Int) + (i : Int) - (ws.length : Int) = (i : Int) by omega, show (ws.length : Int) + (i : Int) = ((ws.length + i : Nat) : Int) by omega, cut_mid _ _ _ (by omega) (by rw [List.length_map]; omega), List.map_drop, List.map_take]
    rw [ec]
    obtain ⟨H4, e4, s4, h4⟩ := fresh (.lst (((row.take (ws.length + i)).drop i).map V.int)) nc2
    rw [e4]
    refine ⟨a, c2, ws, sh, _, rfl, (hG.same s3).same s4, .inl (.inl h4), by rw [List.length_drop, List.length_take]; omega, fun H5 s5 => ?_⟩
    rw [guess_end ws sh (row.take (ws.length + i)) i (by rw [List.length_take]; omega)]
    have h35 := s5 _ _ (s4 _ _ h3)
    refine ⟨_, _, rfl, rfl, f, _, _, rfl, rfl, h35, ?_, ?_⟩
    · rw [List.length_map, List.length_take]
      exact Nat.lt_of_le_of_lt (Nat.min_le_right _ _) (by rw [toldR_len]; exact small1000 hl)
    · refine ⟨_, rfl, ?_, ?_⟩
      · intro z o hz
        rw [upd_ne (ne_of_none hz nHf)]
        exact s5 _ _ (s4 _ _ (s3 _ _ hz))
      · rw [upd_same, ← Nat.add_assoc, toldR_next ws sh row (ws.length + i) (by omega) hpl, List.map_append]
        rfl
  · rintro σ H3 ⟨v4, rfl, s3, h3⟩
    refine ⟨_, rfl, q _ f s3 nHf ?_⟩
    rw [h3, List.take_of_length_le]
    rw [toldR_len]
    omega
def sp_rests (C : Addr) (K : PySem.W.Frag) : Sp := fun vs H Q _ => ∃ (a b : Addr) (ws : List Int) (sh : Nat) (row : List Int) (d : Nat), vs = [.ref a, .int d, .ref b] ∧ GuesserAt C H a ws sh ∧ Rd H b (.lst (row.map V.int)) ∧ row.length ≤ 1000 ∧ Samples d row ∧ 1 ≤ d ∧ d ≤ 32 ∧
  ∀ H' p, Same H H' → H p = none → H' p = some (.lst ((restsF ws sh d row).map V.int)) → Q (.ref p) H'
theorem G_rests (T : Top K mg) : FnOk P w K mg base CX0 6 T.f_rests T.fd_rests ["guesser", "depth", "row"] (sp_rests T.C_Guesser K) := by
  refine T.F_rests.ok sc_rests (fun vs H Q E h => by obtain ⟨a, b, ws, sh, row, d, rfl, _⟩ := h; rfl) (fun cdv A outer s H vs Q E hr h => ?_)
  obtain ⟨a, b, ws, sh, row, d, rfl, hG, hB, hl, hs, h0, h1, q⟩ := h
  refine ⟨_, PSs.nox (pss_cons (ps_expr (pe_call (G_check_guesser T) (hr.mono (by decide)) (by rfl) T.g_check_guesser T.F_check_guesser.kp T.b_check_guesser .nil pass0 (pa_cons (pv 0) pa_nil)))
  (pss_cons (ps_expr (pe_call (G_check_depth T) (hr.mono (by decide)) (by rfl) T.g_check_depth T.F_check_depth.kp T.b_check_depth .nil pass0 (pa_cons (pv 1) (pa_cons (pe_glob (v := .int 32) rfl T.m_MOST_DEPTH_guessers ⟨_, rfl⟩) pa_nil))))
  (pss_cons (ps_expr (pe_call (G_check_row T) (hr.mono (by decide)) (by rfl) T.g_check_row T.F_check_row.kp T.b_check_row .nil pass0 (pa_cons (pv 1) (pa_cons (pv 2) pa_nil))))
  (pss_one (ps_ret (pe_lc (own := [("item", 3)]) (g := gName 3) (tt := tYes) (by rfl) sc_rests.nd (k_piL K rfl (pe_call (G_told_rests T) (hr.mono (by decide)) (by rfl) T.g_told_rests T.F_told_rests.kp T.b_told_rests .nil pass0 (pa_cons (pv 0) (pa_cons (pv 2) pa_nil)))) (blkOk_by (own := [("item", 3)]) (N := N_rests) (sc := defScope s_rests) (by decide +kernel)) (fun _ _ _ _ _ => (pg_name (i := 3) sc_rests.nd rfl (by first | exact Or.inl rfl | exact Or.inr rfl))) (fun _ _ _ _ _ => pts_nil) (fun _ _ _ _ _ => (pe_call (G_wrapped T) (hr.mono (by decide)) (by rfl) T.g_wrapped T.F_wrapped.kp T.b_wrapped .nil pass0 (pa_cons (pv 3) (pa_cons (pv 1) pa_nil)))))))))), ?_⟩
  refine ⟨_, rfl, a, ws, sh, rfl, hG, ?_⟩
  refine ⟨_, rfl, (d : Int), 32, rfl, by omega, by omega, ?_⟩
  refine ⟨_, rfl, _, rfl, b, row, d, rfl, hB, hs, hl, h0, by omega, fun H1 s1 => ?_⟩
  refine ⟨_, rfl, _, rfl, a, b, ws, sh, row, rfl, hG.same s1, s1.seq (.inl hB), hl, fun H2 p s2 np hp => ?_⟩
  have hP : SqL K H2 p ((toldR ws sh row).map V.int) := .inl (.inl hp)
  refine ⟨p, rfl, ⟨_, hP⟩, fun D nD => ?_⟩
  refine lc_mapL (K := K) (xs := (toldR ws sh row).map V.int) ((restsF ws sh d row).map V.int) nD hP (by unfold restsF; simp) (by rw [List.length_map, toldR_len]; exact small1000 hl) (fun x => rfl) ?_ ?_
  · intro i x y H' hx hy s Qt qt
    obtain ⟨n, hn, rfl⟩ := int_at hx
    unfold restsF at hy
    rw [List.getElem?_map, List.getElem?_map, hn] at hy
    cases hy
    exact ⟨_, rfl, _, rfl, n, d, rfl, h0, by omega, qt _ (Same.refl _)⟩
  · intro H3 s3 hD
    exact q _ D ((s1.trans s2).trans s3) (s1.free (s2.free nD)) hD
end
end My

namespace My
/-! ### rests lead back to rows -/
theorem pw (d : Nat) : (0 : Int) < 2 ^ (d - 1) := Int.pow_pos (by decide)
theorem wrap_id {d : Nat} {n : Int} (h1 : -(2 ^ (d - 1)) ≤ n) (h2 : n ≤ 2 ^ (d - 1) - 1) : wrapI n d = n := by
  have hp := pw d
  unfold wrapI
  rw [Int.emod_eq_of_lt (by omega) (by omega)]
  omega
theorem wrap_lo (n : Int) (d : Nat) : -(2 ^ (d - 1)) ≤ wrapI n d := by
  have hp := pw d
  have := Int.emod_nonneg (n + 2 ^ (d - 1)) (show (2 * 2 ^ (d - 1) : Int) ≠ 0 by omega)
  unfold wrapI
  omega
theorem wrap_hi (n : Int) (d : Nat) : wrapI n d ≤ 2 ^ (d - 1) - 1 := by
  have hp := pw d
  have := Int.emod_lt_of_pos (n + 2 ^ (d - 1)) (show (0 : Int) < 2 * 2 ^ (d - 1) by omega)
  unfold wrapI
  omega
/-- a multiple of the depth's power is not seen -/
theorem wrap_add (n k : Int) (d : Nat) : wrapI (n + k * (2 * 2 ^ (d - 1))) d = wrapI n d := by
  unfold wrapI
  rw [show n + k * (2 * 2 ^ (d - 1)) + 2 ^ (d - 1) = (n + 2 ^ (d - 1)) + k * (2 * 2 ^ (d - 1)) by omega, Int.add_mul_emod_self_right]
theorem wrap_eq (n : Int) (d : Nat) : ∃ k, wrapI n d = n + k * (2 * 2 ^ (d - 1)) := by
  refine ⟨-((n + 2 ^ (d - 1)) / (2 * 2 ^ (d - 1))), ?_⟩
  unfold wrapI
  have e := Int.emod_def (n + 2 ^ (d - 1)) (2 * 2 ^ (d - 1))
  rw [e, Int.neg_mul, Int.mul_comm]
  omega
theorem wrap_sub_add {d : Nat} {n g : Int} (h1 : -(2 ^ (d - 1)) ≤ n) (h2 : n ≤ 2 ^ (d - 1) - 1) : wrapI (wrapI (n - g) d + g) d = n := by
  obtain ⟨k, e⟩ := wrap_eq (n - g) d
  rw [e, show n - g + k * (2 * 2 ^ (d - 1)) + g = n + k * (2 * 2 ^ (d - 1)) by omega, wrap_add, wrap_id h1 h2]
theorem wrap_add_sub {d : Nat} {n g : Int} (h1 : -(2 ^ (d - 1)) ≤ n) (h2 : n ≤ 2 ^ (d - 1) - 1) : wrapI (wrapI (n + g) d - g) d = n := by
  obtain ⟨k, e⟩ := wrap_eq (n + g) d
  rw [e, show n + g + k * (2 * 2 ^ (d - 1)) - g = n + k * (2 * 2 ^ (d - 1)) by omega, wrap_add, wrap_id h1 h2]
/-- what is guessed behind a beginning: nothing within the firsts -/
def told0 (ws : List Int) (sh : Nat) (pre : List Int) : Int := if pre.length < ws.length then 0 else guessF ws sh pre
def restsGo (ws : List Int) (sh d : Nat) : List Int → List Int → List Int
  | _, [] => []
  | pre, x :: xs => wrapI (x - told0 ws sh pre) d :: restsGo ws sh d (pre ++ [x]) xs
def backGo (ws : List Int) (sh d : Nat) : List Int → List Int → List Int
  | _, [] => []
  | pre, r :: rs => wrapI (r + told0 ws sh pre) d :: backGo ws sh d (pre ++ [wrapI (r + told0 ws sh pre) d]) rs
theorem restsF_go (ws : List Int) (sh d : Nat) (row : List Int) : restsF ws sh d row = restsGo ws sh d [] row := by
  have key : ∀ (xs pre : List Int), ((List.range xs.length).map fun i => wrapI (restAt ws sh (pre ++ xs) (pre.length + i)) d) = restsGo ws sh d pre xs := by
    intro xs
    induction xs with
    | nil => intro pre; rfl
    | cons x xs ih =>
      intro pre
      rw [List.length_cons, List.range_succ_eq_map, List.map_cons, List.map_map]
      show _ = wrapI (x - told0 ws sh pre) d :: restsGo ws sh d (pre ++ [x]) xs
      rw [← ih (pre ++ [x])]
      congr 1
      · rw [Nat.add_zero]
        unfold restAt told0
        rw [List.getD_eq_getElem?_getD, List.getElem?_append_right (Nat.le_refl _), Nat.sub_self, List.take_left']
        · rfl
        · rfl
      · refine List.map_congr_left fun i _ => ?_
        show wrapI (restAt ws sh (pre ++ x :: xs) (pre.length + (i + 1))) d = wrapI (restAt ws sh (pre ++ [x] ++ xs) ((pre ++ [x]).length + i)) d
        rw [List.append_assoc, List.length_append, List.length_singleton]
        show _ = wrapI (restAt ws sh (pre ++ x :: xs) (pre.length + 1 + i)) d
        rw [show pre.length + 1 + i = pre.length + (i + 1) by omega]
  have := key row []
  unfold restsF toldR
  rw [List.map_map, ← this]
  refine List.map_congr_left fun i _ => ?_
  show wrapI (restAt ws sh row i) d = wrapI (restAt ws sh ([] ++ row) (0 + i)) d
  rw [List.nil_append, Nat.zero_add]
theorem rests_len (ws : List Int) (sh d : Nat) : ∀ (row pre : List Int), (restsGo ws sh d pre row).length = row.length
  | [], _ => rfl
  | x :: xs, pre => by
    show (restsGo ws sh d (pre ++ [x]) xs).length + 1 = xs.length + 1
    rw [rests_len ws sh d xs]
theorem back_len (ws : List Int) (sh d : Nat) : ∀ (row pre : List Int), (backGo ws sh d pre row).length = row.length
  | [], _ => rfl
  | x :: xs, pre => by
    show (backGo ws sh d _ xs).length + 1 = xs.length + 1
    rw [back_len ws sh d xs]
theorem rests_samples (ws : List Int) (sh d : Nat) : ∀ (row pre : List Int), Samples d (restsGo ws sh d pre row)
  | [], _ => fun _ h => nomatch h
  | x :: xs, pre => fun n hn => by
    rcases List.mem_cons.mp hn with rfl | hn
    · exact ⟨wrap_lo _ _, wrap_hi _ _⟩
    · exact rests_samples ws sh d xs _ n hn
theorem back_samples (ws : List Int) (sh d : Nat) : ∀ (row pre : List Int), Samples d (backGo ws sh d pre row)
  | [], _ => fun _ h => nomatch h
  | x :: xs, pre => fun n hn => by
    rcases List.mem_cons.mp hn with rfl | hn
    · exact ⟨wrap_lo _ _, wrap_hi _ _⟩
    · exact back_samples ws sh d xs _ n hn
theorem Samples.cons {d : Nat} {x : Int} {xs : List Int} (h : Samples d (x :: xs)) : (-(2 ^ (d - 1)) ≤ x ∧ x ≤ 2 ^ (d - 1) - 1) ∧ Samples d xs := ⟨h x List.mem_cons_self, fun n hn => h n (List.mem_cons_of_mem _ hn)⟩
theorem back_rests (ws : List Int) (sh d : Nat) : ∀ (row pre : List Int), Samples d row → backGo ws sh d pre (restsGo ws sh d pre row) = row
  | [], _, _ => rfl
  | x :: xs, pre, h => by
    obtain ⟨h1, h2⟩ := h.cons
    show wrapI (wrapI (x - told0 ws sh pre) d + told0 ws sh pre) d :: backGo ws sh d (pre ++ [wrapI (wrapI (x - told0 ws sh pre) d + told0 ws sh pre) d]) (restsGo ws sh d (pre ++ [x]) xs) = x :: xs
    rw [wrap_sub_add h1.1 h1.2, back_rests ws sh d xs _ h2]
theorem rests_back (ws : List Int) (sh d : Nat) : ∀ (row pre : List Int), Samples d row → restsGo ws sh d pre (backGo ws sh d pre row) = row
  | [], _, _ => rfl
  | x :: xs, pre, h => by
    obtain ⟨h1, h2⟩ := h.cons
    show wrapI (wrapI (x + told0 ws sh pre) d - told0 ws sh pre) d :: restsGo ws sh d (pre ++ [wrapI (x + told0 ws sh pre) d]) (backGo ws sh d (pre ++ [wrapI (x + told0 ws sh pre) d]) xs) = x :: xs
    rw [wrap_add_sub h1.1 h1.2, rests_back ws sh d xs _ h2]
/-! ### all rows of a depth -/
def smp (d : Nat) : List Int := (List.range (2 * 2 ^ (d - 1))).map fun (i : Nat) => -(2 ^ (d - 1)) + (i : Int)
def allRows (d : Nat) : Nat → List (List Int)
  | 0 => [[]]
  | m + 1 => (allRows d m).flatMap fun r => (smp d).map fun s => r ++ [s]
theorem mem_smp {d : Nat} {x : Int} : x ∈ smp d ↔ -(2 ^ (d - 1)) ≤ x ∧ x ≤ 2 ^ (d - 1) - 1 := by
  have hp := pw d
  have e : ((2 * 2 ^ (d - 1) : Nat) : Int) = 2 * 2 ^ (d - 1) := by rw [Int.natCast_mul, Int.natCast_pow]; rfl
  unfold smp
  constructor
  · intro h
    obtain ⟨i, hi, rfl⟩ := List.mem_map.mp h
    have hi := List.mem_range.mp hi
    have : (i : Int) < ((2 * 2 ^ (d - 1) : Nat) : Int) := Int.ofNat_lt.mpr hi
    omega
  · rintro ⟨h1, h2⟩
    refine List.mem_map.mpr ⟨(x + 2 ^ (d - 1)).toNat, List.mem_range.mpr ?_, by omega⟩
    have : ((x + 2 ^ (d - 1)).toNat : Int) < ((2 * 2 ^ (d - 1) : Nat) : Int) := by omega
    exact Int.ofNat_lt.mp this
theorem mem_rows {d : Nat} : ∀ {m : Nat} {r : List Int}, r ∈ allRows d m ↔ r.length = m ∧ Samples d r
  | 0, r => by
    show r ∈ [[]] ↔ _
    constructor
    · intro h
      rw [List.mem_singleton.mp h]
      exact ⟨rfl, fun _ h => nomatch h⟩
    · rintro ⟨h, _⟩
      rw [List.length_eq_zero_iff.mp h]
      exact List.mem_singleton.mpr rfl
  | m + 1, r => by
    show r ∈ (allRows d m).flatMap _ ↔ _
    constructor
    · intro h
      obtain ⟨q, hq, hr⟩ := List.mem_flatMap.mp h
      obtain ⟨s, hs, rfl⟩ := List.mem_map.mp hr
      obtain ⟨h1, h2⟩ := mem_rows.mp hq
      refine ⟨by rw [List.length_append, h1]; rfl, fun n hn => ?_⟩
      rcases List.mem_append.mp hn with hn | hn
      · exact h2 n hn
      · rw [List.mem_singleton.mp hn]
        exact mem_smp.mp hs
    · rintro ⟨h1, h2⟩
      have hne : r ≠ [] := fun e => by rw [e] at h1; cases h1
      refine List.mem_flatMap.mpr ⟨r.dropLast, mem_rows.mpr ⟨by rw [List.length_dropLast, h1]; rfl, fun n hn => h2 n (List.dropLast_subset r hn)⟩, List.mem_map.mpr ⟨r.getLast hne, mem_smp.mpr (h2 _ (List.getLast_mem hne)), List.dropLast_concat_getLast hne⟩⟩
theorem smp_nodup (d : Nat) : (smp d).Nodup := by
  unfold smp
  refine List.Pairwise.map _ (fun a b h => ?_) List.nodup_range
  intro e
  exact h (by omega)
theorem rows_nodup (d : Nat) : ∀ m, (allRows d m).Nodup
  | 0 => by simp [allRows]
  | m + 1 => by
    show ((allRows d m).flatMap fun r => (smp d).map fun s => r ++ [s]).Nodup
    have h := rows_nodup d m
    unfold List.Nodup at h ⊢
    rw [List.pairwise_flatMap]
    refine ⟨fun r _ => ?_, ?_⟩
    · refine List.Pairwise.map _ (fun a b h => ?_) (smp_nodup d)
      intro e
      have := List.append_cancel_left e
      exact h (by injection this)
    · refine List.Pairwise.imp (fun {a b} h => ?_) h
      intro x hx y hy e
      obtain ⟨s, _, rfl⟩ := List.mem_map.mp hx
      obtain ⟨t, _, rfl⟩ := List.mem_map.mp hy
      have := congrArg List.dropLast e
      rw [List.dropLast_concat, List.dropLast_concat] at this
      exact h this
/-- the rests of all rows are all rows -/
theorem rests_perm (ws : List Int) (sh d m : Nat) : ((allRows d m).map (restsF ws sh d)).Perm (allRows d m) := by
  have inj : ∀ a ∈ allRows d m, ∀ b ∈ allRows d m, restsF ws sh d a = restsF ws sh d b → a = b := fun a ha b hb e => by
    rw [restsF_go, restsF_go] at e
    rw [← back_rests ws sh d a [] (mem_rows.mp ha).2, e, back_rests ws sh d b [] (mem_rows.mp hb).2]
  have nd : ((allRows d m).map (restsF ws sh d)).Nodup := by
    have h := rows_nodup d m
    unfold List.Nodup at h ⊢
    rw [List.pairwise_map]
    refine List.Pairwise.imp_of_mem (fun {a b} ha hb hne e => ?_) h
    exact hne (inj a ha b hb e)
  refine (List.perm_ext_iff_of_nodup nd (rows_nodup d m)).mpr fun x => ⟨fun h => ?_, fun h => ?_⟩
  · obtain ⟨r, hr, rfl⟩ := List.mem_map.mp h
    obtain ⟨h1, h2⟩ := mem_rows.mp hr
    rw [restsF_go]
    exact mem_rows.mpr ⟨by rw [rests_len, h1], rests_samples ws sh d r []⟩
  · obtain ⟨h1, h2⟩ := mem_rows.mp h
    refine List.mem_map.mpr ⟨backGo ws sh d [] x, mem_rows.mpr ⟨by rw [back_len, h1], back_samples ws sh d x []⟩, ?_⟩
    rw [restsF_go, rests_back ws sh d x [] h2]
end My

namespace My
open PySem PySem.Spec PyProof.Rows L2 Pre
theorem pow_pred {d : Nat} (h : 1 ≤ d) : (1 : Int) * 2 ^ ((d : Int) - 1).toNat = 2 ^ (d - 1) := by rw [pred_toNat h, Int.one_mul]
/-- a list of lists of whole numbers -/
def RowsAt (H : Hp) (p : Addr) (rows : List (List Int)) : Prop := ∃ as : List Addr, H p = some (.lst (as.map V.ref)) ∧ as.length = rows.length ∧ ∀ (i : Nat) (a : Addr) (r : List Int), as[i]? = some a → rows[i]? = some r → H a = some (.lst (r.map V.int))
theorem RowsAt.same {H H' : Hp} {p : Addr} {rows : List (List Int)} (h : RowsAt H p rows) (s : Same H H') : RowsAt H' p rows := by
  obtain ⟨as, h1, h2, h3⟩ := h
  exact ⟨as, s _ _ h1, h2, fun i a r ha hr => s _ _ (h3 i a r ha hr)⟩
theorem flat_take {α β : Type} (f : α → List β) {l : List α} {i : Nat} {x : α} (h : l[i]? = some x) : (l.take (i + 1)).flatMap f = (l.take i).flatMap f ++ f x := by
  rw [List.take_add_one, h, List.flatMap_append]
  simp
theorem rows_len (d : Nat) (h : d ≤ 3) : ∀ m, m ≤ 3 → (allRows d m).length ≤ 8 ^ m
  | 0, _ => by simp [allRows]
  | m + 1, hm => by
    have ih := rows_len d h m (by omega)
    have hs : (smp d).length ≤ 8 := by
      unfold smp
      rw [List.length_map, List.length_range]
      have : 2 ^ (d - 1) ≤ 2 ^ 2 := Nat.pow_le_pow_right (by decide) (by omega)
      omega
    have e : ∀ l : List (List Int), (l.flatMap fun r => (smp d).map fun s => r ++ [s]).length = l.length * (smp d).length := fun l => by
      induction l with
      | nil => simp
      | cons x r ih => rw [List.flatMap_cons, List.length_append, List.length_map, ih, List.length_cons, Nat.succ_mul]; omega
    show ((allRows d m).flatMap _).length ≤ 8 ^ (m + 1)
    rw [e, Nat.pow_succ]
    exact Nat.mul_le_mul ih hs
section
variable {P : Program} {w : World} {K : PySem.W.Frag} {mg : Str → Option Value} {base : Heap}
def sp_law_weights : Sp := fun vs H Q _ => ∃ (g : Addr) (m : Nat) (n : Nat), vs = [.ref g, .int m] ∧ GenAt H g n ∧ n ≤ 10 ^ 9 ∧ m ≤ 8 ∧
  ∀ H' p ws, But g H H' → H p = none → H' p = some (.lst (ws.map V.int)) → GenAt H' g (n + 10000) → Weights ws → ws.length = m → Q (.ref p) H'
theorem G_law_weights (T : Top K mg) : FnOk P w K mg base CX0 3 T.f_law_weights T.fd_law_weights ["_law_generator_here", "_law_many"] sp_law_weights := by
  refine T.F_law_weights.ok sc_law_weights (fun vs H Q E h => by obtain ⟨g, m, n, rfl, _⟩ := h; rfl) (fun cdv A outer s H vs Q E hr h => ?_)
  obtain ⟨g, m, n, rfl, hG, hn, hm, q⟩ := h
  refine ⟨_, PSs.nox (pss_cons (ps_set (i := 2) sc_law_weights.nd rfl (by first | exact Or.inl rfl | exact Or.inr rfl) (pe_lst pa_nil))
  (pss_cons (ps_for PassesOwn.never rfl (pi_range1 (by rfl) T.n_range (pa_cons (pv 1) pa_nil)) (pg_name (i := 3) sc_law_weights.nd rfl (by first | exact Or.inl rfl | exact Or.inr rfl))
    (pss_cons (ps_par (by rfl) sc_law_weights.nd (i := 4) (j := 5) rfl rfl (by decide) rfl rfl (pa_cons (pe_op op_sub (pe_call (G_law_random T) (hr.mono (by decide)) (by rfl) T.g_law_random T.F_law_random.kp T.b_law_random .nil pass0 (pa_cons (pv 0) (pa_cons (pe_op op_add (pe_op op_powW pe_int pe_int) pe_int) pa_nil))) (pe_op op_powW pe_int pe_int)) (pa_cons (pe_call (G_law_random T) (hr.mono (by decide)) (by rfl) T.g_law_random T.F_law_random.kp T.b_law_random .nil pass0 (pa_cons (pv 0) (pa_cons pe_int pa_nil))) pa_nil)) (by rfl))
  (pss_one (ps_expr (pe_bm PySem.F.plainAttrs_list PySem.F.slot_list_append PySem.F.type_list_append mt_append (pv 2) (pa_cons (pe_ix (k_ixL K rfl) (pe_lst (pa_cons (pe_op op_sub (pe_call (G_law_random T) (hr.mono (by decide)) (by rfl) T.g_law_random T.F_law_random.kp T.b_law_random .nil pass0 (pa_cons (pv 0) (pa_cons pe_int pa_nil))) pe_int) (pa_cons (pe_op op_sub (pe_call (G_law_random T) (hr.mono (by decide)) (by rfl) T.g_law_random T.F_law_random.kp T.b_law_random .nil pass0 (pa_cons (pv 0) (pa_cons pe_int pa_nil))) pe_int) (pa_cons pe_int (pa_cons (pv 4) pa_nil))))) (pv 5) (fun _ _ => rfl)) pa_nil))))))
  (pss_one (ps_ret (pv 2))))), ?_⟩
  refine ⟨Nat.zero_le _, fun p np => ?_⟩
  have npg : p ≠ g := hG.ne np
  obtain ⟨H1, e1, s1, h1⟩ := fresh (.lst []) np
  rw [e1]
  refine ⟨_, rfl, _, rfl, by omega, by omega, ?_⟩
  rw [Int.toNat_natCast]
  refine for_range (lo := 0) (n := m) (fun i σ H2 => ∃ (v3 v4 v5 : Option V) (ws : List Int), σ = [some (.ref g), some (.int m), some (.ref p), v3, v4, v5] ∧ But g H H2 ∧ H2 p = some (.lst (ws.map V.int)) ∧ (∀ x ∈ ws, -32768 ≤ x ∧ x ≤ 32768) ∧ ws.length = i ∧ GenAt H2 g (n + 400 * i))
    ⟨none, none, none, [], rfl, But.of s1, h1, (fun _ h => nomatch h), rfl, hG.same s1⟩ ?_ ?_
  · rintro i σ H2 hi ⟨v3, v4, v5, ws, rfl, b2, hp2, hW, hl, g2⟩
    refine ⟨_, rfl, _, _, rfl, rfl, ⟨by decide, by decide +kernel⟩, _, _, rfl, rfl, g, _, _, rfl, g2, by omega, by decide, small_2900 (by decide), fun r1 H3 r10 r11 g3 b3 => ?_⟩
    refine ⟨_, _, rfl, rfl, ⟨by decide, by decide +kernel⟩, _, _, rfl, rfl, _, rfl, g, _, _, rfl, g3, by omega, by decide, small_2900 (by decide), fun kd H4 k0 k1 g4 b4 => ?_⟩
    refine ⟨_, _, rfl, ?_⟩
    have hp4 : H4 p = some (.lst (ws.map V.int)) := b4 _ _ npg (b3 _ _ npg hp2)
    refine ⟨_, rfl, .inl ⟨rfl, _, .inl (.inl hp4)⟩, ?_⟩
    refine ⟨_, rfl, g, _, _, rfl, g4, by omega, by decide, small_2900 (by decide), fun r2 H5 r20 r21 g5 b5 => ?_⟩
    refine ⟨_, _, rfl, rfl, _, rfl, g, _, _, rfl, g5, by omega, by decide, small_2900 (by decide), fun r3 H6 r30 r31 g6 b6 => ?_⟩
    refine ⟨_, _, rfl, rfl, _, rfl, (show 4 ≤ sizeLine by decide), fun c nc => ?_⟩
    have hp6 : H6 p = some (.lst (ws.map V.int)) := b6 _ _ npg (b5 _ _ npg hp4)
    have e16 : (2 : Int) ^ (16 : Int).toNat = 65536 := by decide
    have e15 : (2 : Int) ^ (15 : Int).toNat = 32768 := by decide
    rw [e16] at r11
    obtain ⟨H7, e7, s7, h7⟩ := fresh (.lst [V.int (r2 - 4), V.int (r3 - 2), V.int 0, V.int (r1 - 2 ^ (15 : Int).toNat)]) nc
    dsimp only
    rw [e7]
    have hx : ∃ y : Int, atI [V.int (r2 - 4), V.int (r3 - 2), V.int 0, V.int (r1 - 2 ^ (15 : Int).toNat)] kd = some (.int y) ∧ -32768 ≤ y ∧ y ≤ 32768 := by
      rw [e15]
      have hk : kd = 0 ∨ kd = 1 ∨ kd = 2 ∨ kd = 3 := by omega
      rcases hk with rfl | rfl | rfl | rfl
      · exact ⟨_, rfl, by omega, by omega⟩
      · exact ⟨_, rfl, by omega, by omega⟩
      · exact ⟨_, rfl, by omega, by omega⟩
      · exact ⟨_, rfl, by omega, by omega⟩
    obtain ⟨y, ay, y0, y1⟩ := hx
    refine ⟨_, rfl, c, _, _, _, rfl, rfl, .inl (.inl h7), ay, p, _, _, rfl, rfl, s7 _ _ hp6, by rw [List.length_map]; exact small1000 (by omega), ?_⟩
    have b27 : But g H2 H7 := ((((b3.trans b4).trans b5).trans b6).same s7)
    refine ⟨_, _, _, ws ++ [y], rfl, ?_, ?_, ?_, ?_, ?_⟩
    · intro b o z h
      rw [upd_ne (ne_of_none h np)]
      exact b27 _ _ z (b2 _ _ z h)
    · rw [upd_same, List.map_append]
      rfl
    · intro x hx
      rcases List.mem_append.mp hx with hx | hx
      · exact hW x hx
      · rw [List.mem_singleton.mp hx]
        exact ⟨y0, y1⟩
    · rw [List.length_append, hl]
      rfl
    · obtain ⟨x1, x2, x3, e, a1, a2⟩ := g6
      refine ⟨x1, x2, x3, ?_, a1, by omega⟩
      rw [upd_ne npg.symm]
      exact s7 _ _ e
  · rintro σ H2 ⟨v3, v4, v5, ws, rfl, b2, hp2, hW, hl, g2⟩
    exact ⟨_, rfl, q _ p ws b2 np hp2 (g2.mono (by omega)) ⟨by omega, hW⟩ hl⟩
/-! ### all rows -/
def sp_law_all_rows : Sp := fun vs H Q _ => ∃ d m : Nat, vs = [.int d, .int m] ∧ 1 ≤ d ∧ d ≤ 3 ∧ m ≤ 3 ∧ ∀ H' p, Same H H' → RowsAt H' p (allRows d m) → Q (.ref p) H'
theorem G_law_all_rows (T : Top K mg) : FnOk P w K mg base CX0 1 T.f_law_all_rows T.fd_law_all_rows ["_law_depth", "_law_many"] sp_law_all_rows := by
  refine T.F_law_all_rows.ok sc_law_all_rows (fun vs H Q E h => by obtain ⟨d, m, rfl, _⟩ := h; rfl) (fun cdv A outer s H vs Q E hr h => ?_)
  obtain ⟨d, m, rfl, h0, h1, hm, q⟩ := h
  refine ⟨_, PSs.nox (pss_cons (ps_set (i := 2) sc_law_all_rows.nd rfl (by first | exact Or.inl rfl | exact Or.inr rfl) (pe_lst (pa_cons (pe_lst pa_nil) pa_nil)))
  (pss_cons (ps_for PassesOwn.never rfl (pi_range1 (by rfl) T.n_range (pa_cons (pv 1) pa_nil)) (pg_name (i := 3) sc_law_all_rows.nd rfl (by first | exact Or.inl rfl | exact Or.inr rfl))
    (pss_cons (ps_set (i := 4) sc_law_all_rows.nd rfl (by first | exact Or.inl rfl | exact Or.inr rfl) (pe_lst pa_nil))
  (pss_cons (ps_for PassesOwn.never rfl (k_piL K rfl (pv 2)) (pg_name (i := 5) sc_law_all_rows.nd rfl (by first | exact Or.inl rfl | exact Or.inr rfl))
    (pss_one (ps_set (i := 4) sc_law_all_rows.nd rfl (by first | exact Or.inl rfl | exact Or.inr rfl) (pe_op op_cat (pv 4) (pe_lc (own := [("_law_sample_here", 6)]) (g := gName 6) (tt := tYes) (by rfl) sc_law_all_rows.nd (pi_range2 (by rfl) T.n_range (pa_cons (pe_un un_neg (pe_op op_shl pe_int (pe_op op_sub (pv 0) pe_int))) (pa_cons (pe_op op_shl pe_int (pe_op op_sub (pv 0) pe_int)) pa_nil))) (blkOk_by (own := [("_law_sample_here", 6)]) (N := N_law_all_rows) (sc := defScope s_law_all_rows) (by decide +kernel)) (fun _ _ _ _ _ => (pg_name (i := 6) sc_law_all_rows.nd rfl (by first | exact Or.inl rfl | exact Or.inr rfl))) (fun _ _ _ _ _ => pts_nil) (fun _ _ _ _ _ => (pe_op op_cat (pv 5) (pe_lst (pa_cons (pv 6) pa_nil)))))))))
  (pss_one (ps_set (i := 2) sc_law_all_rows.nd rfl (by first | exact Or.inl rfl | exact Or.inr rfl) (pv 4))))))
  (pss_one (ps_ret (pv 2))))), ?_⟩
  have hp := pow_pos' (d - 1)
  have hp2 : (2 : Int) ^ (d - 1) ≤ 2 ^ 2 := pow2_le (by omega)
  refine ⟨Nat.zero_le _, fun c nc => ?_⟩
  obtain ⟨H1, e1, s1, h1'⟩ := fresh (.lst []) nc
  rw [e1]
  refine ⟨(show 1 ≤ sizeLine by decide), fun pf npf => ?_⟩
  obtain ⟨H2, e2, s2, h2⟩ := fresh (.lst [V.ref c]) npf
  rw [e2]
  refine ⟨_, rfl, _, rfl, by omega, by omega, ?_⟩
  rw [Int.toNat_natCast]
  refine for_range (lo := 0) (n := m) (fun i σ H3 => ∃ (v3 v4 v5 v6 : Option V) (pf : Addr), σ = [some (.int d), some (.int m), some (.ref pf), v3, v4, v5, v6] ∧ Same H H3 ∧ RowsAt H3 pf (allRows d i)) ⟨none, none, none, none, pf, rfl, s1.trans s2, ?_⟩ ?_ ?_
  · refine ⟨[c], h2, rfl, fun i a r ha hr => ?_⟩
    have hi : i = 0 := by
      have := (List.getElem?_eq_some_iff.mp ha).1
      rw [List.length_singleton] at this
      omega
    subst hi
    cases ha
    cases hr
    exact s2 _ _ h1'
  · rintro i σ H3 hi ⟨v3, v4, v5, v6, pf, rfl, s3, hR⟩
    have hrl := rows_len d h1 i (by omega)
    have h8 : 8 ^ i ≤ 8 ^ 2 := Nat.pow_le_pow_right (by decide) (by omega)
    refine ⟨Nat.zero_le _, fun pl npl => ?_⟩
    obtain ⟨H4, e4, s4, h4⟩ := fresh (.lst []) npl
    rw [e4]
    obtain ⟨as, ha, hal, hat⟩ := hR.same s4
    have hA : SqL K H4 pf (as.map V.ref) := .inl (.inl ha)
    refine ⟨_, rfl, pf, rfl, ⟨_, hA⟩, for_list (K := K) (a := pf) (xs := as.map V.ref) (fun j σ H5 => ∃ (v5 v6 : Option V) (pl : Addr), σ = [some (.int d), some (.int m), some (.ref pf), some (.int (0 + (i : Int))), some (.ref pl), v5, v6] ∧ Same H4 H5 ∧ RowsAt H5 pl (((allRows d i).take j).flatMap fun r => (smp d).map fun s => r ++ [s])) ⟨_, _, pl, rfl, Same.refl _, [], h4, rfl, fun i a r ha hr => by simp at ha⟩ (fun j σ H5 _ ⟨_, _, _, _, s, _⟩ => s.seq hA) ?_ ?_⟩
    · rintro j x σ H5 hx ⟨v5, v6, pl, rfl, s5, hL⟩
      rw [List.getElem?_map] at hx
      obtain ⟨a, ha', rfl⟩ := Option.map_eq_some_iff.mp hx
      have hj : j < as.length := (List.getElem?_eq_some_iff.mp ha').1
      obtain ⟨r, hr⟩ : ∃ r, (allRows d i)[j]? = some r := ⟨_, List.getElem?_eq_getElem (by omega)⟩
      have hra : H5 a = some (.lst (r.map V.int)) := s5 _ _ (hat j a r ha' hr)
      have hrm := (mem_rows.mp (List.mem_of_getElem? hr)).1
      obtain ⟨bs, hb, hbl, hbt⟩ := hL
      -- the comprehension
      refine ⟨_, rfl, ?_⟩
      refine ⟨_, rfl, _, _, rfl, rfl, _, _, rfl, rfl, ⟨by omega, by omega, by decide⟩, _, rfl, _, rfl, _, _, rfl, rfl, _, _, rfl, rfl, ⟨by omega, by omega, by decide⟩, ?_⟩
      refine ⟨-(1 * 2 ^ ((d : Int) - 1).toNat), 1 * 2 ^ ((d : Int) - 1).toNat, rfl, ?_⟩
      rw [pow_pred h0]
      refine ⟨⟨by omega, by omega, by omega, by omega⟩, fun D nD => ?_⟩
      have en : ((2 : Int) ^ (d - 1) - -(2 ^ (d - 1))).toNat = 2 * 2 ^ (d - 1) := by
        have e : ((2 * 2 ^ (d - 1) : Nat) : Int) = 2 * 2 ^ (d - 1) := by rw [Int.natCast_mul, Int.natCast_pow]; rfl
        omega
      rw [en]
      have hn4 : 2 * 2 ^ (d - 1) ≤ 8 := by
        have : 2 ^ (d - 1) ≤ 2 ^ 2 := Nat.pow_le_pow_right (by decide) (by omega)
        omega
      refine lc_relR (lo := -(2 ^ (d - 1))) (n := 2 * 2 ^ (d - 1)) (fun k y H' => ∃ c, y = .ref c ∧ c ≠ D ∧ H' c = some (.lst ((r ++ [-(2 ^ (d - 1)) + (k : Int)]).map V.int))) nD (by rw [sizeLine_eq]; omega) ?_ (fun x => rfl) ?_ ?_
      · rintro k y Ha Hb off ⟨c, e, nc, hc⟩
        exact ⟨c, e, nc, off _ _ nc hc⟩
      · intro k H6 xs hk s6 hD6 Qt qt
        refine ⟨_, rfl, _, rfl, (show 1 ≤ sizeLine by decide), fun c1 nc1 => ?_⟩
        obtain ⟨H7, e7, s7, h7⟩ := fresh (.lst [V.int (-(2 ^ (d - 1)) + (k : Int))]) nc1
        rw [e7]
        refine ⟨a, c1, _, _, rfl, rfl, s7 _ _ (s6 _ _ hra), h7, by rw [List.length_map, sizeLine_eq]; simp; omega, fun c2 nc2 => ?_⟩
        refine qt _ _ (s7.trans (same_upd nc2)) ⟨c2, rfl, ?_, ?_⟩
        · exact (ne_of_none (s7 _ _ hD6) nc2).symm
        · rw [upd_same, List.map_append]
          rfl
      · intro H6 ys s6 hD6 hyl hyR
        have hb6 := s6 _ _ hb
        have hbn : bs.length ≤ 512 := by
          rw [hbl]
          have e : ∀ l : List (List Int), (l.flatMap fun r => (smp d).map fun s => r ++ [s]).length = l.length * (smp d).length := fun l => by
            induction l with
            | nil => simp
            | cons x r ih => rw [List.flatMap_cons, List.length_append, List.length_map, ih, List.length_cons, Nat.succ_mul]; omega
          have hsm : (smp d).length ≤ 8 := by unfold smp; rw [List.length_map, List.length_range]; exact hn4
          rw [e, List.length_take]
          exact Nat.le_trans (Nat.mul_le_mul (show min j (allRows d i).length ≤ 64 by omega) hsm) (by decide)
        refine ⟨pl, D, _, _, rfl, rfl, hb6, hD6, by rw [List.length_map, hyl, sizeLine_eq]; omega, fun p2 np2 => ?_⟩
        obtain ⟨cs, rfl, hcs⟩ : ∃ cs : List Addr, ys = cs.map V.ref ∧ ∀ (k : Nat) (c : Addr), cs[k]? = some c → H6 c = some (.lst ((r ++ [-(2 ^ (d - 1)) + (k : Int)]).map V.int)) := by
          have key : ∀ (ys : List V) (o : Nat), (∀ (i : Nat) (y : V), ys[i]? = some y → ∃ c, y = .ref c ∧ c ≠ D ∧ H6 c = some (.lst ((r ++ [-(2 ^ (d - 1)) + ((o + i : Nat) : Int)]).map V.int))) → ∃ cs : List Addr, ys = cs.map V.ref ∧ ∀ (k : Nat) (c : Addr), cs[k]? = some c → H6 c = some (.lst ((r ++ [-(2 ^ (d - 1)) + ((o + k : Nat) : Int)]).map V.int)) := by
            intro ys
            induction ys with
            | nil => intro o _; exact ⟨[], rfl, fun k c h => by simp at h⟩
            | cons y r' ih =>
              intro o h
              obtain ⟨c, e, _, hc⟩ := h 0 y rfl
              obtain ⟨cs, e2, h2⟩ := ih (o + 1) fun i y hy => by
                obtain ⟨c, a, b, d⟩ := h (i + 1) y hy
                exact ⟨c, a, b, by rw [show o + 1 + i = o + (i + 1) by omega]; exact d⟩
              refine ⟨c :: cs, by rw [e, e2]; rfl, fun k c' hk => ?_⟩
              cases k with
              | zero => cases hk; exact hc
              | succ k =>
                have := h2 k c' hk
                rw [show o + 1 + k = o + (k + 1) by omega] at this
                exact this
          obtain ⟨cs, a, b⟩ := key ys 0 fun i y hy => by
            obtain ⟨c, e, nc, hc⟩ := hyR i y hy
            exact ⟨c, e, nc, by rw [Nat.zero_add]; exact hc⟩
          exact ⟨cs, a, fun k c hk => by have := b k c hk; rw [Nat.zero_add] at this; exact this⟩
        have hcl : cs.length = 2 * 2 ^ (d - 1) := by rw [List.length_map] at hyl; exact hyl
        refine ⟨_, _, p2, rfl, (s5.trans s6).trans (same_upd np2), bs ++ cs, ?_, ?_, ?_⟩
        · rw [upd_same, List.map_append]
        · rw [List.length_append, hbl, flat_take _ hr, List.length_append, hcl, List.length_map]
          unfold smp
          rw [List.length_map, List.length_range]
        · intro k c row hc hrow
          rw [flat_take _ hr] at hrow
          have s6' := s6.trans (same_upd (o := .lst (bs.map V.ref ++ cs.map V.ref)) np2)
          by_cases hk : k < bs.length
          · rw [List.getElem?_append_left hk] at hc
            rw [List.getElem?_append_left (by omega)] at hrow
            exact s6' _ _ (hbt k c row hc hrow)
          · rw [List.getElem?_append_right (by omega)] at hc
            rw [List.getElem?_append_right (by omega), ← hbl, List.getElem?_map] at hrow
            obtain ⟨sm, hsm, rfl⟩ := Option.map_eq_some_iff.mp hrow
            have h6 := hcs _ _ hc
            unfold smp at hsm
            rw [List.getElem?_map] at hsm
            obtain ⟨z, hz, rfl⟩ := Option.map_eq_some_iff.mp hsm
            have ez : z = k - bs.length := by
              have hlt := (List.getElem?_eq_some_iff.mp hz).1
              rw [List.length_range] at hlt
              rw [List.getElem?_range hlt] at hz
              exact (Option.some.inj hz).symm
            rw [ez]
            exact same_upd np2 _ _ h6
    · rintro σ H5 ⟨v5, v6, pl, rfl, s5, hL⟩
      rw [List.length_map, hal, List.take_length] at hL
      exact ⟨_, rfl, _, _, _, _, pl, rfl, (s3.trans s4).trans s5, hL⟩
  · rintro σ H3 ⟨v3, v4, v5, v6, pf, rfl, s3, hR⟩
    exact ⟨_, rfl, q _ pf s3 hR⟩
end
end My

namespace My
open PySem PySem.Spec PyProof.Rows L2 Pre
/-! ### promises for callers that stand in no repr: within them repr of lists shows its items -/
structure FnG (P : Program) (w : World) (K : PySem.W.Frag) (mg : Str → Option Value) (base : Heap) (CX : CXT) (k : Nat) (f : Addr) (fd : FuncData) (ps : List Str) (sp : Sp) : Prop where
  many : ∀ xs H Q E, sp xs H Q E → xs.length = ps.length
  does : ∀ (A : Around), A.guards = some [] → Room k A → ∀ (fr : List Env) (t : Shared) (H : Hp), Env0 P w K mg base A fr t H → ∀ (ar : Args) (us : List Value) (xs : List V), BindsTo t fd ar (ps.zip us) → Vals xs us →
    ∀ (Q : VK) (E : XK), sp xs H Q E → codeAny (model P w) A (.call (.ref f) ar) (CR CX fr P w H t Q E) t
section
variable {P : Program} {w : World} {K : PySem.W.Frag} {mg : Str → Option Value} {base : Heap} {CX : CXT} {k : Nat} {f : Addr} {fd : FuncData} {ps : List Str} {sp : Sp}
theorem FnG.of (F : FnOk P w K mg base CX k f fd ps sp) : FnG P w K mg base CX k f fd ps sp :=
  ⟨F.len, fun A _ hr fr t H e ar us xs b v Q E h => F.run A fr t H ar us xs Q E hr e b v h⟩
/-- a body makes a promise -/
theorem FnG.body {x qual : Str} {pr : Arguments} {bd : List Stmt} {sc : Scope} {dvs : List V} {kws : List (Str × V)} {N : List Str} (F : FunD K x qual pr bd sc dvs kws f fd) (S : FnScope N ps sc) (hm : ∀ xs H Q E, sp xs H Q E → xs.length = ps.length)
    (go : ∀ (cv : Value) (A : Around) (fr : List Env) (t : Shared) (H : Hp) (xs : List V) (Q : VK) (E : XK), A.guards = some [] → Room k (A.deeper (envOfC qual sc t.heap.objs.size f cv)) → sp xs H Q E →
      ∃ τ, PSs (cxOf CX P w K mg base N qual sc f cv A fr t H E) bd τ ∧ τ { nx := fun _ H1 => Q .non H1, rt := Q } (start N xs) H) : FnG P w K mg base CX (k + 1) f fd ps sp := by
  obtain ⟨c0, d0, dv, kv, dc, pm, an, cv, ct, sl, rfl, lk, hcode, _, _⟩ := F.ex
  refine ⟨hm, fun A gd hr fr t H e0 ar us xs hb rv Q E hs => ?_⟩
  have hin : K.In t.heap := e0.mod.kin.keeps fun b o z => (e0.bs b o z).1
  have hno : t.heap.NoLimit := e0.mod.nolimit.keeps fun b o z => (e0.bs b o z).1
  refine codeAny_call_function hr.depth (hin _ _ lk) rfl S.co S.gen rfl (PySem.W.codeRec_of hin hcode) (hb _ _ _ _ ?_)
  refine wpAny_newFunctionEnv_cells S.kind (fun y hy => ?_) fun env he t1 hx => ?_
  · obtain ⟨n, u⟩ := y
    rcases S.par n (List.of_mem_zip hy).1 with z | z
    · exact Or.inl z
    · exact Or.inr ⟨z, PySem.W.cellsFrom_some _ _ _ (Or.inl z)⟩
  · subst he
    refine ⟨hno.keeps hx.toInCall.keep, codeAny_func ?_⟩
    obtain ⟨τ, hτ, hq⟩ := go cv A fr t H xs Q E gd (hr.deeper _) hs
    have J := inv_start (CX := CX) (E := E) S hr.hd e0 (hm _ _ _ _ hs) rv hx
    refine wpAny_mono (hτ.run [] t1 (start N xs) H _ J hq) (fun fl t2 h2 => ?_) fun _ _ z => z
    cases fl with
    | brk => exact False.elim h2.choose_spec.choose_spec.2
    | cont => exact False.elim h2.choose_spec.choose_spec.2
    | next =>
      obtain ⟨σ2, H2, J2, q2⟩ := h2
      exact ⟨V.non, H2, J2.os, J2.bare, J2.base, J2.hok, rfl, q2⟩
    | ret u =>
      obtain ⟨v2, σ2, H2, J2, r2, q2⟩ := h2
      exact ⟨v2, H2, J2.os, J2.bare, J2.base, J2.hok, r2, q2⟩
end
section
variable {X : Cx} {CX : CXT} {k : Nat} {f : Addr} {fd : FuncData} {ps : List Str} {sp : Sp} {dvs : List V} {ds : List Value} {E : XK} {x : Str} {p pos : Pos} {e : Expr} {es : List Expr} {t : TA}
theorem go_g {pins : List (Addr × Obj)} {σ : L2.St} {H : Hp} {s : Shared} {Q : VK} {us : List Value} {xs : List V} (F : FnG X.prog X.w X.K X.mg X.base CX k f fd ps sp) (gd : X.A.guards = some []) (hr : Room k X.A) (hb : Binds X.K fd ps ds) (hd : Vals dvs ds)
    (hx : Passes CX X E) (I : Inv X pins σ H s) (r : Vals xs us) (h : sp (xs ++ dvs) H Q E) : wpAny (model X.prog X.w) X.A (call (.ref f) us) (EP X pins σ Q) X.xe s := by
  have rr := Vals.append r hd
  refine wpAny_call (codeAny_mono (F.does X.A gd hr X.stack s H I.env0 ⟨us, []⟩ (us ++ ds) (xs ++ dvs) (hb s us I.kIn (by rw [← rr.length]; exact F.many _ _ _ _ h)) rr Q E h) fun z s2 hz => ?_)
  match z, hz with
  | .error e, hz => exact hx pins σ H s e s2 I hz
  | .ok (.ret u), hz => exact I.after hz
theorem pe_callG (F : FnG X.prog X.w X.K X.mg X.base CX k f fd ps sp) (gd : X.A.guards = some []) (hr : Room k X.A) (hg : Gl X x) (hm : X.mg x = some (.ref f)) (hk : PySem.W.keepIn X.K (.ref f) = true) (hb : Binds X.K fd ps ds) (hd : Vals dvs ds) (hx : Passes CX X E)
    (ha : PA X (e :: es) t) (hdb : (x == ("__debug__" : Str)) = false := by decide) (he : starEach (e :: es) X.env = (false, eval e X.env) :: starEach es X.env := by rfl) (hpl : (backTo pos (starEach es X.env)).any (·.1) = false := by rfl) :
    PE X (.Call (.Name x p) (e :: es) [] pos) (tCall sp dvs E t) :=
  ⟨fun pins s σ H Q I h => wpAny_Call_Name_kw (ld_glob I hg hm (PySem.W.callWith_K (h₀ := X.base) I.ok.mod.kin hk (thn (ha.run pos pins s σ H _ I h) fun us s1 ⟨vs, H1, J, r, q⟩ => ⟨J.kIn, go_g F gd hr hb hd hx J r q⟩) he hpl) hdb)⟩
theorem pe_callG0 (F : FnG X.prog X.w X.K X.mg X.base CX k f fd ps sp) (gd : X.A.guards = some []) (hr : Room k X.A) (hg : Gl X x) (hm : X.mg x = some (.ref f)) (hk : PySem.W.keepIn X.K (.ref f) = true) (hb : Binds X.K fd ps ds) (hd : Vals dvs ds) (hx : Passes CX X E)
    (hdb : (x == ("__debug__" : Str)) = false := by decide) : PE X (.Call (.Name x p) [] [] pos) (tCall sp dvs E tNil) :=
  ⟨fun pins s σ H Q I h => wpAny_Call_Name_kw (ld_glob I hg hm (PySem.W.callWith_K0 I.kIn hk (go_g (us := []) F gd hr hb hd hx I .nil h)) hdb)⟩
end
/-! ### repr -/
def rRepr (K : PySem.W.Frag) : List V → Hp → VK → Prop := fun xs H Q => ∃ (x : V) (d : PyData), xs = [x] ∧ Dp K H x d ∧ d.showable = true ∧ SeqAt.shaped d = true ∧ d.shown.length ≤ sizeLine ∧ Q (.str d.shown) H
theorem call_repr {X : Cx} (gd : X.A.guards = some []) (hu : X.A.units + 65 < cLine) : CallR X (.builtin "repr") (rRepr X.K) := by
  intro pins s σ H xs us Q I r h
  obtain ⟨x, d, rfl, hd, hs, hsh, hl, q⟩ := h
  cases r with
  | cons rx rr =>
    cases rr
    rename_i u
    have hlay : d.canLay0 = true := SeqAt.canLay_of_shaped hsh
    have hdep : d.depth ≤ 64 := by
      have z : (d.canLay0 && decide (d.depth ≤ 64)) = true := hsh
      exact of_decide_eq_true (Bool.and_eq_true_iff.mp z).2
    obtain ⟨as, rd⟩ := Dp.reads I d x u hd rx
    have fin : ∀ h' v tk, (∀ b o, s.heap.get? b = some o → h'.get? b = some o) → EP X pins σ Q (.str d.shown v) { s with heap := h', toks := tk } := fun h' v tk hk => ⟨.str d.shown, H, I.kept hk, ⟨v, rfl⟩, q⟩
    cases hd with
    | non => cases rx; exact PySem.P.repr_of_none (fin _ _ _ fun _ _ z => z)
    | bl b => cases rx; exact PySem.P.repr_of_bool (fin _ _ _ fun _ _ z => z)
    | int i => obtain ⟨t, rfl⟩ := rx; exact PySem.P.repr_of_int (of_decide_eq_true hs) (fin _ _ _ fun _ _ z => z)
    | str y => obtain ⟨t, rfl⟩ := rx; exact PySem.P.repr_of_str (fin _ _ _ fun _ _ z => z) hl
    | lst _ _ => cases rx; exact repr_of_reads' rd hs (PyData.noDict_hsm (PyData.hasDict_of_canLay _ hlay)) gd (by omega) (fun _ _ z => z) fin hl
    | tup _ _ => cases rx; exact repr_of_reads' rd hs (PyData.noDict_hsm (PyData.hasDict_of_canLay _ hlay)) gd (by omega) (fun _ _ z => z) fin hl
theorem k_repr {X : Cx} (K : PySem.W.Frag) (h : X.K = K) (gd : X.A.guards = some []) (hu : X.A.units + 65 < cLine) : CallR X (.builtin "repr") (rRepr K) := by subst h; exact call_repr gd hu
theorem hu65 {k : Nat} {A : Around} (r : Room k A) : A.units + 65 < cLine := by have := r.un; omega
/-- rows of whole numbers, shown -/
theorem dp_ints {K : PySem.W.Frag} {H : Hp} : ∀ ns : List Int, DpAll K H (ns.map V.int) (ns.map PyData.int)
  | [] => .nil
  | n :: ns => .cons (.int n) (dp_ints ns)
theorem dp_row {K : PySem.W.Frag} {H : Hp} {a : Addr} {ns : List Int} (h : SqL K H a (ns.map V.int)) : Dp K H (.ref a) (.list (ns.map PyData.int)) := .lst h (dp_ints ns)
def shownR (ns : List Int) : Str := PyData.shown (.list (ns.map PyData.int))
theorem ints_lay : ∀ ns : List Int, PyData.canLayAll0 (ns.map PyData.int) = true
  | [] => rfl
  | n :: ns => by simp [PyData.canLayAll0, PyData.canLay0, ints_lay ns]
theorem ints_depth : ∀ ns : List Int, PyData.depthAll (ns.map PyData.int) ≤ 1
  | [] => by simp [PyData.depthAll]
  | n :: ns => by
    have := ints_depth ns
    simp only [List.map_cons, PyData.depthAll, PyData.depth]
    omega
theorem row_shaped (ns : List Int) : SeqAt.shaped (.list (ns.map PyData.int)) = true := by
  have h := ints_depth ns
  show (PyData.canLay0 (.list (ns.map PyData.int)) && decide (PyData.depth (.list (ns.map PyData.int)) ≤ 64)) = true
  rw [Bool.and_eq_true]
  exact ⟨by simp only [PyData.canLay0]; exact ints_lay ns, decide_eq_true (by simp only [PyData.depth]; omega)⟩
theorem ints_show : ∀ ns : List Int, (∀ n ∈ ns, n.natAbs.log2 < 1920) → PyData.showableAll (ns.map PyData.int) = true
  | [], _ => rfl
  | n :: ns, h => by
    simp only [List.map_cons, PyData.showableAll, PyData.showable]
    rw [decide_eq_true (h n List.mem_cons_self), ints_show ns fun m hm => h m (List.mem_cons_of_mem _ hm)]
    rfl
/-! ### sorted, any number -/
theorem k_sortedI {X : Cx} (K : PySem.W.Frag) (h : X.K = K) : CallR X (.builtin "sorted") (rSortedI K) := by subst h; exact cr_sortedI
def rSortedA (K : PySem.W.Frag) : List V → Hp → VK → Prop := fun vs H Q => ∃ (a : Addr) (xs : List Str), vs = [V.ref a] ∧ SqL K H a (xs.map V.str) ∧ ∀ (ys : List Str) (p : Addr), ys.Perm xs → sortedS ys = true → H p = none → Q (.ref p) (upd H p (.lst (ys.map V.str)))
theorem k_sortedS {X : Cx} (K : PySem.W.Frag) (h : X.K = K) : CallR X (.builtin "sorted") (rSortedA K) := by
  subst h
  intro pins s σ H vs us Q I r h
  obtain ⟨a, xs, rfl, hs, q⟩ := h
  obtain ⟨its, rv, hl, hz⟩ := I.list hs
  rw [Vals.ref1 r]
  refine sorted_strsAny hl.isList rv.strs (by rw [← rv.length]; exact hz) fun out ys h1 h2 h3 => ?_
  obtain ⟨ep, at_⟩ := sortedAll_at s.heap its out
  refine ⟨.ref _, upd H (s.heap.objs.size + 1) (.lst (ys.map V.str)), I.laid (t' := s.toks) (fun _ _ => sortedAll_old) (Nat.le_succ _) ⟨?_, out.toList, ep, vals_of_strs h1, at_⟩, rfl, q ys _ h2 h3 (I.hok.fresh (Nat.le_succ _))⟩
  rw [List.length_map, h2.length_eq]
  rw [List.length_map] at hz
  exact hz
theorem sorted_le : ∀ (l : List Str) (p : Str), risingS p l = true → (p :: l).Pairwise fun x y => x.cps.toList ≤ y.cps.toList
  | [], p, _ => List.pairwise_singleton _ _
  | x :: r, p, h => by
    obtain ⟨h1, h2⟩ := Bool.and_eq_true_iff.mp (show (!ltCps x.cps.toList p.cps.toList && risingS x r) = true from h)
    have hpx : p.cps.toList ≤ x.cps.toList := by
      rw [ltCps_eq] at h1
      intro z
      rw [decide_eq_true z] at h1
      cases h1
    have ih := sorted_le r x h2
    refine List.pairwise_cons.mpr ⟨fun y hy => ?_, ih⟩
    rcases List.mem_cons.mp hy with rfl | hy
    · exact hpx
    · exact List.le_trans hpx ((List.pairwise_cons.mp ih).1 y hy)
theorem sorted_uniq {xs ys : List Str} (h : xs.Perm ys) (hx : sortedS xs = true) (hy : sortedS ys = true) : xs = ys := by
  have pw : ∀ l : List Str, sortedS l = true → l.Pairwise fun x y => x.cps.toList ≤ y.cps.toList := fun l hl => by
    cases l with
    | nil => exact .nil
    | cons x r => exact sorted_le r x hl
  refine List.Perm.eq_of_pairwise (fun x y _ _ h1 h2 => ?_) (pw _ hx) (pw _ hy) h
  have e := List.le_antisymm h1 h2
  cases x with | mk a => cases y with | mk b => exact congrArg Str.mk (Array.toList_inj.mp e)
end My

namespace My
open PySem PySem.Spec PyProof.Rows L2 Pre
/-! ### the end of a law whose promise stands in no repr -/
/-- the script, tracked or one of the module's own objects -/
theorem script_env {P : Program} {w : World} {K : PySem.W.Frag} {mg mb : Str → Option Value} {a : Addr} {t : Shared} {us : List Value} {ns : List Int} (hin : K.In t.heap) (hgl : t.heap.Ns mainGlobals mg) (hbl : t.heap.Ns builtinsNs mb)
    (hbo : ∀ x : Str, x ≠ "__name__" → mb x = bootBuiltins x) (hno : t.heap.NoLimit) (hgs : t.gens = #[]) (at_a : t.heap.get? a = some { cls := .type "list", data := .seq us.toArray }) (ints_ : IntsAre us ns) (few : ns.length ≤ sizeLine) :
    ∃ (H : Hp) (base : Heap), Only H ∧ SqL K H a (ns.map V.int) ∧ K.In base ∧ base.Ns mainGlobals mg ∧ Env0 P w K mg base callerA [] t H := by
  have rv := vals_ints ints_
  have ul := ints_.length
  -- the module and the rest of the heap, whatever is tracked at a alone
  have rest : ∀ H : Hp, Only H → (∀ b, b ≠ a → H b = none) → (H a = none ∨ K.lookup a = none) → HOk P w H t.heap → SqL K H a (ns.map V.int) → ∃ (H : Hp) (base : Heap), Only H ∧ SqL K H a (ns.map V.int) ∧ K.In base ∧ base.Ns mainGlobals mg ∧ Env0 P w K mg base callerA [] t H := by
    intro H h1 h2 h3 h4 h5
    have dictFree : ∀ b o, t.heap.get? b = some o → (∃ es n, o.data = Data.dict es n) → H b = none := fun b o z ⟨es, n, d⟩ => by
      by_cases hb : b = a
      · rw [hb, at_a] at z
        cases z
        cases d
      · exact h2 b hb
    have nsKept : ∀ (b : Addr) (m : Str → Option Value), t.heap.Ns b m → (hidT t.heap H).Ns b m := fun b m z => by
      obtain ⟨o, es, ep, z1, z2, z3⟩ := z
      exact ⟨o, es, ep, hidT_get z1 (dictFree b o z1 ⟨_, _, z2⟩), z2, z3⟩
    have inKept : K.In (hidT t.heap H) := fun b o z => hidT_get (hin b o z) (by
      by_cases hb : b = a
      · rcases h3 with z3 | z3
        · rw [hb]; exact z3
        · rw [hb, z3] at z; cases z
      · exact h2 b hb)
    obtain ⟨mc, l1, l2⟩ := hno
    refine ⟨H, hidT t.heap H, h1, h5, inKept, nsKept _ _ hgl, ⟨rfl, ⟨inKept, nsKept _ _ hgl, ⟨mb, nsKept _ _ hbl, hbo⟩, ⟨mc, nsKept _ _ l1, l2⟩⟩, fun b o z => of_hidT z, ?_, trivial, fun b z => (nomatch z), h4, .of_eq hgs⟩⟩
    rw [hidT_size]
    exact Nat.le_refl _
  cases hk : K.lookup a with
  | some o =>
    have z := hin a o hk
    rw [at_a] at z
    cases z
    exact rest (fun _ => none) (fun _ => .inl rfl) (fun _ _ => rfl) (.inl rfl) (fun _ _ z => nomatch z) (.inr ⟨_, us.toArray, _, hk, rfl, rfl, rfl, by rw [List.size_toArray, ul]; exact few, by simpa using rv⟩)
  | none =>
    refine rest (upd (fun _ => none) a (.frz { cls := .type "list", data := .seq us.toArray } (.lst (ns.map V.int)))) (fun b => ?_) (fun b hb => upd_ne hb) (.inr hk) (fun b u z => ?_) (.inl (.inr ⟨_, upd_same⟩))
    · by_cases hb : b = a
      · rw [hb]; exact .inr ⟨_, _, upd_same⟩
      · exact .inl (upd_ne hb)
    · by_cases hb : b = a
      · subst hb
        rw [upd_same] at z
        cases z
        exact ⟨at_a, by rw [List.length_map]; exact few, us, _, rv, at_a⟩
      · rw [upd_ne hb] at z
        cases z
theorem end_g {l : PySem.W.OpenLaw} {n k : Nat} {q : Program} {loose : List Str} {XP : (Str → Option Value) → Heap → Prop} {YP : World → Heap → Prop} {d : DefRec} {x : Str} (hn : l.most = some n) (hn2 : n ≤ sizeLine) (hdf : d.params.defaults = []) (hr : Room k callerA)
    (F : ∀ (w : World) (mg : Str → Option Value) (fa : Addr) (h : Heap), YP w h → h.Ns mainGlobals mg → mg d.name = some (.ref fa) →
      ∃ (K : PySem.W.Frag) (fd : FuncData) (sp : Sp), K.In h ∧ (∀ (s : Shared) (u : Value), BindsTo s fd ⟨[u], []⟩ [(x, u)]) ∧
        (∀ (H : Hp) (a : Addr) (ns : List Int), ns.length ≤ n → SqL K H a (ns.map V.int) → sp [.ref a] H (fun v _ => v = .bl true) fun _ _ _ => False) ∧
        ∀ base : Heap, K.In base → base.Ns mainGlobals mg → FnG l.prog w K mg base CX0 k fa fd [x] sp) :
    PySem.W.WalkO q loose XP YP l.row.toRowW d [] (fun f vs => PySem.call f vs) := by
  refine Att.attach_call hn hdf fun w s₀ t mg mb fa o pm cd doc a us ns G Y ho hd hcd hmg at_a hi hl hg => ?_
  obtain ⟨K, fd, sp, hin, hb, hsp, hF⟩ := F w mg fa _ Y G.T.g hmg
  obtain ⟨H, base, only, hS, hKb, hgb, e0⟩ := script_env (P := l.prog) (w := w) hin G.T.g G.T.b G.T.builtins G.T.nolimit hg at_a hi (Nat.le_trans hl hn2)
  refine codeAny_mono ((hF base hKb hgb).does callerA rfl hr [] t H e0 ⟨[.ref a], []⟩ [.ref a] [.ref a] (hb t (.ref a)) (.cons rfl .nil) _ _ (hsp H a ns hl hS)) fun r t2 h => ?_
  match r, h with
  | .error e, h => exact (show False from h).elim
  | .ok (.ret u), h =>
    obtain ⟨v, H2, os, bare, un, hok2, rv, qv⟩ := h
    have qv : v = .bl true := qv
    subst qv
    have rv : u = Value.bool true := rv
    subst rv
    refine ⟨rfl, OldK.of_keep fun b o z => ?_, os, bare⟩
    rcases only b with hb | ⟨ob, ys, hb⟩
    · exact un.keep b o z hb (fun y => nomatch y) (fun y => nomatch y)
    · have z1 : t.heap.get? b = some ob := (e0.hok b _ hb).1
      have z2 : t2.heap.get? b = some ob := (hok2 b _ (un.frzs b ob _ hb)).1
      rw [z] at z1
      cases z1
      exact z2
end My

namespace My
/-! ### wrapping by the law's own rule -/
theorem pow_two {d : Nat} (h : 1 ≤ d) : (2 : Int) ^ d = 2 * 2 ^ (d - 1) := by
  obtain ⟨k, rfl⟩ : ∃ k, d = k + 1 := ⟨d - 1, by omega⟩
  rw [Nat.add_sub_cancel, Int.pow_succ, Int.mul_comm]
theorem wrap_law {d : Nat} (h : 1 ≤ d) (n : Int) : wrapI n d = if n % 2 ^ d ≥ 2 ^ (d - 1) then n % 2 ^ d - 2 ^ d else n % 2 ^ d := by
  have hp := pw d
  rw [pow_two h]
  have e := Int.emod_add_mul_ediv n (2 * 2 ^ (d - 1))
  have h0 := Int.emod_nonneg n (show (2 * 2 ^ (d - 1) : Int) ≠ 0 by omega)
  have h1 := Int.emod_lt_of_pos n (show (0 : Int) < 2 * 2 ^ (d - 1) by omega)
  generalize n % (2 * 2 ^ (d - 1)) = r at e h0 h1
  rw [← e, Int.mul_comm (2 * 2 ^ (d - 1)), wrap_add]
  by_cases hr : r ≥ 2 ^ (d - 1)
  · rw [if_pos hr]
    have := wrap_add (r - 2 * 2 ^ (d - 1)) 1 d
    rw [show r - 2 * 2 ^ (d - 1) + 1 * (2 * 2 ^ (d - 1)) = r by omega] at this
    rw [this]
    exact wrap_id (by omega) (by omega)
  · rw [if_neg hr]
    exact wrap_id (by omega) (by omega)
/-! ### differences of an order -/
/-- a product by 1 less the step -/
def mulD (ps : List Int) : List Int := (List.range (ps.length + 1)).map fun k => ps.getD k 0 - (if k = 0 then 0 else ps.getD (k - 1) 0)
def stepP : Nat → List Int
  | 0 => [1]
  | k + 1 => mulD (stepP k)
def stepW (k : Nat) : List Int := ((stepP k).drop 1).map fun n => -n
theorem mulD_len (ps : List Int) : (mulD ps).length = ps.length + 1 := by
  unfold mulD
  rw [List.length_map, List.length_range]
theorem stepP_len : ∀ k, (stepP k).length = k + 1
  | 0 => rfl
  | k + 1 => by
    show (mulD (stepP k)).length = _
    rw [mulD_len, stepP_len k]
theorem stepW_len (k : Nat) : (stepW k).length = k := by
  unfold stepW
  rw [List.length_map, List.length_drop, stepP_len]
  omega
theorem step_fit : ∀ k : Fin 9, (stepP k).all fun n => decide (-32768 ≤ n ∧ n ≤ 32768) := by decide +kernel
/-- sums -/
def sumN (f : Nat → Int) : Nat → Int
  | 0 => 0
  | n + 1 => sumN f n + f n
theorem sumN_congr {f g : Nat → Int} : ∀ n, (∀ k, k < n → f k = g k) → sumN f n = sumN g n
  | 0, _ => rfl
  | n + 1, h => by
    show sumN f n + f n = sumN g n + g n
    rw [sumN_congr n fun k hk => h k (by omega), h n (by omega)]
theorem sumN_shift (f : Nat → Int) : ∀ n, sumN f (n + 1) = f 0 + sumN (fun k => f (k + 1)) n
  | 0 => by show (0 : Int) + f 0 = f 0 + 0; omega
  | n + 1 => by
    show sumN f (n + 1) + f (n + 1) = f 0 + (sumN (fun k => f (k + 1)) n + f (n + 1))
    rw [sumN_shift f n]
    omega
theorem sumN_sub (f g : Nat → Int) : ∀ n, sumN (fun k => f k - g k) n = sumN f n - sumN g n
  | 0 => rfl
  | n + 1 => by
    show sumN (fun k => f k - g k) n + (f n - g n) = sumN f n + f n - (sumN g n + g n)
    rw [sumN_sub f g n]
    omega
/-- the sum that a product tells at a place -/
def conv1 (ps row : List Int) (p : Nat) : Int := sumN (fun k => ps.getD k 0 * row.getD (p - k) 0) ps.length
def diff (row : List Int) : List Int := (List.range (row.length - 1)).map fun i => row.getD (i + 1) 0 - row.getD i 0
def diffs : Nat → List Int → List Int
  | 0, row => row
  | k + 1, row => diff (diffs k row)
theorem mulD_get (ps : List Int) (k : Nat) (h : k < ps.length + 1) : (mulD ps).getD k 0 = ps.getD k 0 - (if k = 0 then 0 else ps.getD (k - 1) 0) := by
  unfold mulD
  rw [List.getD_eq_getElem?_getD, List.getElem?_map, List.getElem?_range h]
  rfl
theorem getD_over (ps : List Int) (k : Nat) (h : ps.length ≤ k) : ps.getD k 0 = 0 := by
  rw [List.getD_eq_getElem?_getD, List.getElem?_eq_none h]
  rfl
theorem conv_mul (ps row : List Int) (p : Nat) : conv1 (mulD ps) row p = conv1 ps row p - conv1 ps row (p - 1) := by
  unfold conv1
  rw [mulD_len]
  rw [sumN_congr (g := fun k => ps.getD k 0 * row.getD (p - k) 0 - (if k = 0 then 0 else ps.getD (k - 1) 0) * row.getD (p - k) 0) (ps.length + 1) fun k hk => by rw [mulD_get ps k hk, Int.sub_mul]]
  rw [sumN_sub]
  have e1 : sumN (fun k => ps.getD k 0 * row.getD (p - k) 0) (ps.length + 1) = sumN (fun k => ps.getD k 0 * row.getD (p - k) 0) ps.length := by
    show _ + ps.getD ps.length 0 * _ = _
    rw [getD_over ps _ (Nat.le_refl _), Int.zero_mul, Int.add_zero]
  have e2 : sumN (fun k => (if k = 0 then 0 else ps.getD (k - 1) 0) * row.getD (p - k) 0) (ps.length + 1) = sumN (fun k => ps.getD k 0 * row.getD (p - 1 - k) 0) ps.length := by
    rw [sumN_shift]
    show (0 : Int) * _ + _ = _
    rw [Int.zero_mul, Int.zero_add]
    refine sumN_congr _ fun k _ => ?_
    show (if k + 1 = 0 then 0 else ps.getD (k + 1 - 1) 0) * row.getD (p - (k + 1)) 0 = _
    rw [if_neg (by omega), Nat.add_sub_cancel, show p - (k + 1) = p - 1 - k by omega]
  rw [e1, e2]
theorem diff_len (row : List Int) : (diff row).length = row.length - 1 := by
  unfold diff
  rw [List.length_map, List.length_range]
theorem diffs_len (row : List Int) : ∀ k, (diffs k row).length = row.length - k
  | 0 => rfl
  | k + 1 => by
    show (diff (diffs k row)).length = _
    rw [diff_len, diffs_len row k]
    omega
theorem diffs_get (row : List Int) : ∀ (k i : Nat), i + k < row.length → (diffs k row).getD i 0 = conv1 (stepP k) row (i + k)
  | 0, i, _ => by
    show row.getD i 0 = (0 : Int) + 1 * row.getD i 0
    omega
  | k + 1, i, h => by
    have hl := diffs_len row k
    show (diff (diffs k row)).getD i 0 = conv1 (mulD (stepP k)) row (i + k + 1)
    rw [conv_mul, Nat.add_sub_cancel]
    unfold diff
    rw [List.getD_eq_getElem?_getD, List.getElem?_map, List.getElem?_range (by omega)]
    show (diffs k row).getD (i + 1) 0 - (diffs k row).getD i 0 = _
    rw [diffs_get row k (i + 1) (by omega), diffs_get row k i (by omega), show i + 1 + k = i + k + 1 by omega]
theorem stepP_head : ∀ k, (stepP k).getD 0 0 = 1
  | 0 => rfl
  | k + 1 => by
    show (mulD (stepP k)).getD 0 0 = 1
    rw [mulD_get _ _ (by omega), if_pos rfl, stepP_head k]
    rfl
theorem dot_sum (ws bs : List Int) (h : ws.length ≤ bs.length) : dot ws bs = sumN (fun i => ws.getD i 0 * bs.getD i 0) ws.length := by
  have key : ∀ n, n ≤ ws.length → dot (ws.take n) bs = sumN (fun i => ws.getD i 0 * bs.getD i 0) n := fun n => by
    induction n with
    | zero => intro _; rfl
    | succ n ih =>
      intro hn
      rw [dot_take n ws bs (by omega) (by omega), ih (by omega)]
      rfl
  have := key ws.length (Nat.le_refl _)
  rw [List.take_length] at this
  exact this
theorem steps_told (k : Nat) (row : List Int) (p : Nat) (h1 : k ≤ p) (h2 : p < row.length) : row.getD p 0 - guessF (stepW k) 0 (row.take p) = conv1 (stepP k) row p := by
  have hr : (row.take p).length = p := by rw [List.length_take]; omega
  unfold guessF
  rw [dot_sum _ _ (by rw [stepW_len, List.length_reverse, hr]; exact h1), stepW_len, Int.pow_zero, Int.ediv_one]
  unfold conv1
  rw [stepP_len, sumN_shift, stepP_head, Int.one_mul, Nat.sub_zero]
  have e : sumN (fun i => (stepW k).getD i 0 * (row.take p).reverse.getD i 0) k = 0 - sumN (fun i => (stepP k).getD (i + 1) 0 * row.getD (p - (i + 1)) 0) k := by
    have z := sumN_sub (fun _ => 0) (fun i => (stepP k).getD (i + 1) 0 * row.getD (p - (i + 1)) 0) k
    have z0 : ∀ n, sumN (fun _ => (0 : Int)) n = 0 := fun n => by
      induction n with
      | zero => rfl
      | succ n ih => show sumN (fun _ => 0) n + 0 = 0; rw [ih]; rfl
    rw [z0] at z
    rw [← z]
    refine sumN_congr _ fun i hi => ?_
    have ew : (stepW k).getD i 0 = -(stepP k).getD (i + 1) 0 := by
      have hl := stepP_len k
      unfold stepW
      rw [List.getD_eq_getElem?_getD, List.getElem?_map, List.getElem?_drop, List.getElem?_eq_getElem (show 1 + i < (stepP k).length by omega), List.getD_eq_getElem?_getD, List.getElem?_eq_getElem (show i + 1 < (stepP k).length by omega)]
      simp [Nat.add_comm]
    have er : (row.take p).reverse.getD i 0 = row.getD (p - (i + 1)) 0 := by
      rw [List.getD_eq_getElem?_getD, List.getElem?_reverse (by omega), hr, List.getElem?_take_of_lt (by omega), show p - 1 - i = p - (i + 1) by omega, ← List.getD_eq_getElem?_getD]
    rw [ew, er, Int.neg_mul]
    omega
  rw [e]
  omega
/-- the plain rests of the guesser of an order: the differences -/
theorem steps_diffs (k : Nat) (row : List Int) : (toldR (stepW k) 0 row).drop k = diffs k row := by
  refine List.ext_getElem? fun i => ?_
  have hl := diffs_len row k
  by_cases h : i + k < row.length
  · have h1 : (diffs k row)[i]? = some ((diffs k row).getD i 0) := by
      rw [List.getD_eq_getElem?_getD, List.getElem?_eq_getElem (by omega)]
      rfl
    rw [h1, diffs_get row k i h, List.getElem?_drop]
    unfold toldR
    rw [List.getElem?_map, List.getElem?_range (by omega)]
    show some (restAt (stepW k) 0 row (k + i)) = _
    unfold restAt
    rw [stepW_len, if_neg (by omega), steps_told k row (k + i) (by omega) (by omega), Nat.add_comm k i]
  · rw [List.getElem?_eq_none (by rw [List.length_drop, toldR_len]; omega), List.getElem?_eq_none (by omega)]
end My

namespace My
/-! ### products of sums, as the program reckons them -/
def addAt (l : List Int) (k : Nat) (v : Int) : List Int := l.set k (l.getD k 0 + v)
def inF (l : List Int) (i : Nat) (x : Int) (other : List Int) : Nat → List Int
  | 0 => l
  | j + 1 => addAt (inF l i x other j) (i + j) (x * other.getD j 0)
def outF (one other : List Int) : Nat → List Int
  | 0 => List.replicate (one.length + other.length - 1) 0
  | i + 1 => inF (outF one other i) i (one.getD i 0) other other.length
theorem addAt_len (l : List Int) (k : Nat) (v : Int) : (addAt l k v).length = l.length := by
  unfold addAt
  rw [List.length_set]
theorem addAt_get (l : List Int) (k : Nat) (v : Int) (j : Nat) (h : k < l.length) : (addAt l k v).getD j 0 = l.getD j 0 + (if j = k then v else 0) := by
  unfold addAt
  by_cases e : j = k
  · rw [if_pos e, e, List.getD_eq_getElem?_getD, List.getElem?_set_self h]
    rfl
  · rw [if_neg e, List.getD_eq_getElem?_getD, List.getElem?_set_ne (fun z => e z.symm), ← List.getD_eq_getElem?_getD, Int.add_zero]
theorem inF_len (l : List Int) (i : Nat) (x : Int) (other : List Int) : ∀ j, (inF l i x other j).length = l.length
  | 0 => rfl
  | j + 1 => by
    show (addAt _ _ _).length = _
    rw [addAt_len, inF_len l i x other j]
theorem outF_len (one other : List Int) : ∀ i, (outF one other i).length = one.length + other.length - 1
  | 0 => by
    show (List.replicate _ _).length = _
    rw [List.length_replicate]
  | i + 1 => by
    show (inF _ _ _ _ _).length = _
    rw [inF_len, outF_len one other i]
theorem out_steps (ps : List Int) : ∀ i, i ≤ ps.length → ∀ k, (outF ps [1, -1] i).getD k 0 = (if k < i then ps.getD k 0 else 0) - (if 1 ≤ k ∧ k ≤ i then ps.getD (k - 1) 0 else 0)
  | 0, _, k => by
    show (List.replicate _ (0 : Int)).getD k 0 = _
    rw [if_neg (by omega), if_neg (by omega), List.getD_eq_getElem?_getD, List.getElem?_replicate]
    split <;> rfl
  | i + 1, h, k => by
    have hl := outF_len ps [1, -1] i
    simp only [List.length_cons, List.length_nil] at hl
    show (addAt (addAt (outF ps [1, -1] i) (i + 0) (ps.getD i 0 * 1)) (i + 1) (ps.getD i 0 * -1)).getD k 0 = _
    rw [addAt_get _ _ _ _ (by rw [addAt_len]; omega), addAt_get _ _ _ _ (by omega), out_steps ps i (by omega) k]
    by_cases e1 : k = i
    · subst e1
      rw [if_neg (show ¬ k < k by omega), if_pos (show k = k + 0 by omega), if_neg (show ¬ k = k + 1 by omega), if_pos (show k < k + 1 by omega)]
      by_cases e2 : 1 ≤ k
      · rw [if_pos ⟨e2, Nat.le_refl _⟩, if_pos ⟨e2, by omega⟩]; omega
      · rw [if_neg (by omega), if_neg (by omega)]; omega
    · by_cases e2 : k = i + 1
      · subst e2
        rw [if_neg (by omega), if_neg (by omega), if_neg (by omega), if_pos rfl, if_neg (by omega), if_pos (by omega), Nat.add_sub_cancel]
        omega
      · rw [if_neg (show ¬ k = i + 0 by omega), if_neg e2]
        by_cases e3 : k < i
        · rw [if_pos e3, if_pos (show k < i + 1 by omega)]
          by_cases e4 : 1 ≤ k
          · rw [if_pos ⟨e4, by omega⟩, if_pos ⟨e4, by omega⟩]; omega
          · rw [if_neg (by omega), if_neg (by omega)]; omega
        · rw [if_neg e3, if_neg (show ¬ k < i + 1 by omega), if_neg (by omega), if_neg (by omega)]; omega
theorem ext_getD {xs ys : List Int} (hl : xs.length = ys.length) (h : ∀ k, k < ys.length → xs.getD k 0 = ys.getD k 0) : xs = ys := by
  refine List.ext_getElem hl fun k h1 h2 => ?_
  have e := h k h2
  rw [List.getD_eq_getElem?_getD, List.getD_eq_getElem?_getD, List.getElem?_eq_getElem h1, List.getElem?_eq_getElem h2] at e
  exact e
theorem out_mulD (ps : List Int) : outF ps [1, -1] ps.length = mulD ps := by
  refine ext_getD (by rw [outF_len, mulD_len]; simp) fun k hk => ?_
  rw [mulD_len] at hk
  rw [out_steps ps _ (Nat.le_refl _) k, mulD_get ps k hk]
  have e1 : (if k < ps.length then ps.getD k 0 else 0) = ps.getD k 0 := by
    by_cases h : k < ps.length
    · rw [if_pos h]
    · rw [if_neg h, getD_over ps k (by omega)]
  rw [e1]
  by_cases e : k = 0
  · rw [if_pos e, if_neg (show ¬ (1 ≤ k ∧ k ≤ ps.length) by omega)]
  · rw [if_neg e, if_pos (show 1 ≤ k ∧ k ≤ ps.length by omega)]
end My

namespace My
open PySem PySem.Spec PyProof.Rows L2 Pre
section
variable {P : Program} {w : World} {K : PySem.W.Frag} {mg : Str → Option Value} {base : Heap}
/-! ### the guesser's own words -/
def sp_Guesser_weights (C : Addr) : Sp := fun vs H Q _ => ∃ (a : Addr) (ws : List Int) (sh : Nat), vs = [.ref a] ∧ GuesserAt C H a ws sh ∧ ∀ p H', H p = none → Same H H' → H' p = some (.lst (ws.map V.int)) → Q (.ref p) H'
theorem G_Guesser_weights (T : Top K mg) : FnOk P w K mg base CX0 1 T.f_Guesser_weights T.fd_Guesser_weights ["self"] (sp_Guesser_weights T.C_Guesser) := by
  refine T.F_Guesser_weights.ok sc_Guesser_weights (fun vs H Q E h => by obtain ⟨a, ws, sh, rfl, _⟩ := h; rfl) (fun cdv A outer s H vs Q E hr h => ?_)
  obtain ⟨a, ws, sh, rfl, hG, q⟩ := h
  refine ⟨_, PSs.nox (pss_one (ps_ret (pe_callTy (k_listOf K rfl) (by rfl) T.n_list (by decide +kernel) (pa_cons (pe_fld (pv 0) rfl) pa_nil)))), ?_⟩
  obtain ⟨hW, _, dx, p, ha, hp⟩ := id hG
  refine ⟨_, rfl, a, T.C_Guesser, dx, _, _, rfl, ha, T.cl_Guesser, T.na_Guesser_parts, rfl, p, _, rfl, .inl (.inl (.inl hp)), fun l nl => ?_⟩
  exact q l _ nl (same_upd nl) upd_same
def sp_Guesser_shift (C : Addr) : Sp := fun vs H Q _ => ∃ (a : Addr) (ws : List Int) (sh : Nat), vs = [.ref a] ∧ GuesserAt C H a ws sh ∧ Q (.int sh) H
theorem G_Guesser_shift (T : Top K mg) : FnOk P w K mg base CX0 1 T.f_Guesser_shift T.fd_Guesser_shift ["self"] (sp_Guesser_shift T.C_Guesser) := by
  refine T.F_Guesser_shift.ok sc_Guesser_shift (fun vs H Q E h => by obtain ⟨a, ws, sh, rfl, _⟩ := h; rfl) (fun cdv A outer s H vs Q E hr h => ?_)
  obtain ⟨a, ws, sh, rfl, hG, q⟩ := h
  refine ⟨_, PSs.nox (pss_one (ps_ret (pe_fld (pv 0) rfl))), ?_⟩
  obtain ⟨hW, _, dx, p, ha, hp⟩ := id hG
  exact ⟨_, rfl, a, T.C_Guesser, dx, _, _, rfl, ha, T.cl_Guesser, T.na_Guesser_down, rfl, q⟩
def sp_Guesser_order (C : Addr) : Sp := fun vs H Q _ => ∃ (a : Addr) (ws : List Int) (sh : Nat), vs = [.ref a] ∧ GuesserAt C H a ws sh ∧ Q (.int ws.length) H
theorem G_Guesser_order (T : Top K mg) : FnOk P w K mg base CX0 1 T.f_Guesser_order T.fd_Guesser_order ["self"] (sp_Guesser_order T.C_Guesser) := by
  refine T.F_Guesser_order.ok sc_Guesser_order (fun vs H Q E h => by obtain ⟨a, ws, sh, rfl, _⟩ := h; rfl) (fun cdv A outer s H vs Q E hr h => ?_)
  obtain ⟨a, ws, sh, rfl, hG, q⟩ := h
  refine ⟨_, PSs.nox (pss_one (ps_ret (pe_callB (k_len K rfl) (by rfl) T.n_len (by decide +kernel) (pa_cons (pe_fld (pv 0) rfl) pa_nil)))), ?_⟩
  obtain ⟨hW, _, dx, p, ha, hp⟩ := id hG
  refine ⟨_, rfl, a, T.C_Guesser, dx, _, _, rfl, ha, T.cl_Guesser, T.na_Guesser_parts, rfl, p, _, rfl, .inl (.inl (.inl hp)), ?_⟩
  rw [List.length_map]
  exact q
/-- == of two guessers, or of a guesser and a list -/
def sp_Guesser___eq__ (C : Addr) (K : PySem.W.Frag) : Sp := fun vs H Q _ => ∃ (a b : Addr) (ws : List Int) (sh : Nat) (c : Bool), vs = [.ref a, .ref b] ∧ GuesserAt C H a ws sh ∧
  ((∃ (us : List Int) (th : Nat), GuesserAt C H b us th ∧ c = decide (ws = us ∧ sh = th)) ∨ (c = false ∧ ∃ xs, Rd H b (.lst xs))) ∧ Q (.bl c) H
theorem G_Guesser___eq__ (T : Top K mg) : FnOk P w K mg base CX0 1 T.f_Guesser___eq__ T.fd_Guesser___eq__ ["self", "other"] (sp_Guesser___eq__ T.C_Guesser K) := by
  refine T.F_Guesser___eq__.ok sc_Guesser___eq__ (fun vs H Q E h => by obtain ⟨a, b, ws, sh, c, rfl, _⟩ := h; rfl) (fun cdv A outer s H vs Q E hr h => ?_)
  obtain ⟨a, b, ws, sh, c, rfl, hG, hb, q⟩ := h
  refine ⟨_, PSs.nox (pss_cons (ps_if (pt_not (pt_val (pe_callB (k_isi K rfl) (by rfl) T.n_isinstance (by decide +kernel) (pa_cons (pv 1) (pa_cons (pe_glob (v := .ref T.C_Guesser) rfl T.gc_Guesser rfl) pa_nil)))))
    (pss_one (ps_ret pe_bl))
    pss_nil)
  (pss_one (ps_ret (pe_and (pe_cmpR (k_eqD K rfl hr.units) (pe_fld (pv 0) rfl) (pe_fld (pv 1) rfl) (nomark _)) (pe_one (pe_cmpR op_eq (pe_fld (pv 0) rfl) (pe_fld (pv 1) rfl) (nomark _))))))), ?_⟩
  obtain ⟨hW, _, dx, p, ha, hp⟩ := id hG
  rcases hb with ⟨us, th, hB, rfl⟩ | ⟨rfl, xs, hB⟩
  · obtain ⟨hW2, _, dy, p2, hb, hp2⟩ := id hB
    refine ⟨_, rfl, _, _, _, _, true, rfl, .own _, tyx_ins T.ic_Guesser hb, T.ic_Guesser.me, true, rfl, iteF ?_⟩
    refine ⟨_, rfl, a, T.C_Guesser, dx, _, _, rfl, ha, T.cl_Guesser, T.na_Guesser_parts, rfl, _, rfl, b, T.C_Guesser, dy, _, _, rfl, hb, T.cl_Guesser, T.na_Guesser_parts, rfl, ?_⟩
    refine eqD_lst (.inl (.inl hp)) (.inl (.inl hp2)) ⟨_, rfl, ?_⟩
    by_cases h : ws = us
    · rw [decide_eq_true h]
      refine iteT ⟨_, rfl, a, T.C_Guesser, dx, _, _, rfl, ha, T.cl_Guesser, T.na_Guesser_down, rfl, _, rfl, b, T.C_Guesser, dy, _, _, rfl, hb, T.cl_Guesser, T.na_Guesser_down, rfl, rfl, ?_⟩
      by_cases h2 : sh = th
      · rw [decide_eq_true (show V.int (sh : Int) = V.int th by rw [h2])]
        rw [decide_eq_true ⟨h, h2⟩] at q
        exact q
      · rw [decide_eq_false (show ¬ V.int (sh : Int) = V.int th from fun z => h2 (by have := V.int.inj z; omega))]
        rw [decide_eq_false (fun z => h2 z.2)] at q
        exact q
    · rw [decide_eq_false h]
      rw [decide_eq_false (fun z => h z.1)] at q
      exact iteF q
  · exact ⟨_, rfl, _, _, _, _, false, rfl, .own _, rd_list hB, T.ec_Guesser.ki, false, rfl, iteT q⟩
/-! ### are_wholes, guess, plain_rests -/
def sp_are_wholes (K : PySem.W.Frag) : Sp := fun vs H Q _ => ∃ (a : Addr) (ns : List Int), vs = [.ref a] ∧ Rd H a (.lst (ns.map V.int)) ∧ ns.length ≤ 1000 ∧ ∀ H', Same H H' → Q (.bl true) H'
theorem G_are_wholes (T : Top K mg) : FnOk P w K mg base CX0 2 T.f_are_wholes T.fd_are_wholes ["value"] (sp_are_wholes K) := by
  refine T.F_are_wholes.ok sc_are_wholes (fun vs H Q E h => by obtain ⟨a, ns, rfl, _⟩ := h; rfl) (fun cdv A outer s H vs Q E hr h => ?_)
  obtain ⟨a, ns, rfl, hA, hl, q⟩ := h
  refine ⟨_, PSs.nox (pss_one (ps_ret (pe_and (pe_callB (k_isi K rfl) (by rfl) T.n_isinstance (by decide +kernel) (pa_cons (pv 0) (pa_cons (pe_bltn (v := .ty "list") (by rfl) T.n_list (by decide +kernel) rfl) pa_nil))) (pe_one (pe_cmpR (k_eqD K rfl hr.units) (pe_lc (own := [("item", 1)]) (g := gName 1) (by rfl) sc_are_wholes.nd (k_piL K rfl (pv 0)) (blkOk_by (own := [("item", 1)]) (N := N_are_wholes) (sc := defScope s_are_wholes) (by decide +kernel)) (fun _ _ _ _ _ => (pg_name (i := 1) sc_are_wholes.nd rfl (by first | exact Or.inl rfl | exact Or.inr rfl))) (fun _ _ _ _ _ => (pts_one (pt_not (pt_val (pe_call (G_is_whole T) (hr.mono (by decide)) (by rfl) T.g_is_whole T.F_is_whole.kp T.b_is_whole .nil pass0 (pa_cons (pv 1) pa_nil)))))) (fun _ _ _ _ _ => (pv 1))) (pe_lst pa_nil) (nomark _)))))), ?_⟩
  have hS : SqL K H a (ns.map V.int) := .inl hA
  refine ⟨_, rfl, _, _, _, _, true, rfl, .ty _, rd_list hA, kit_ty (by decide +kernel), true, rfl, iteT ?_⟩
  refine ⟨_, rfl, a, rfl, ⟨_, hS⟩, fun D nD => ?_⟩
  refine lc_selL (K := K) (xs := ns.map V.int) (ns.map fun _ => none) nD hS (by rw [List.length_map, List.length_map]) (small_row hl) (fun x => rfl) ?_ ?_
  · intro i x o H' hx ho s Qt qt
    obtain ⟨n, hn, rfl⟩ := int_at hx
    rw [List.getElem?_map, hn] at ho
    cases ho
    exact ⟨_, rfl, n, rfl, true, rfl, iteF (qt _ (Same.refl _))⟩
  · intro H' s hD
    rw [fm_none] at hD
    refine ⟨Nat.zero_le _, fun p np => ?_⟩
    refine eq_lst (ns := []) (.inl (.inl (same_upd np _ _ hD))) (.inl (.inl upd_same)) ?_
    exact q _ (s.trans (same_upd np))
def sp_guess (C : Addr) (K : PySem.W.Frag) : Sp := fun vs H Q _ => ∃ (a b : Addr) (ws : List Int) (sh : Nat) (bs : List Int), vs = [.ref a, .ref b] ∧ GuesserAt C H a ws sh ∧ Rd H b (.lst (bs.map V.int)) ∧ bs.length ≤ 1000 ∧ ws.length ≤ bs.length ∧ ∀ H', Same H H' → Q (.int (guessF ws sh bs)) H'
theorem G_guess (T : Top K mg) : FnOk P w K mg base CX0 3 T.f_guess T.fd_guess ["guesser", "before"] (sp_guess T.C_Guesser K) := by
  refine T.F_guess.ok sc_guess (fun vs H Q E h => by obtain ⟨a, b, ws, sh, bs, rfl, _⟩ := h; rfl) (fun cdv A outer s H vs Q E hr h => ?_)
  obtain ⟨a, b, ws, sh, bs, rfl, hG, hB, hl, hw, q⟩ := h
  refine ⟨_, PSs.nox (pss_cons (ps_expr (pe_call (G_check_guesser T) (hr.mono (by decide)) (by rfl) T.g_check_guesser T.F_check_guesser.kp T.b_check_guesser .nil pass0 (pa_cons (pv 0) pa_nil)))
  (pss_cons (ps_if (PW.pt (pw_or (pt_not (pt_val (pe_call (G_are_wholes T) (hr.mono (by decide)) (by rfl) T.g_are_wholes T.F_are_wholes.kp T.b_are_wholes .nil pass0 (pa_cons (pv 1) pa_nil)))) (pw_or1 (pt_cmpR op_lt (pe_callB (k_len K rfl) (by rfl) T.n_len (by decide +kernel) (pa_cons (pv 1) pa_nil)) (pe_callB (k_len K rfl) (by rfl) T.n_len (by decide +kernel) (pa_cons (pe_fld (pv 0) rfl) pa_nil)) (nomark _)))))
    (pss_one ps_never)
    pss_nil)
  (pss_one (ps_ret (pe_call (G_guess_behind T) (hr.mono (by decide)) (by rfl) T.g_guess_behind T.F_guess_behind.kp T.b_guess_behind .nil pass0 (pa_cons (pv 0) (pa_cons (pv 1) pa_nil))))))), ?_⟩
  obtain ⟨hW, _, dx, p, ha, hp⟩ := id hG
  refine ⟨_, rfl, a, ws, sh, rfl, hG, ?_⟩
  refine ⟨_, rfl, b, bs, rfl, hB, hl, fun H1 s1 => ⟨true, rfl, iteF ?_⟩⟩
  have hB1 : SqL K H1 b (bs.map V.int) := s1.seq (.inl hB)
  refine ⟨_, rfl, b, _, rfl, .inl hB1, _, rfl, a, T.C_Guesser, dx, _, _, rfl, s1 _ _ ha, T.cl_Guesser, T.na_Guesser_parts, rfl, p, _, rfl, .inl (.inl (.inl (s1 _ _ hp))), _, _, rfl, rfl, _, rfl, ?_⟩
  rw [List.length_map, List.length_map, decide_eq_false (show ¬ (bs.length : Int) < ws.length by omega)]
  refine iteF ⟨_, rfl, _, rfl, a, b, ws, sh, bs, rfl, hG.same s1, hB1, hw, fun H2 s2 => q _ (s1.trans s2)⟩
def sp_plain_rests (C : Addr) (K : PySem.W.Frag) : Sp := fun vs H Q _ => ∃ (a b : Addr) (ws : List Int) (sh : Nat) (row : List Int), vs = [.ref a, .ref b] ∧ GuesserAt C H a ws sh ∧ Rd H b (.lst (row.map V.int)) ∧ row.length ≤ 1000 ∧
  ∀ H' p, Same H H' → H p = none → H' p = some (.lst ((toldR ws sh row).map V.int)) → Q (.ref p) H'
theorem G_plain_rests (T : Top K mg) : FnOk P w K mg base CX0 4 T.f_plain_rests T.fd_plain_rests ["guesser", "row"] (sp_plain_rests T.C_Guesser K) := by
  refine T.F_plain_rests.ok sc_plain_rests (fun vs H Q E h => by obtain ⟨a, b, ws, sh, row, rfl, _⟩ := h; rfl) (fun cdv A outer s H vs Q E hr h => ?_)
  obtain ⟨a, b, ws, sh, row, rfl, hG, hB, hl, q⟩ := h
  refine ⟨_, PSs.nox (pss_cons (ps_expr (pe_call (G_check_guesser T) (hr.mono (by decide)) (by rfl) T.g_check_guesser T.F_check_guesser.kp T.b_check_guesser .nil pass0 (pa_cons (pv 0) pa_nil)))
  (pss_cons (ps_if (pt_not (pt_val (pe_call (G_are_wholes T) (hr.mono (by decide)) (by rfl) T.g_are_wholes T.F_are_wholes.kp T.b_are_wholes .nil pass0 (pa_cons (pv 1) pa_nil))))
    (pss_one ps_never)
    pss_nil)
  (pss_one (ps_ret (pe_call (G_told_rests T) (hr.mono (by decide)) (by rfl) T.g_told_rests T.F_told_rests.kp T.b_told_rests .nil pass0 (pa_cons (pv 0) (pa_cons (pv 1) pa_nil))))))), ?_⟩
  refine ⟨_, rfl, a, ws, sh, rfl, hG, ?_⟩
  refine ⟨_, rfl, b, row, rfl, hB, hl, fun H1 s1 => ⟨true, rfl, iteF ?_⟩⟩
  exact ⟨_, rfl, _, rfl, a, b, ws, sh, row, rfl, hG.same s1, s1.seq (.inl hB), hl, fun H2 p s2 np hp => q _ p (s1.trans s2) (s1.free np) hp⟩
end
end My

namespace My
open PySem PySem.Spec PyProof.Rows L2 Pre
theorem map_set (l : List Int) (k : Nat) (v : Int) : (l.map V.int).set k (.int v) = (l.set k v).map V.int := by rw [List.map_set]
theorem at_ints {l : List Int} {k : Nat} (h : k < l.length) : atI (l.map V.int) (k : Int) = some (.int (l.getD k 0)) := by
  refine at_of (j := k) (by omega) ?_
  rw [List.getElem?_map, List.getElem?_eq_getElem h, getD_of h]
  rfl
theorem ix_ints {l : List Int} {k : Nat} (h : k < l.length) : ixN (l.map V.int).length (k : Int) = some k := by
  rw [List.length_map]
  unfold ixN
  rw [if_pos (by omega), Int.toNat_natCast, if_pos (by omega)]
theorem back_at (ws : List Int) (sh d : Nat) : ∀ (rs pre : List Int) (k : Nat), k < rs.length → (backGo ws sh d pre rs).getD k 0 = wrapI (rs.getD k 0 + told0 ws sh (pre ++ (backGo ws sh d pre rs).take k)) d
  | [], _, k, h => absurd h (by simp)
  | r :: rs, pre, 0, _ => by
    show wrapI (r + told0 ws sh pre) d = wrapI (r + told0 ws sh (pre ++ [])) d
    rw [List.append_nil]
  | r :: rs, pre, k + 1, h => by
    have ih := back_at ws sh d rs (pre ++ [wrapI (r + told0 ws sh pre) d]) k (by simpa using h)
    show (backGo ws sh d _ rs).getD k 0 = wrapI (rs.getD k 0 + told0 ws sh (pre ++ (wrapI (r + told0 ws sh pre) d :: (backGo ws sh d _ rs).take k))) d
    rw [ih, List.append_assoc]
    rfl
theorem back_firsts (ws : List Int) (sh d : Nat) (rs : List Int) (hs : Samples d rs) : ∀ k, k ≤ ws.length → (backGo ws sh d [] rs).take k = rs.take k
  | 0, _ => rfl
  | k + 1, h => by
    have hb := back_len ws sh d rs []
    by_cases hk : k < rs.length
    · have e := back_at ws sh d rs [] k hk
      rw [List.nil_append] at e
      have e0 : told0 ws sh ((backGo ws sh d [] rs).take k) = 0 := by
        unfold told0
        rw [if_pos (by rw [List.length_take]; omega)]
      have hm := hs _ (List.getElem_mem hk)
      rw [e0, Int.add_zero, getD_of hk, wrap_id hm.1 hm.2] at e
      rw [List.take_add_one, List.take_add_one, back_firsts ws sh d rs hs k (by omega), List.getElem?_eq_getElem hk, List.getElem?_eq_getElem (by omega), ← getD_of (by omega), e]
    · rw [List.take_of_length_le (by omega), List.take_of_length_le (by omega)]
      have := back_firsts ws sh d rs hs k (by omega)
      rw [List.take_of_length_le (by omega), List.take_of_length_le (by omega)] at this
      exact this
section
variable {P : Program} {w : World} {K : PySem.W.Frag} {mg : Str → Option Value} {base : Heap}
def sp_times_sum (K : PySem.W.Frag) : Sp := fun vs H Q _ => ∃ (a b : Addr) (xs ys : List Int), vs = [.ref a, .ref b] ∧ SqL K H a (xs.map V.int) ∧ SqL K H b (ys.map V.int) ∧ xs.length ≤ 100 ∧ ys.length ≤ 100 ∧ 1 ≤ xs.length ∧ (∀ n ∈ ys, -(2 ^ 60) < n ∧ n < 2 ^ 60) ∧
  ∀ p H', H p = none → Same H H' → H' p = some (.lst ((outF xs ys xs.length).map V.int)) → Q (.ref p) H'
theorem G_times_sum (T : Top K mg) : FnOk P w K mg base CX0 1 T.f_times_sum T.fd_times_sum ["one", "other"] (sp_times_sum K) := by
  refine T.F_times_sum.ok sc_times_sum (fun vs H Q E h => by obtain ⟨a, b, xs, ys, rfl, _⟩ := h; rfl) (fun cdv A outer s H vs Q E hr h => ?_)
  obtain ⟨a, b, xs, ys, rfl, hA, hB, hx, hy, hx1, hs, q⟩ := h
  refine ⟨_, PSs.nox (pss_cons (ps_set (i := 2) sc_times_sum.nd rfl (by first | exact Or.inl rfl | exact Or.inr rfl) (pe_op op_rep (pe_lst (pa_cons pe_int pa_nil)) (pe_op op_sub (pe_op op_add (pe_callB (k_len K rfl) (by rfl) T.n_len (by decide +kernel) (pa_cons (pv 0) pa_nil)) (pe_callB (k_len K rfl) (by rfl) T.n_len (by decide +kernel) (pa_cons (pv 1) pa_nil))) pe_int)))
  (pss_cons (ps_for PassesOwn.never rfl (k_piE K rfl (by rfl) T.n_enumerate (pa_cons (pv 0) pa_nil)) (k_pgT K rfl (by rfl) (pgs_cons (pg_name (i := 3) sc_times_sum.nd rfl (by first | exact Or.inl rfl | exact Or.inr rfl)) (pgs_cons (pg_name (i := 4) sc_times_sum.nd rfl (by first | exact Or.inl rfl | exact Or.inr rfl)) pgs_nil)))
    (pss_one (ps_for PassesOwn.never rfl (k_piE K rfl (by rfl) T.n_enumerate (pa_cons (pv 1) pa_nil)) (k_pgT K rfl (by rfl) (pgs_cons (pg_name (i := 5) sc_times_sum.nd rfl (by first | exact Or.inl rfl | exact Or.inr rfl)) (pgs_cons (pg_name (i := 6) sc_times_sum.nd rfl (by first | exact Or.inl rfl | exact Or.inr rfl)) pgs_nil)))
    (pss_one (ps_asg (pe_op op_add (pe_ix (k_ixL K rfl) (pv 2) (pe_op op_add (pv 3) (pv 5)) (fun _ _ => rfl)) (pe_op op_mul (pv 4) (pv 6))) (pg_sub (pv 2) (pe_op op_add (pv 3) (pv 5)) set_list))))))
  (pss_one (ps_ret (pv 2))))), ?_⟩
  refine ⟨(show 1 ≤ sizeLine by decide), fun l nl => ?_⟩
  obtain ⟨H1, e1, s1, h1⟩ := fresh (.lst [V.int 0]) nl
  rw [e1]
  refine ⟨_, rfl, a, _, rfl, .inl (s1.seq hA), _, rfl, b, _, rfl, .inl (s1.seq hB), _, _, rfl, rfl, _, _, rfl, rfl, ?_⟩
  have en : ((xs.map V.int).length : Int) + ((ys.map V.int).length : Int) - 1 = ((xs.length + ys.length - 1 : Nat) : Int) := by rw [List.length_map, List.length_map]; omega
  dsimp only
  rw [en]
  refine ⟨l, _, _, rfl, rfl, h1, by omega, by omega, ?_, fun f nf => ?_⟩
  · rw [Int.toNat_natCast]
    show 1 * _ ≤ sizeLine
    rw [sizeLine_eq]
    omega
  rw [Int.toNat_natCast]
  have e0 : (List.replicate (xs.length + ys.length - 1) [V.int 0]).flatten = (outF xs ys 0).map V.int := by
    have := rep_ints (xs.length + ys.length - 1) [0]
    rw [show [V.int 0] = [(0 : Int)].map V.int from rfl, this]
    congr 1
    show _ = List.replicate _ 0
    induction xs.length + ys.length - 1 with
    | zero => rfl
    | succ n ih => rw [List.replicate_succ, List.flatten_cons, ih, List.replicate_succ]; rfl
  rw [e0]
  obtain ⟨H2, e2, s2, h2⟩ := fresh (.lst ((outF xs ys 0).map V.int)) nf
  rw [e2]
  have s12 := s1.trans s2
  have nHf : H f = none := s1.free nf
  refine ⟨_, rfl, a, _, rfl, s12.seq hA, ?_⟩
  refine for_it (walk_enum (K := K) (a := a) (xs := xs.map V.int)) (fun i σ H3 => ∃ v3 v4 v5 v6, σ = [some (.ref a), some (.ref b), some (.ref f), v3, v4, v5, v6] ∧ Same H H3 ∧ H3 f = some (.lst ((outF xs ys i).map V.int))) ⟨none, none, none, none, rfl, s12, h2⟩ (fun i σ H3 _ ⟨_, _, _, _, _, s, _⟩ => s.seq hA) ?_ ?_
  · rintro i x σ H3 H4 hi ⟨v3, v4, v5, v6, rfl, s3, hf3⟩ ⟨t, y, z, rfl, nt, rfl, ey, ez⟩
    cases ey
    obtain ⟨n, hn, rfl⟩ := int_at ez
    rw [List.length_map] at hi
    have s4 : Same H3 (upd H3 t (.tup [.int (i : Nat), .int n])) := same_upd nt
    have en : n = xs.getD i 0 := by rw [List.getD_eq_getElem?_getD, hn]; rfl
    refine ⟨t, _, rfl, .inl (.inl upd_same), rfl, _, _, rfl, _, _, rfl, rfl, ?_⟩
    have hf4 := s4 _ _ hf3
    generalize upd H3 t (.tup [.int (i : Nat), .int n]) = H4 at s4 hf4
    have s04 := s3.trans s4
    refine ⟨_, rfl, b, _, rfl, s04.seq hB, ?_⟩
    refine for_it (walk_enum (K := K) (a := b) (xs := ys.map V.int)) (fun j σ H5 => ∃ v5 v6, σ = [some (.ref a), some (.ref b), some (.ref f), some (.int (i : Nat)), some (.int n), v5, v6] ∧ Same H H5 ∧ H5 f = some (.lst ((inF (outF xs ys i) i (xs.getD i 0) ys j).map V.int))) ⟨_, _, rfl, s04, hf4⟩ (fun i σ H3 _ ⟨_, _, _, s, _⟩ => s.seq hB) ?_ ?_
    · rintro j x σ H5 H6 hj ⟨v5, v6, rfl, s5, hf5⟩ ⟨t2, y2, z2, rfl, nt2, rfl, ey, ez⟩
      cases ey
      obtain ⟨m, hm, rfl⟩ := int_at ez
      rw [List.length_map] at hj
      have s6 : Same H5 (upd H5 t2 (.tup [.int (j : Nat), .int m])) := same_upd nt2
      have em : m = ys.getD j 0 := by rw [List.getD_eq_getElem?_getD, hm]; rfl
      have hmb := hs m (List.mem_of_getElem? hm)
      refine ⟨t2, _, rfl, .inl (.inl upd_same), rfl, _, _, rfl, _, _, rfl, rfl, ?_⟩
      have hf6 := s6 _ _ hf5
      generalize upd H5 t2 (.tup [.int (j : Nat), .int m]) = H6 at s6 hf6
      have hlen : i + j < (inF (outF xs ys i) i (xs.getD i 0) ys j).length := by rw [inF_len, outF_len]; omega
      refine ⟨_, rfl, _, rfl, _, rfl, _, _, rfl, rfl, f, _, _, _, rfl, rfl, .inl (.inl hf6), at_ints (k := i + j) hlen, _, rfl, _, rfl, _, _, rfl, rfl, ?_, _, _, rfl, rfl, ?_⟩
      · exact .inr ⟨by omega, by omega⟩
      refine ⟨_, rfl, _, rfl, _, rfl, _, _, rfl, rfl, f, _, _, i + j, rfl, rfl, hf6, ix_ints (k := i + j) hlen, ?_⟩
      refine ⟨some (.int (j : Nat)), some (.int m), rfl, ?_, ?_⟩
      · exact same_over nHf (s5.trans s6)
      · rw [upd_same]
        show some (HO.lst (((inF (outF xs ys i) i (xs.getD i 0) ys j).map V.int).set (i + j) (.int _))) = some (HO.lst ((addAt (inF (outF xs ys i) i (xs.getD i 0) ys j) (i + j) (xs.getD i 0 * ys.getD j 0)).map V.int))
        rw [map_set, en, em]
        rfl
    · rintro σ H5 ⟨v5, v6, rfl, s5, hf5⟩
      rw [List.length_map] at hf5
      exact ⟨_, _, _, _, rfl, s5, hf5⟩
  · rintro σ H3 ⟨v3, v4, v5, v6, rfl, s3, hf3⟩
    rw [List.length_map] at hf3
    exact ⟨_, rfl, q f _ nHf s3 hf3⟩
def sp_steps (C : Addr) : Sp := fun vs H Q _ => ∃ k : Nat, vs = [.int k] ∧ k ≤ 8 ∧ ∀ a H', Same H H' → GuesserAt C H' a (stepW k) 0 → Q (.ref a) H'
theorem G_steps (T : Top K mg) : FnOk P w K mg base CX0 5 T.f_steps T.fd_steps ["order"] (sp_steps T.C_Guesser) := by
  refine T.F_steps.ok sc_steps (fun vs H Q E h => by obtain ⟨k, rfl, _⟩ := h; rfl) (fun cdv A outer s H vs Q E hr h => ?_)
  obtain ⟨k, rfl, hk, q⟩ := h
  refine ⟨_, PSs.nox (pss_cons (ps_if (pt_not (pt_val (pe_call (G_is_between T) (hr.mono (by decide)) (by rfl) T.g_is_between T.F_is_between.kp T.b_is_between .nil pass0 (pa_cons (pv 0) (pa_cons pe_int (pa_cons (pe_glob (v := .int 8) rfl T.m_MOST_ORDER ⟨_, rfl⟩) pa_nil))))))
    (pss_one ps_never)
    pss_nil)
  (pss_cons (ps_set (i := 1) sc_steps.nd rfl (by first | exact Or.inl rfl | exact Or.inr rfl) (pe_lst (pa_cons pe_int pa_nil)))
  (pss_cons (ps_for PassesOwn.never rfl (pi_range1 (by rfl) T.n_range (pa_cons (pv 0) pa_nil)) (pg_name (i := 2) sc_steps.nd rfl (by first | exact Or.inl rfl | exact Or.inr rfl))
    (pss_one (ps_set (i := 1) sc_steps.nd rfl (by first | exact Or.inl rfl | exact Or.inr rfl) (pe_call (G_times_sum T) (hr.mono (by decide)) (by rfl) T.g_times_sum T.F_times_sum.kp T.b_times_sum .nil pass0 (pa_cons (pv 1) (pa_cons (pe_lst (pa_cons pe_int (pa_cons (pe_un un_neg pe_int) pa_nil))) pa_nil))))))
  (pss_one (ps_ret (pe_make T.mk_Guesser (G_Guesser___init__ T) (hr.mono (by decide)) (by rfl) T.gc_Guesser T.b_Guesser___init__ .nil pass0 (pa_cons (pe_lc (own := [("item", 3)]) (g := gName 3) (tt := tYes) (by rfl) sc_steps.nd (k_piL K rfl (pe_slice (k_slL K rfl) (pv 1) (po_some pe_int) po_none)) (blkOk_by (own := [("item", 3)]) (N := N_steps) (sc := defScope s_steps) (by decide +kernel)) (fun _ _ _ _ _ => (pg_name (i := 3) sc_steps.nd rfl (by first | exact Or.inl rfl | exact Or.inr rfl))) (fun _ _ _ _ _ => pts_nil) (fun _ _ _ _ _ => (pe_un un_neg (pv 3)))) (pa_cons pe_int pa_nil)))))))), ?_⟩
  refine ⟨_, rfl, (k : Int), 0, some 8, rfl, _, rfl, ?_⟩
  rw [decide_eq_true ⟨by omega, fun j h => by cases h; omega⟩]
  refine iteF ⟨(show 1 ≤ sizeLine by decide), fun p np => ?_⟩
  obtain ⟨H1, e1, s1, h1⟩ := fresh (.lst [V.int 1]) np
  rw [e1]
  refine ⟨_, rfl, _, rfl, by omega, by omega, ?_⟩
  rw [Int.toNat_natCast]
  refine for_range (lo := 0) (n := k) (fun i σ H2 => ∃ (p : Addr) (v2 v3 : Option V), σ = [some (.int k), some (.ref p), v2, v3] ∧ Same H H2 ∧ H2 p = some (.lst ((stepP i).map V.int))) ⟨p, none, none, rfl, s1, h1⟩ ?_ ?_
  · rintro i σ H2 hi ⟨p2, v2, v3, rfl, s2, h2⟩
    refine ⟨_, rfl, _, rfl, (show 2 ≤ sizeLine by decide), fun c nc => ?_⟩
    obtain ⟨H3, e3, s3, h3⟩ := fresh (.lst ([1, -1].map V.int)) nc
    rw [show upd H2 c (.lst [V.int 1, V.int (-1)]) = H3 from e3]
    refine ⟨p2, c, stepP i, [1, -1], rfl, .inl (.inl (s3 _ _ h2)), .inl (.inl h3), by rw [stepP_len]; omega, by decide, by rw [stepP_len]; omega, by decide, fun p4 H4 np4 s4 h4 => ?_⟩
    refine ⟨p4, _, _, rfl, (s2.trans s3).trans s4, ?_⟩
    rw [h4, out_mulD]
    rfl
  · rintro σ H2 ⟨p2, v2, v3, rfl, s2, h2⟩
    have hl := stepP_len k
    refine ⟨_, rfl, _, rfl, p2, _, rfl, .inl (.inl h2), fun c nc => ?_⟩
    rw [show (some (1 : Int)) = some ((1 : Nat) : Int) from rfl, cut_drop, ← List.map_drop]
    obtain ⟨H3, e3, s3, h3⟩ := fresh (.lst (((stepP k).drop 1).map V.int)) nc
    rw [e3]
    have hC : SqL K H3 c (((stepP k).drop 1).map V.int) := .inl (.inl h3)
    refine ⟨c, rfl, ⟨_, hC⟩, fun D nD => ?_⟩
    refine lc_mapL (K := K) (xs := ((stepP k).drop 1).map V.int) ((stepW k).map V.int) nD hC (by rw [List.length_map, List.length_map, stepW_len, List.length_drop]; omega) (by rw [List.length_map, List.length_drop]; exact small1000 (by omega)) (fun x => rfl) ?_ ?_
    · intro i x y H' hx hy s Qt qt
      obtain ⟨n, hn, rfl⟩ := int_at hx
      unfold stepW at hy
      rw [List.getElem?_map, List.getElem?_map, hn] at hy
      cases hy
      exact ⟨_, rfl, _, rfl, qt _ (Same.refl _)⟩
    · intro H4 s4 hD
      intro x dx nx ndx nex
      have hW : Weights (stepW k) := by
        refine ⟨by rw [stepW_len]; exact hk, fun n hn => ?_⟩
        obtain ⟨m, hm, rfl⟩ := List.mem_map.mp hn
        have := of_decide_eq_true (List.all_eq_true.mp (step_fit ⟨k, by omega⟩) m (List.mem_of_mem_drop hm))
        omega
      have s5 : Same H4 (upd (upd H4 dx (.own x)) x (.ins T.C_Guesser dx [])) := fun b o e => by
        rw [upd_ne (ne_of_none e nx), upd_ne (ne_of_none e ndx)]
        exact e
      refine ⟨x, D, dx, stepW k, 0, rfl, upd_same, .inl (s5 _ _ hD), hW, by decide, fun H6 kp hG _ => ⟨rfl, ?_⟩⟩
      exact q x _ (fun b o e => kp b o (ne_of_none ((((s2.trans s3).trans s4)) b o e) nx) (s5 b o ((((s2.trans s3).trans s4)) b o e))) hG
def sp_row_of (C : Addr) (K : PySem.W.Frag) : Sp := fun vs H Q _ => ∃ (a b : Addr) (ws : List Int) (sh : Nat) (rs : List Int) (d : Nat), vs = [.ref a, .int d, .ref b] ∧ GuesserAt C H a ws sh ∧ Rd H b (.lst (rs.map V.int)) ∧ rs.length ≤ 1000 ∧ Samples d rs ∧ 1 ≤ d ∧ d ≤ 32 ∧
  ∀ H' p, Same H H' → H p = none → H' p = some (.lst ((backGo ws sh d [] rs).map V.int)) → Q (.ref p) H'
theorem G_row_of (T : Top K mg) : FnOk P w K mg base CX0 6 T.f_row_of T.fd_row_of ["guesser", "depth", "rests"] (sp_row_of T.C_Guesser K) := by
  refine T.F_row_of.ok sc_row_of (fun vs H Q E h => by obtain ⟨a, b, ws, sh, rs, d, rfl, _⟩ := h; rfl) (fun cdv A outer s H vs Q E hr h => ?_)
  obtain ⟨a, b, ws, sh, rs, d, rfl, hG, hB, hl, hs, h0, h1, q⟩ := h
  refine ⟨_, PSs.nox (pss_cons (ps_expr (pe_call (G_check_guesser T) (hr.mono (by decide)) (by rfl) T.g_check_guesser T.F_check_guesser.kp T.b_check_guesser .nil pass0 (pa_cons (pv 0) pa_nil)))
  (pss_cons (ps_expr (pe_call (G_check_depth T) (hr.mono (by decide)) (by rfl) T.g_check_depth T.F_check_depth.kp T.b_check_depth .nil pass0 (pa_cons (pv 1) (pa_cons (pe_glob (v := .int 32) rfl T.m_MOST_DEPTH_guessers ⟨_, rfl⟩) pa_nil))))
  (pss_cons (ps_expr (pe_call (G_check_row T) (hr.mono (by decide)) (by rfl) T.g_check_row T.F_check_row.kp T.b_check_row .nil pass0 (pa_cons (pv 1) (pa_cons (pv 2) pa_nil))))
  (pss_cons (ps_set (i := 3) sc_row_of.nd rfl (by first | exact Or.inl rfl | exact Or.inr rfl) (pe_callB (k_len K rfl) (by rfl) T.n_len (by decide +kernel) (pa_cons (pe_fld (pv 0) rfl) pa_nil)))
  (pss_cons (ps_set (i := 4) sc_row_of.nd rfl (by first | exact Or.inl rfl | exact Or.inr rfl) (pe_callTy (k_listOf K rfl) (by rfl) T.n_list (by decide +kernel) (pa_cons (pe_slice (k_slL K rfl) (pv 2) po_none (po_some (pv 3))) pa_nil)))
  (pss_cons (ps_for PassesOwn.never rfl (k_piL K rfl (pe_slice (k_slL K rfl) (pv 2) (po_some (pv 3)) po_none)) (pg_name (i := 5) sc_row_of.nd rfl (by first | exact Or.inl rfl | exact Or.inr rfl))
    (pss_one (ps_expr (pe_bm PySem.F.plainAttrs_list PySem.F.slot_list_append PySem.F.type_list_append mt_append (pv 4) (pa_cons (pe_call (G_wrapped T) (hr.mono (by decide)) (by rfl) T.g_wrapped T.F_wrapped.kp T.b_wrapped .nil pass0 (pa_cons (pe_op op_add (pv 5) (pe_call (G_guess_behind T) (hr.mono (by decide)) (by rfl) T.g_guess_behind T.F_guess_behind.kp T.b_guess_behind .nil pass0 (pa_cons (pv 0) (pa_cons (pe_slice (k_slL K rfl) (pv 4) (po_some (pe_op op_sub (pe_callB (k_len K rfl) (by rfl) T.n_len (by decide +kernel) (pa_cons (pv 4) pa_nil)) (pv 3))) po_none) pa_nil)))) (pa_cons (pv 1) pa_nil))) pa_nil)))))
  (pss_one (ps_ret (pv 4))))))))), ?_⟩
  refine ⟨_, rfl, a, ws, sh, rfl, hG, ?_⟩
  refine ⟨_, rfl, (d : Int), 32, rfl, by omega, by omega, ?_⟩
  refine ⟨_, rfl, _, rfl, b, rs, d, rfl, hB, hs, hl, h0, by omega, fun H1 s1 => ?_⟩
  obtain ⟨hW, _, dx, p, ha, hp⟩ := id (hG.same s1)
  have hB1 : SqL K H1 b (rs.map V.int) := s1.seq (.inl hB)
  refine ⟨_, rfl, a, T.C_Guesser, dx, _, _, rfl, ha, T.cl_Guesser, T.na_Guesser_parts, rfl, p, _, rfl, .inl (.inl (.inl hp)), ?_⟩
  rw [List.length_map]
  refine ⟨_, rfl, _, rfl, _, rfl, b, _, rfl, hB1, fun c nc => ?_⟩
  rw [cut_take, ← List.map_take]
  obtain ⟨H2, e2, s2, h2⟩ := fresh (.lst ((rs.take ws.length).map V.int)) nc
  rw [e2]
  refine ⟨c, _, rfl, .inl (.inl (.inl h2)), fun f nf => ?_⟩
  obtain ⟨H3, e3, s3, h3⟩ := fresh (.lst ((rs.take ws.length).map V.int)) nf
  rw [e3]
  have s13 := (s1.trans s2).trans s3
  have nHf : H f = none := s1.free (s2.free nf)
  refine ⟨_, rfl, _, rfl, _, rfl, b, _, rfl, s13.seq (.inl hB), fun g ng => ?_⟩
  rw [cut_drop, ← List.map_drop]
  obtain ⟨H4, e4, s4, h4⟩ := fresh (.lst ((rs.drop ws.length).map V.int)) ng
  rw [e4]
  have s14 := s13.trans s4
  have ngf : g ≠ f := ne_of_none h3 ng |>.symm
  have hb := back_len ws sh d rs []
  have hw8 := hW.1
  refine ⟨g, rfl, ⟨_, .inl (.inl h4)⟩, for_list (K := K) (a := g) (xs := (rs.drop ws.length).map V.int) (fun i σ H5 => ∃ v5, σ = [some (.ref a), some (.int d), some (.ref b), some (.int ws.length), some (.ref f), v5] ∧ Same H H5 ∧ H5 g = some (.lst ((rs.drop ws.length).map V.int)) ∧ H5 f = some (.lst (((backGo ws sh d [] rs).take (ws.length + i)).map V.int)))
    ⟨none, rfl, s14, h4, ?_⟩ (fun i σ H5 _ ⟨_, _, _, e, _⟩ => .inl (.inl e)) ?_ ?_⟩
  · rw [s4 _ _ h3, Nat.add_zero, back_firsts ws sh d rs hs _ (Nat.le_refl _)]
  · rintro i x σ H5 hx ⟨v5, rfl, s5, hg5, hf5⟩
    obtain ⟨r, hr, rfl⟩ := int_at hx
    rw [List.getElem?_drop] at hr
    have hi : ws.length + i < rs.length := (List.getElem?_eq_some_iff.mp hr).1
    have er : r = rs.getD (ws.length + i) 0 := by rw [List.getD_eq_getElem?_getD, hr]; rfl
    have hlen : ((backGo ws sh d [] rs).take (ws.length + i)).length = ws.length + i := by rw [List.length_take]; omega
    refine ⟨_, rfl, .inl ⟨rfl, _, .inl (.inl hf5)⟩, _, rfl, _, rfl, _, rfl, _, rfl, f, _, rfl, .inl (.inl (.inl hf5)), _, rfl, _, _, rfl, rfl, _, rfl, f, _, rfl, .inl (.inl hf5), fun c2 nc2 => ?_⟩
    rw [List.length_map, hlen, show ((ws.length + i : Nat) : Int) - (ws.length : Int) = (i : Int) by omega, cut_drop, ← List.map_drop]
    obtain ⟨H6, e6, s6, h6⟩ := fresh (.lst ((((backGo ws sh d [] rs).take (ws.length + i)).drop i).map V.int)) nc2
    rw [e6]
    refine ⟨a, c2, ws, sh, _, rfl, (hG.same s5).same s6, .inl (.inl h6), by rw [List.length_drop, hlen]; omega, fun H7 s7 => ?_⟩
    rw [guess_end ws sh _ i (by rw [hlen]; omega)]
    refine ⟨_, _, rfl, rfl, _, rfl, _, d, rfl, h0, by omega, ?_⟩
    have eb := back_at ws sh d rs [] (ws.length + i) hi
    rw [List.nil_append] at eb
    have et : told0 ws sh ((backGo ws sh d [] rs).take (ws.length + i)) = guessF ws sh ((backGo ws sh d [] rs).take (ws.length + i)) := by
      unfold told0
      rw [if_neg (by rw [hlen]; omega)]
    rw [et, ← er] at eb
    rw [← eb]
    have hf7 := s7 _ _ (s6 _ _ hf5)
    refine ⟨f, _, _, rfl, rfl, hf7, by rw [List.length_map, hlen]; exact small1000 (by omega), ?_⟩
    refine ⟨_, rfl, same_over nHf ((s5.trans s6).trans s7), ?_, ?_⟩
    · rw [upd_ne ngf]
      exact s7 _ _ (s6 _ _ hg5)
    · rw [upd_same, ← Nat.add_assoc, List.take_add_one, List.getElem?_eq_getElem (by omega), getD_of (by omega), List.map_append]
      rfl
  · rintro σ H5 ⟨v5, rfl, s5, hg5, hf5⟩
    refine ⟨_, rfl, q _ f s5 nHf ?_⟩
    rw [hf5, List.take_of_length_le]
    rw [List.length_map, List.length_drop]
    omega
end
end My

namespace My
open PySem PySem.Spec PyProof.Rows L2 Pre
section
variable {P : Program} {w : World} {K : PySem.W.Frag} {mg : Str → Option Value} {base : Heap}
def sp_law_wrapped : Sp := fun vs H Q _ => ∃ (n : Int) (d : Nat), vs = [.int n, .int d] ∧ 1 ≤ d ∧ d ≤ 64 ∧ Q (.int (wrapI n d)) H
theorem G_law_wrapped (T : Top K mg) : FnOk P w K mg base CX0 1 T.f_law_wrapped T.fd_law_wrapped ["_law_number", "_law_depth"] sp_law_wrapped := by
  refine T.F_law_wrapped.ok sc_law_wrapped (fun vs H Q E h => by obtain ⟨n, d, rfl, _⟩ := h; rfl) (fun cdv A outer s H vs Q E hr h => ?_)
  obtain ⟨n, d, rfl, h0, h1, q⟩ := h
  refine ⟨_, PSs.nox (pss_cons (ps_set (i := 0) sc_law_wrapped.nd rfl (by first | exact Or.inl rfl | exact Or.inr rfl) (pe_op op_mod (pv 0) (pe_op op_shl pe_int (pv 1))))
  (pss_one (ps_ret (pe_ifExp (pt_cmpR op_ge (pv 0) (pe_op op_shl pe_int (pe_op op_sub (pv 1) pe_int)) (nomark _)) (pe_op op_sub (pv 0) (pe_op op_shl pe_int (pv 1))) (pv 0))))), ?_⟩
  have hp := pow_pos' d
  rw [wrap_law h0 n] at q
  refine ⟨_, rfl, _, rfl, _, _, rfl, rfl, ⟨by omega, by omega, by decide⟩, _, _, rfl, rfl, ?_, ?_⟩
  · show (0 : Int) < 1 * 2 ^ ((d : Int)).toNat
    rw [Int.one_mul, Int.toNat_natCast]
    exact hp
  dsimp only
  refine ⟨_, rfl, _, rfl, _, _, rfl, rfl, _, _, rfl, rfl, ⟨by omega, by omega, by decide⟩, _, _, rfl, rfl, _, rfl, ?_⟩
  rw [Int.one_mul, Int.one_mul, Int.toNat_natCast, pred_toNat h0]
  by_cases hc : n % 2 ^ d ≥ 2 ^ (d - 1)
  · rw [decide_eq_true hc]
    rw [if_pos hc] at q
    refine iteT ⟨_, rfl, _, rfl, _, _, rfl, rfl, ⟨by omega, by omega, by decide⟩, _, _, rfl, rfl, ?_⟩
    dsimp only
    rw [Int.one_mul, Int.toNat_natCast]
    exact q
  · rw [decide_eq_false hc]
    rw [if_neg hc] at q
    exact iteF ⟨_, rfl, q⟩
def Smp (d : Nat) (y : Int) : Prop := -(2 ^ (d - 1)) ≤ y ∧ y ≤ 2 ^ (d - 1) - 1
def sp_law_sample : Sp := fun vs H Q _ => ∃ (g : Addr) (d n : Nat), vs = [.ref g, .int d] ∧ GenAt H g n ∧ n ≤ 10 ^ 9 ∧ 1 ≤ d ∧ d ≤ 32 ∧ ∀ (y : Int) H', Smp d y → But g H H' → GenAt H' g (n + 200) → Q (.int y) H'
theorem G_law_sample (T : Top K mg) : FnOk P w K mg base CX0 3 T.f_law_sample T.fd_law_sample ["_law_generator_here", "_law_depth"] sp_law_sample := by
  refine T.F_law_sample.ok sc_law_sample (fun vs H Q E h => by obtain ⟨g, d, n, rfl, _⟩ := h; rfl) (fun cdv A outer s H vs Q E hr h => ?_)
  obtain ⟨g, d, n, rfl, hG, hn, h0, h1, q⟩ := h
  refine ⟨_, PSs.nox (pss_cons (ps_set (i := 2) sc_law_sample.nd rfl (by first | exact Or.inl rfl | exact Or.inr rfl) (pe_un un_neg (pe_op op_shl pe_int (pe_op op_sub (pv 1) pe_int))))
  (pss_one (ps_ret (pe_ix (k_ixL K rfl) (pe_lst (pa_cons (pv 2) (pa_cons (pe_op op_sub (pe_op op_shl pe_int (pe_op op_sub (pv 1) pe_int)) pe_int) (pa_cons pe_int (pa_cons (pe_op op_add (pv 2) (pe_call (G_law_random T) (hr.mono (by decide)) (by rfl) T.g_law_random T.F_law_random.kp T.b_law_random .nil pass0 (pa_cons (pv 0) (pa_cons (pe_op op_shl pe_int (pv 1)) pa_nil)))) pa_nil))))) (pe_call (G_law_random T) (hr.mono (by decide)) (by rfl) T.g_law_random T.F_law_random.kp T.b_law_random .nil pass0 (pa_cons (pv 0) (pa_cons pe_int pa_nil))) (fun _ _ => rfl))))), ?_⟩
  have hp := pow_pos' (d - 1)
  have hpd := pow_two h0
  have h32 : (2 : Int) ^ d ≤ 2 ^ 32 := pow2_le h1
  refine ⟨_, rfl, _, _, rfl, rfl, _, _, rfl, rfl, ⟨by omega, by omega, by decide⟩, _, rfl, ?_⟩
  dsimp only
  rw [Int.one_mul, pred_toNat h0]
  refine ⟨_, rfl, _, rfl, _, _, rfl, rfl, _, _, rfl, rfl, ⟨by omega, by omega, by decide⟩, _, _, rfl, rfl, ?_⟩
  dsimp only
  rw [Int.one_mul, pred_toNat h0]
  refine ⟨_, rfl, _, rfl, _, rfl, _, _, rfl, rfl, ⟨by omega, by omega, by decide⟩, ?_⟩
  dsimp only
  rw [Int.one_mul, Int.toNat_natCast]
  refine ⟨g, _, _, rfl, hG, by omega, by omega, small_2900 (by omega), fun r1 H1 r10 r11 g1 b1 => ?_⟩
  refine ⟨_, _, rfl, rfl, (show 4 ≤ sizeLine by decide), fun c nc => ?_⟩
  dsimp only
  obtain ⟨H2, e2, s2, h2⟩ := fresh (.lst [V.int (-(2 ^ (d - 1))), V.int (2 ^ (d - 1) - 1), V.int 0, V.int (-(2 ^ (d - 1)) + r1)]) nc
  rw [e2]
  refine ⟨_, rfl, g, _, _, rfl, g1.same s2, by omega, by decide, small_2900 (by decide), fun kd H3 k0 k1 g3 b3 => ?_⟩
  have h3 : H3 c = some (.lst [V.int (-(2 ^ (d - 1))), V.int (2 ^ (d - 1) - 1), V.int 0, V.int (-(2 ^ (d - 1)) + r1)]) := b3 _ _ (g1.ne nc) h2
  have hx : ∃ y : Int, atI [V.int (-(2 ^ (d - 1))), V.int (2 ^ (d - 1) - 1), V.int 0, V.int (-(2 ^ (d - 1)) + r1)] kd = some (.int y) ∧ Smp d y := by
    have hk : kd = 0 ∨ kd = 1 ∨ kd = 2 ∨ kd = 3 := by omega
    rcases hk with rfl | rfl | rfl | rfl
    · exact ⟨_, rfl, by omega, by omega⟩
    · exact ⟨_, rfl, by omega, by omega⟩
    · exact ⟨_, rfl, by omega, by omega⟩
    · exact ⟨_, rfl, by omega, by omega⟩
  obtain ⟨y, ay, hy⟩ := hx
  exact ⟨c, _, _, _, rfl, rfl, .inl (.inl h3), ay, q y _ hy ((b1.same s2).trans b3) (g3.mono (by omega))⟩
def sp_law_row : Sp := fun vs H Q _ => ∃ (g : Addr) (d m n : Nat), vs = [.ref g, .int d, .int m] ∧ GenAt H g n ∧ n ≤ 10 ^ 8 ∧ 1 ≤ d ∧ d ≤ 32 ∧ m ≤ 100 ∧
  ∀ H' p (ys : List Int), H p = none → But g H H' → GenAt H' g (n + 100000) → H' p = some (.lst (ys.map V.int)) → ys.length = m → Samples d ys → Q (.ref p) H'
theorem G_law_row (T : Top K mg) : FnOk P w K mg base CX0 4 T.f_law_row T.fd_law_row ["_law_generator_here", "_law_depth", "_law_many"] sp_law_row := by
  refine T.F_law_row.ok sc_law_row (fun vs H Q E h => by obtain ⟨g, d, m, n, rfl, _⟩ := h; rfl) (fun cdv A outer s H vs Q E hr h => ?_)
  obtain ⟨g, d, m, n, rfl, hG, hn, h0, h1, hm, q⟩ := h
  refine ⟨_, PSs.nox (pss_one (ps_ret (pe_lc (own := [("_law_place", 3)]) (g := gName 3) (tt := tYes) (by rfl) sc_law_row.nd (pi_range1 (by rfl) T.n_range (pa_cons (pv 2) pa_nil)) (blkOk_by (own := [("_law_place", 3)]) (N := N_law_row) (sc := defScope s_law_row) (by decide +kernel)) (fun _ _ _ _ _ => (pg_name (i := 3) sc_law_row.nd rfl (by first | exact Or.inl rfl | exact Or.inr rfl))) (fun _ _ _ _ _ => pts_nil) (fun _ _ _ _ _ => (pe_call (G_law_sample T) (hr.mono (by decide)) (by rfl) T.g_law_sample T.F_law_sample.kp T.b_law_sample .nil pass0 (pa_cons (pv 0) (pa_cons (pv 1) pa_nil))))))), ?_⟩
  refine ⟨_, rfl, _, rfl, by omega, by omega, fun D nD => ?_⟩
  rw [Int.toNat_natCast]
  refine lc_drawR (lo := 0) (n := m) g n 200 (Smp d) nD hG (small1000 (by omega)) (fun x => rfl) ?_ ?_
  · intro i H' hi b hg Qt qt
    exact ⟨_, rfl, _, rfl, g, d, _, rfl, hg, by omega, h0, h1, fun y H2 hy b2 g2 => qt y H2 hy b2 (by rw [Nat.mul_succ, ← Nat.add_assoc]; exact g2)⟩
  · intro H' ys b hg hD hl hP
    exact q _ D ys nD b (hg.mono (by omega)) hD hl hP
def sp_law_guess (K : PySem.W.Frag) : Sp := fun vs H Q _ => ∃ (a b : Addr) (ws : List Int) (sh : Nat) (bs : List Int), vs = [.ref a, .int sh, .ref b] ∧ SqL K H a (ws.map V.int) ∧ SqL K H b (bs.map V.int) ∧ Weights ws ∧ ws.length ≤ bs.length ∧ bs.length ≤ 1000 ∧ sh ≤ 15 ∧ Q (.int (guessF ws sh bs)) H
theorem G_law_guess (T : Top K mg) : FnOk P w K mg base CX0 1 T.f_law_guess T.fd_law_guess ["_law_weights_here", "_law_shift", "_law_before"] (sp_law_guess K) := by
  refine T.F_law_guess.ok sc_law_guess (fun vs H Q E h => by obtain ⟨a, b, ws, sh, bs, rfl, _⟩ := h; rfl) (fun cdv A outer s H vs Q E hr h => ?_)
  obtain ⟨a, b, ws, sh, bs, rfl, hA, hB, hW, hl, hb, hsh, q⟩ := h
  refine ⟨_, PSs.nox (pss_cons (ps_set (i := 3) sc_law_guess.nd rfl (by first | exact Or.inl rfl | exact Or.inr rfl) pe_int)
  (pss_cons (ps_for PassesOwn.never rfl (pi_range1 (by rfl) T.n_range (pa_cons (pe_callB (k_len K rfl) (by rfl) T.n_len (by decide +kernel) (pa_cons (pv 0) pa_nil)) pa_nil)) (pg_name (i := 4) sc_law_guess.nd rfl (by first | exact Or.inl rfl | exact Or.inr rfl))
    (pss_one (ps_set (i := 3) sc_law_guess.nd rfl (by first | exact Or.inl rfl | exact Or.inr rfl) (pe_op op_add (pv 3) (pe_op op_mul (pe_ix (k_ixL K rfl) (pv 0) (pv 4) (fun _ _ => rfl)) (pe_ix (k_ixL K rfl) (pv 2) (pe_op op_sub (pe_op op_sub (pe_callB (k_len K rfl) (by rfl) T.n_len (by decide +kernel) (pa_cons (pv 2) pa_nil)) pe_int) (pv 4)) (fun _ _ => rfl)))))))
  (pss_one (ps_ret (pe_op op_fdivW (pv 3) (pe_op op_shl pe_int (pv 1))))))), ?_⟩
  have hw8 := hW.1
  refine ⟨_, rfl, a, _, rfl, .inl hA, _, rfl, by omega, by rw [List.length_map]; omega, ?_⟩
  rw [List.length_map, Int.toNat_natCast]
  refine for_range (lo := 0) (n := ws.length) (fun i σ H1 => ∃ v4, σ = [some (.ref a), some (.int sh), some (.ref b), some (.int (dot (ws.take i) bs.reverse)), v4] ∧ H1 = H) ⟨none, rfl, rfl⟩ ?_ ?_
  · rintro i σ H1 hi ⟨v4, rfl, rfl⟩
    have hwb := hW.2 _ (List.getElem_mem hi)
    have ewi : ws.getD i 0 = ws[i] := getD_of hi
    refine ⟨_, rfl, _, rfl, _, rfl, a, _, _, .int (ws.getD i 0), rfl, rfl, hA, ?_, _, rfl, _, rfl, b, _, rfl, .inl hB, _, _, rfl, rfl, _, rfl, _, _, rfl, rfl, b, _, _, .int (bs.reverse.getD i 0), rfl, rfl, hB, ?_, _, _, rfl, rfl, .inl ⟨by omega, by omega⟩, _, _, rfl, rfl, ?_⟩
    · rw [Int.zero_add]
      exact at_ints hi
    · refine at_of (j := bs.length - 1 - i) (by rw [List.length_map]; omega) (cut_get (by omega) rfl)
    refine ⟨some (.int (0 + (i : Int))), ?_, rfl⟩
    rw [dot_take i ws bs.reverse hi (by rw [List.length_reverse]; omega)]
    rfl
  · rintro σ H1 ⟨v4, rfl, rfl⟩
    have hp := pow_pos' sh
    rw [List.take_length]
    refine ⟨_, rfl, _, rfl, _, _, rfl, rfl, ⟨by omega, by omega, by decide⟩, _, _, rfl, rfl, ?_, ?_⟩
    · have h15 : (2 : Int) ^ sh ≤ 2 ^ 15 := pow2_le hsh
      show CDivW _ (1 * 2 ^ ((sh : Int)).toNat)
      rw [Int.one_mul, Int.toNat_natCast]
      exact wide_div (b := 60) hp (by omega) (by decide) (by decide)
    dsimp only
    rw [Int.one_mul, Int.toNat_natCast]
    exact q
def sp_law_rests_of (K : PySem.W.Frag) : Sp := fun vs H Q _ => ∃ (a b : Addr) (ws : List Int) (sh : Nat) (row : List Int), vs = [.ref a, .int sh, .ref b] ∧ SqL K H a (ws.map V.int) ∧ SqL K H b (row.map V.int) ∧ Weights ws ∧ row.length ≤ 1000 ∧ sh ≤ 15 ∧
  ∀ p H', H p = none → Same H H' → H' p = some (.lst ((toldR ws sh row).map V.int)) → Q (.ref p) H'
theorem G_law_rests_of (T : Top K mg) : FnOk P w K mg base CX0 2 T.f_law_rests_of T.fd_law_rests_of ["_law_weights_here", "_law_shift", "_law_row_here"] (sp_law_rests_of K) := by
  refine T.F_law_rests_of.ok sc_law_rests_of (fun vs H Q E h => by obtain ⟨a, b, ws, sh, row, rfl, _⟩ := h; rfl) (fun cdv A outer s H vs Q E hr h => ?_)
  obtain ⟨a, b, ws, sh, row, rfl, hA, hB, hW, hl, hsh, q⟩ := h
  refine ⟨_, PSs.nox (pss_cons (ps_set (i := 3) sc_law_rests_of.nd rfl (by first | exact Or.inl rfl | exact Or.inr rfl) (pe_lst pa_nil))
  (pss_cons (ps_for PassesOwn.never rfl (pi_range1 (by rfl) T.n_range (pa_cons (pe_callB (k_len K rfl) (by rfl) T.n_len (by decide +kernel) (pa_cons (pv 2) pa_nil)) pa_nil)) (pg_name (i := 4) sc_law_rests_of.nd rfl (by first | exact Or.inl rfl | exact Or.inr rfl))
    (pss_cons (ps_set (i := 5) sc_law_rests_of.nd rfl (by first | exact Or.inl rfl | exact Or.inr rfl) (pe_ifExp (pt_cmpR op_lt (pv 4) (pe_callB (k_len K rfl) (by rfl) T.n_len (by decide +kernel) (pa_cons (pv 0) pa_nil)) (nomark _)) pe_int (pe_call (G_law_guess T) (hr.mono (by decide)) (by rfl) T.g_law_guess T.F_law_guess.kp T.b_law_guess .nil pass0 (pa_cons (pv 0) (pa_cons (pv 1) (pa_cons (pe_slice (k_slL K rfl) (pv 2) po_none (po_some (pv 4))) pa_nil))))))
  (pss_one (ps_expr (pe_bm PySem.F.plainAttrs_list PySem.F.slot_list_append PySem.F.type_list_append mt_append (pv 3) (pa_cons (pe_op op_sub (pe_ix (k_ixL K rfl) (pv 2) (pv 4) (fun _ _ => rfl)) (pv 5)) pa_nil))))))
  (pss_one (ps_ret (pv 3))))), ?_⟩
  have hw8 := hW.1
  refine ⟨Nat.zero_le _, fun f nf => ?_⟩
  obtain ⟨H1, e1, s1, h1⟩ := fresh (.lst []) nf
  rw [e1]
  refine ⟨_, rfl, b, _, rfl, .inl (s1.seq hB), _, rfl, by omega, by rw [List.length_map]; omega, ?_⟩
  rw [List.length_map, Int.toNat_natCast]
  refine for_range (lo := 0) (n := row.length) (fun i σ H2 => ∃ v4 v5, σ = [some (.ref a), some (.int sh), some (.ref b), some (.ref f), v4, v5] ∧ Same H H2 ∧ H2 f = some (.lst (((toldR ws sh row).take i).map V.int))) ⟨none, none, rfl, s1, h1⟩ ?_ ?_
  · rintro i σ H2 hi ⟨v4, v5, rfl, s2, h2⟩
    have hB2 := s2.seq hB
    have hA2 := s2.seq hA
    have at0 : atI (row.map V.int) (0 + (i : Int)) = some (.int (row.getD i 0)) := by
      rw [Int.zero_add]
      exact at_ints hi
    have hz : (((toldR ws sh row).take i).map V.int).length < sizeLine := by
      rw [List.length_map, List.length_take]
      exact Nat.lt_of_le_of_lt (Nat.min_le_left _ _) (small1000 (by omega))
    have step : (toldR ws sh row).take (i + 1) = (toldR ws sh row).take i ++ [row.getD i 0 - (if i < ws.length then 0 else guessF ws sh (row.take i))] := by
      rw [List.take_add_one]
      congr 1
      unfold toldR
      rw [List.getElem?_map, List.getElem?_range hi]
      rfl
    refine ⟨_, rfl, _, rfl, a, _, rfl, .inl hA2, _, _, rfl, rfl, _, rfl, ?_⟩
    rw [List.length_map]
    by_cases hc : i < ws.length
    · rw [decide_eq_true (show 0 + (i : Int) < (ws.length : Int) by omega)]
      refine iteT ?_
      refine ⟨_, rfl, .inl ⟨rfl, _, .inl (.inl ((Same.refl H2) _ _ h2))⟩, _, rfl, _, rfl, b, _, _, _, rfl, rfl, (Same.refl H2).seq hB2, at0, _, rfl, _, _, rfl, rfl, f, _, _, rfl, rfl, (Same.refl H2) _ _ h2, hz, ?_⟩
      refine ⟨_, _, rfl, same_over nf (s2.trans (Same.refl H2)), ?_⟩
      rw [upd_same, step, if_pos hc, List.map_append]
      rfl
    · rw [decide_eq_false (show ¬ 0 + (i : Int) < (ws.length : Int) by omega)]
      refine iteF ⟨_, rfl, _, rfl, _, rfl, _, rfl, _, rfl, b, _, rfl, hB2, fun c nc => ?_⟩
      rw [Int.zero_add, cut_take, ← List.map_take]
      obtain ⟨H3, e3, s3, h3⟩ := fresh (.lst ((row.take i).map V.int)) nc
      rw [e3]
      refine ⟨a, c, ws, sh, row.take i, rfl, s3.seq hA2, .inl (.inl h3), hW, by rw [List.length_take]; omega, by rw [List.length_take]; omega, hsh, ?_⟩
      refine ⟨_, rfl, .inl ⟨rfl, _, .inl (.inl (s3 _ _ h2))⟩, _, rfl, _, rfl, b, _, _, _, rfl, rfl, s3.seq hB2, at_ints hi, _, rfl, _, _, rfl, rfl, f, _, _, rfl, rfl, s3 _ _ h2, hz, ?_⟩
      refine ⟨_, _, rfl, same_over nf (s2.trans s3), ?_⟩
      rw [upd_same, step, if_neg hc, List.map_append]
      rfl
  · rintro σ H2 ⟨v4, v5, rfl, s2, h2⟩
    refine ⟨_, rfl, q f _ nf s2 ?_⟩
    rw [h2, List.take_of_length_le (by rw [toldR_len]; exact Nat.le_refl _)]
end
end My

namespace My
open PySem PySem.Spec PyProof.Rows L2 Pre
section
variable {P : Program} {w : World} {K : PySem.W.Frag} {mg : Str → Option Value} {base : Heap}
theorem But.off {g : Addr} {H H1 : Hp} {a : Addr} {o' : HO} (b : But g H H1) (n : H a = none) : But g H (L2.upd H1 a o') := fun c u nc h => by
  rw [upd_ne (ne_of_none h n)]
  exact b c u nc h
theorem GenAt.off {H : Hp} {g a : Addr} {n : Nat} {o : HO} (h : GenAt H g n) (na : a ≠ g) : GenAt (L2.upd H a o) g n := by
  obtain ⟨x, y, z, e, r⟩ := h
  exact ⟨x, y, z, by rw [upd_ne na.symm]; exact e, r⟩
theorem But.gen {g x : Addr} {H H' : Hp} {n : Nat} (b : But x H H') (h : GenAt H g n) (ne : g ≠ x) : GenAt H' g n := by
  obtain ⟨a, c, z, e, r⟩ := h
  exact ⟨a, c, z, b _ _ ne e, r⟩
def sp_law_right (C : Addr) (K : PySem.W.Frag) : Sp := fun vs H Q _ => ∃ (g a b : Addr) (ws : List Int) (sh n : Nat), vs = [.ref g, .ref a, .ref b, .int sh] ∧ GenAt H g n ∧ n ≤ 10 ^ 7 ∧ GuesserBut C g H a ws sh ∧ H b = some (.lst (ws.map V.int)) ∧ b ≠ g ∧
  ∀ H', But g H H' → GenAt H' g (n + 10 ^ 6) → Q (.bl true) H'
theorem G_law_right (T : Top K mg) : FnOk P w K mg base CX0 7 T.f_law_right T.fd_law_right ["_law_generator_here", "_law_guesser", "_law_weights_here", "_law_shift"] (sp_law_right T.C_Guesser K) := by
  refine T.F_law_right.ok sc_law_right (fun vs H Q E h => by obtain ⟨g, a, b, ws, sh, n, rfl, _⟩ := h; rfl) (fun cdv A outer s H vs Q E hr h => ?_)
  obtain ⟨g, a, b, ws, sh, n, rfl, hG, hn, hg, hb, nbg, q⟩ := h
  refine ⟨_, PSs.nox (pss_cons (ps_set (i := 4) sc_law_right.nd rfl (by first | exact Or.inl rfl | exact Or.inr rfl) (pe_ix (k_ixL K rfl) (pe_lst (pa_cons pe_int (pa_cons pe_int (pa_cons pe_int (pa_cons pe_int (pa_cons pe_int (pa_cons pe_int (pa_cons pe_int pa_nil)))))))) (pe_call (G_law_random T) (hr.mono (by decide)) (by rfl) T.g_law_random T.F_law_random.kp T.b_law_random .nil pass0 (pa_cons (pv 0) (pa_cons pe_int pa_nil))) (fun _ _ => rfl)))
  (pss_cons (ps_set (i := 5) sc_law_right.nd rfl (by first | exact Or.inl rfl | exact Or.inr rfl) (pe_call (G_law_row T) (hr.mono (by decide)) (by rfl) T.g_law_row T.F_law_row.kp T.b_law_row .nil pass0 (pa_cons (pv 0) (pa_cons (pv 4) (pa_cons (pe_call (G_law_random T) (hr.mono (by decide)) (by rfl) T.g_law_random T.F_law_random.kp T.b_law_random .nil pass0 (pa_cons (pv 0) (pa_cons pe_int pa_nil))) pa_nil)))))
  (pss_cons (ps_setLc (i := 6) (own := [("_law_item", 11)]) (g := gName 11) (tt := tYes) (by rfl) sc_law_right.nd rfl rfl (sw_true rfl rfl rfl (by decide +kernel)) (k_piL K rfl (pe_call (G_law_rests_of T) (hr.mono (by decide)) (by rfl) T.g_law_rests_of T.F_law_rests_of.kp T.b_law_rests_of .nil pass0 (pa_cons (pv 2) (pa_cons (pv 3) (pa_cons (pv 5) pa_nil))))) (blkOk_by (own := [("_law_item", 11)]) (N := N_law_right) (sc := defScope s_law_right) (by decide +kernel)) (fun _ _ _ _ _ => (pg_name (i := 11) sc_law_right.nd rfl (by first | exact Or.inl rfl | exact Or.inr rfl))) (fun _ _ _ _ _ => pts_nil) (fun _ _ _ _ _ => (pe_call (G_law_wrapped T) (hr.mono (by decide)) (by rfl) T.g_law_wrapped T.F_law_wrapped.kp T.b_law_wrapped .nil pass0 (pa_cons (pv 11) (pa_cons (pv 4) pa_nil)))))
  (pss_cons (ps_set (i := 7) sc_law_right.nd rfl (by first | exact Or.inl rfl | exact Or.inr rfl) (pe_callTy (k_listOf K rfl) (by rfl) T.n_list (by decide +kernel) (pa_cons (pv 5) pa_nil)))
  (pss_cons (ps_set (i := 8) sc_law_right.nd rfl (by first | exact Or.inl rfl | exact Or.inr rfl) (pe_call (G_rests T) (hr.mono (by decide)) (by rfl) T.g_rests T.F_rests.kp T.b_rests .nil pass0 (pa_cons (pv 1) (pa_cons (pv 4) (pa_cons (pv 7) pa_nil)))))
  (pss_cons (ps_if (PW.pt (pw_or (pt_cmpR (k_neD K rfl hr.units) (pv 8) (pv 6) (nomark _)) (pw_or (pt_cmpR (k_neD K rfl hr.units) (pv 7) (pv 5) (nomark _)) (pw_or1 (pt_cmpR (k_neD K rfl hr.units) (pe_call (G_row_of T) (hr.mono (by decide)) (by rfl) T.g_row_of T.F_row_of.kp T.b_row_of .nil pass0 (pa_cons (pv 1) (pa_cons (pv 4) (pa_cons (pv 8) pa_nil)))) (pv 5) (nomark _))))))
    (pss_one (ps_ret pe_bl))
    pss_nil)
  (pss_cons (ps_expr (pe_bm PySem.F.plainAttrs_list PySem.F.slot_list_append PySem.F.type_list_append mt_append (pv 7) (pa_cons pe_non pa_nil)))
  (pss_cons (ps_expr (pe_bm PySem.F.plainAttrs_list PySem.F.slot_list_append PySem.F.type_list_append mt_append (pv 8) (pa_cons pe_non pa_nil)))
  (pss_cons (ps_set (i := 9) sc_law_right.nd rfl (by first | exact Or.inl rfl | exact Or.inr rfl) (pe_call (G_row_of T) (hr.mono (by decide)) (by rfl) T.g_row_of T.F_row_of.kp T.b_row_of .nil pass0 (pa_cons (pv 1) (pa_cons (pv 4) (pa_cons (pv 5) pa_nil)))))
  (pss_cons (ps_if (PW.pt (pw_or (pt_cmpR (k_neD K rfl hr.units) (pe_call (G_rests T) (hr.mono (by decide)) (by rfl) T.g_rests T.F_rests.kp T.b_rests .nil pass0 (pa_cons (pv 1) (pa_cons (pv 4) (pa_cons (pv 9) pa_nil)))) (pv 5) (nomark _)) (pw_or1 (pt_cmpR (k_neD K rfl hr.units) (pe_call (G_rests T) (hr.mono (by decide)) (by rfl) T.g_rests T.F_rests.kp T.b_rests .nil pass0 (pa_cons (pv 1) (pa_cons (pv 4) (pa_cons (pv 5) pa_nil)))) (pv 6) (nomark _)))))
    (pss_one (ps_ret pe_bl))
    pss_nil)
  (pss_cons (ps_setLc (i := 10) (own := [("_law_place", 12)]) (g := gName 12) (tt := tYes) (by rfl) sc_law_right.nd rfl rfl (sw_true rfl rfl rfl (by decide +kernel)) (pi_range1 (by rfl) T.n_range (pa_cons (pe_op op_add (pe_callB (k_len K rfl) (by rfl) T.n_len (by decide +kernel) (pa_cons (pv 2) pa_nil)) (pe_call (G_law_random T) (hr.mono (by decide)) (by rfl) T.g_law_random T.F_law_random.kp T.b_law_random .nil pass0 (pa_cons (pv 0) (pa_cons pe_int pa_nil)))) pa_nil)) (blkOk_by (own := [("_law_place", 12)]) (N := N_law_right) (sc := defScope s_law_right) (by decide +kernel)) (fun _ _ _ _ _ => (pg_name (i := 12) sc_law_right.nd rfl (by first | exact Or.inl rfl | exact Or.inr rfl))) (fun _ _ _ _ _ => pts_nil) (fun _ _ _ _ _ => (pe_op op_sub (pe_call (G_law_random T) (hr.mono (by decide)) (by rfl) T.g_law_random T.F_law_random.kp T.b_law_random .nil pass0 (pa_cons (pv 0) (pa_cons (pe_op op_powW pe_int pe_int) pa_nil))) (pe_op op_mul pe_int (pe_op op_powW pe_int pe_int)))))
  (pss_cons (ps_if (pt_cmpR op_ne (pe_call (G_guess T) (hr.mono (by decide)) (by rfl) T.g_guess T.F_guess.kp T.b_guess .nil pass0 (pa_cons (pv 1) (pa_cons (pv 10) pa_nil))) (pe_call (G_law_guess T) (hr.mono (by decide)) (by rfl) T.g_law_guess T.F_law_guess.kp T.b_law_guess .nil pass0 (pa_cons (pv 2) (pa_cons (pv 3) (pa_cons (pv 10) pa_nil)))) (nomark _))
    (pss_one (ps_ret pe_bl))
    pss_nil)
  (pss_one (ps_ret (pe_cmpR (k_eqD K rfl hr.units) (pe_call (G_plain_rests T) (hr.mono (by decide)) (by rfl) T.g_plain_rests T.F_plain_rests.kp T.b_plain_rests .nil pass0 (pa_cons (pv 1) (pa_cons (pv 10) pa_nil))) (pe_call (G_law_rests_of T) (hr.mono (by decide)) (by rfl) T.g_law_rests_of T.F_law_rests_of.kp T.b_law_rests_of .nil pass0 (pa_cons (pv 2) (pa_cons (pv 3) (pa_cons (pv 10) pa_nil)))) (nomark _)))))))))))))))), ?_⟩
  obtain ⟨hW, hsh, dx, p, ha, hp⟩ := hg H But.refl
  have hw8 := hW.1
  refine ⟨(show 7 ≤ sizeLine by decide), fun c nc => ?_⟩
  obtain ⟨H1, e1, s1, h1⟩ := fresh (.lst ([1, 2, 4, 8, 16, 24, 32].map V.int)) nc
  rw [show upd H c (.lst [V.int 1, .int 2, .int 4, .int 8, .int 16, .int 24, .int 32]) = H1 from e1]
  refine ⟨_, rfl, g, _, _, rfl, hG.same s1, by omega, by decide, small_2900 (by decide), fun kd H2 k0 k1 g2 b2 => ?_⟩
  have hc2 : H2 c = some (.lst ([1, 2, 4, 8, 16, 24, 32].map V.int)) := b2 _ _ (hG.ne nc) h1
  have hd : ∃ d : Nat, atI ([1, 2, 4, 8, 16, 24, 32].map V.int) kd = some (.int (d : Int)) ∧ 1 ≤ d ∧ d ≤ 32 := by
    have hk : kd = 0 ∨ kd = 1 ∨ kd = 2 ∨ kd = 3 ∨ kd = 4 ∨ kd = 5 ∨ kd = 6 := by omega
    rcases hk with rfl | rfl | rfl | rfl | rfl | rfl | rfl
    · exact ⟨1, rfl, by omega, by omega⟩
    · exact ⟨2, rfl, by omega, by omega⟩
    · exact ⟨4, rfl, by omega, by omega⟩
    · exact ⟨8, rfl, by omega, by omega⟩
    · exact ⟨16, rfl, by omega, by omega⟩
    · exact ⟨24, rfl, by omega, by omega⟩
    · exact ⟨32, rfl, by omega, by omega⟩
  obtain ⟨d, ad, d1, d32⟩ := hd
  have b02 : But g H H2 := (But.of s1).trans b2
  refine ⟨c, _, _, _, rfl, rfl, .inl (.inl hc2), ad, ?_⟩
  -- the row
  refine ⟨_, rfl, _, rfl, _, rfl, g, _, _, rfl, g2, by omega, by decide, small_2900 (by decide), fun r1 H3 r10 r11 g3 b3 => ?_⟩
  obtain ⟨m, rfl⟩ : ∃ m : Nat, r1 = (m : Int) := ⟨r1.toNat, by omega⟩
  refine ⟨g, d, m, _, rfl, g3, by omega, d1, d32, by omega, fun H4 pr row npr b4 g4 hpr hrl hrs => ?_⟩
  have b04 : But g H H4 := (b02.trans b3).trans b4
  have nprg : pr ≠ g := g3.ne npr
  have hpr0 : H pr = none := (b02.trans b3).free nprg npr
  -- due
  refine ⟨_, rfl, _, rfl, _, rfl, b, pr, ws, sh, row, rfl, .inl (.inl (b04 _ _ nbg hb)), .inl (.inl hpr), hW, by omega, hsh, fun p5 H5 np5 s5 h5 => ?_⟩
  have hP5 : SqL K H5 p5 ((toldR ws sh row).map V.int) := .inl (.inl h5)
  refine ⟨p5, rfl, ⟨_, hP5⟩, fun D nD => ?_⟩
  refine lc_mapL (K := K) (xs := (toldR ws sh row).map V.int) ((restsF ws sh d row).map V.int) nD hP5 (by unfold restsF; simp) (by rw [List.length_map, toldR_len]; exact small1000 (by omega)) (fun x => rfl) ?_ ?_
  · intro i x y H' hx hy s Qt qt
    obtain ⟨z, hz, rfl⟩ := int_at hx
    unfold restsF at hy
    rw [List.getElem?_map, List.getElem?_map, hz] at hy
    cases hy
    exact ⟨_, rfl, _, rfl, z, d, rfl, d1, by omega, qt _ (Same.refl _)⟩
  intro H6 s6 hD6
  have s46 := s5.trans s6
  have hpr6 := s46 _ _ hpr
  have g6 := g4.same s46
  have nDg : D ≠ g := (g4.same s5).ne nD
  -- given = list(row)
  refine ⟨_, rfl, pr, _, rfl, .inl (.inl (.inl hpr6)), fun gv ngv => ?_⟩
  obtain ⟨H7, e7, s7, h7⟩ := fresh (.lst (row.map V.int)) ngv
  rw [e7]
  have s47 := s46.trans s7
  have b07 : But g H H7 := b04.same s47
  have G7 := hg H7 b07
  have ngvg : gv ≠ g := g6.ne ngv
  -- told
  refine ⟨_, rfl, _, rfl, _, rfl, a, gv, ws, sh, row, d, rfl, G7, .inl h7, by omega, hrs, d1, d32, fun H8 t s8 nt ht => ?_⟩
  have hD8 := s8 _ _ (s7 _ _ hD6)
  have hrl8 : (restsF ws sh d row).length = row.length := by unfold restsF; rw [List.length_map, toldR_len]
  have hrs8 : Samples d (restsF ws sh d row) := by rw [restsF_go]; exact rests_samples ws sh d row []
  refine ⟨_, rfl, _, rfl, ne_lst (.inl (.inl ht)) (.inl (.inl hD8)) ⟨_, rfl, iteF ?_⟩⟩
  refine ⟨_, rfl, _, rfl, ne_lst (.inl (.inl (s8 _ _ h7))) (.inl (.inl (s8 _ _ (s7 _ _ hpr6)))) ⟨_, rfl, iteF ?_⟩⟩
  refine ⟨_, rfl, _, rfl, _, rfl, a, t, ws, sh, restsF ws sh d row, d, rfl, G7.same s8, .inl ht, by omega, hrs8, d1, d32, fun H9 p9 s9 np9 h9 => ?_⟩
  have e9 : backGo ws sh d [] (restsF ws sh d row) = row := by rw [restsF_go]; exact back_rests ws sh d row [] hrs
  rw [e9] at h9
  have s89 := s8.trans s9
  refine ⟨_, rfl, ne_lst (.inl (.inl h9)) (.inl (.inl (s89 _ _ (s7 _ _ hpr6)))) ⟨_, rfl, iteF ?_⟩⟩
  -- given.append(None), told.append(None)
  have ht9 := s9 _ _ ht
  have hgv9 := s89 _ _ h7
  have ngvt : gv ≠ t := (ne_of_none h7 nt)
  refine ⟨_, rfl, .inl ⟨rfl, _, .inl (.inl hgv9)⟩, gv, _, _, rfl, rfl, hgv9, by rw [List.length_map]; exact small1000 (by omega), ?_⟩
  refine ⟨_, rfl, .inl ⟨rfl, _, .inl (.inl (by rw [upd_ne ngvt.symm]; exact ht9))⟩, t, _, _, rfl, rfl, by rw [upd_ne ngvt.symm]; exact ht9, by rw [List.length_map]; exact small1000 (by omega), ?_⟩
  have s79 : Same H6 (upd (upd H9 gv (.lst (row.map V.int ++ [V.non]))) t (.lst ((restsF ws sh d row).map V.int ++ [V.non]))) := fun z o hz => by
    rw [upd_ne (ne_of_none (s7 _ _ hz) nt), upd_ne (ne_of_none hz ngv)]
    exact s89 _ _ (s7 _ _ hz)
  generalize upd (upd H9 gv (.lst (row.map V.int ++ [V.non]))) t (.lst ((restsF ws sh d row).map V.int ++ [V.non])) = HA at s79
  have b0A : But g H HA := (b04.same s46).same s79
  have hprA := s79 _ _ hpr6
  have hDA := s79 _ _ hD6
  -- back
  refine ⟨_, rfl, _, rfl, _, rfl, a, pr, ws, sh, row, d, rfl, hg HA b0A, .inl hprA, by omega, hrs, d1, d32, fun HB pb sB npb hpb => ?_⟩
  have hbl := back_len ws sh d row []
  have hbs := back_samples ws sh d row []
  refine ⟨_, rfl, _, rfl, _, rfl, a, pb, ws, sh, _, d, rfl, (hg HA b0A).same sB, .inl hpb, by omega, hbs, d1, d32, fun HC pc sC npc hpc => ?_⟩
  have eC : restsF ws sh d (backGo ws sh d [] row) = row := by rw [restsF_go]; exact rests_back ws sh d row [] hrs
  rw [eC] at hpc
  refine ⟨_, rfl, ne_lst (.inl (.inl hpc)) (.inl (.inl (sC _ _ (sB _ _ hprA)))) ⟨_, rfl, iteF ?_⟩⟩
  refine ⟨_, rfl, _, rfl, _, rfl, a, pr, ws, sh, row, d, rfl, (((hg HA b0A).same sB).same sC), .inl (sC _ _ (sB _ _ hprA)), by omega, hrs, d1, d32, fun HD pd sD npd hpd => ?_⟩
  refine ⟨_, rfl, ne_lst (.inl (.inl hpd)) (.inl (.inl (sD _ _ (sC _ _ (sB _ _ hDA))))) ⟨_, rfl, iteF ?_⟩⟩
  have sAD := (sB.trans sC).trans sD
  have b0D : But g H HD := b0A.same sAD
  have gD : GenAt HD g _ := (g6.same s79).same sAD
  -- great numbers
  refine ⟨_, rfl, b, _, rfl, .inl (.inl (.inl (b0D _ _ nbg hb))), _, rfl, g, _, _, rfl, gD, by omega, by decide, small_2900 (by decide), fun r2 HE r20 r21 gE bE => ?_⟩
  obtain ⟨mo, rfl⟩ : ∃ m : Nat, r2 = (m : Int) := ⟨r2.toNat, by omega⟩
  refine ⟨_, _, rfl, rfl, _, rfl, ?_⟩
  rw [List.length_map]
  refine ⟨by omega, by omega, fun DD nDD => ?_⟩
  have en : ((ws.length : Int) + (mo : Int)).toNat = ws.length + mo := by omega
  rw [en]
  refine lc_drawR (lo := 0) (n := ws.length + mo) g _ 100 (fun _ => True) nDD gE (small1000 (by omega)) (fun x => rfl) ?_ ?_
  · intro i H' hi bb hgi Qt qt
    refine ⟨_, rfl, _, _, rfl, rfl, ⟨by decide, by decide +kernel⟩, g, _, _, rfl, hgi, by omega, by decide, small_2900 (by decide), fun y H2 _ _ g2 b2 => ?_⟩
    refine ⟨_, _, rfl, rfl, ⟨by decide, by decide +kernel⟩, _, _, rfl, rfl, .inl ⟨by decide, by decide⟩, _, _, rfl, rfl, ?_⟩
    exact qt _ H2 trivial b2 (by rw [Nat.mul_succ, ← Nat.add_assoc]; exact g2)
  intro HF ys bF gF hDF hyl _
  have b0F : But g H HF := (b0D.trans bE).trans bF
  have nDDg : DD ≠ g := gE.ne nDD
  have hbF := b0F _ _ nbg hb
  refine ⟨_, rfl, _, rfl, a, DD, ws, sh, ys, rfl, hg HF b0F, .inl hDF, by omega, by omega, fun HG sG => ?_⟩
  refine ⟨_, rfl, _, rfl, _, rfl, b, DD, ws, sh, ys, rfl, .inl (.inl (sG _ _ hbF)), .inl (.inl (sG _ _ hDF)), hW, by omega, by omega, hsh, rfl, _, rfl, ?_⟩
  rw [decide_eq_true rfl]
  refine iteF ?_
  refine ⟨_, rfl, _, rfl, a, DD, ws, sh, ys, rfl, (hg HF b0F).same sG, .inl (sG _ _ hDF), by omega, fun HI pi sI npi hpi => ?_⟩
  refine ⟨_, rfl, _, rfl, _, rfl, b, DD, ws, sh, ys, rfl, .inl (.inl (sI _ _ (sG _ _ hbF))), .inl (.inl (sI _ _ (sG _ _ hDF))), hW, by omega, hsh, fun pj HJ npj sJ hpj => ?_⟩
  refine eq_lst (.inl (.inl (sJ _ _ hpi))) (.inl (.inl hpj)) ?_
  exact q _ (((b0F.same sG).same sI).same sJ) ((((gF.same sG).same sI).same sJ).mono (by omega))
end
end My

namespace My
open PySem PySem.Spec PyProof.Rows L2 Pre
theorem shown_small : ∀ d : Fin 3, ∀ m : Fin 4, (allRows d m).all fun r => decide ((shownR r).length ≤ 100) := by decide +kernel
theorem shown_ok : ∀ d : Fin 3, ∀ m : Fin 4, (allRows d m).all fun r => PyData.strOk (shownR r) := by decide +kernel
theorem small_show {n : Int} (h : n.natAbs < 2 ^ 60) : n.natAbs.log2 < 1920 := Nat.lt_of_lt_of_le (PySem.Flt.log2_lt_of (by decide) h) (by decide)
theorem row_show {r : List Int} (h : ∀ n ∈ r, -(2 ^ 40) < n ∧ n < 2 ^ 40) : PyData.showable (.list (r.map PyData.int)) = true := by
  show PyData.showableAll _ = true
  exact ints_show r fun n hn => small_show (by have := h n hn; omega)
theorem dp_strs {K : PySem.W.Frag} {H : Hp} : ∀ xs : List Str, DpAll K H (xs.map V.str) (xs.map PyData.str)
  | [] => .nil
  | x :: xs => .cons (.str x) (dp_strs xs)
theorem strs_shaped (xs : List Str) (ok : ∀ x ∈ xs, PyData.strOk x = true) : SeqAt.shaped (.list (xs.map PyData.str)) = true := by
  have h1 : ∀ l : List Str, (∀ x ∈ l, PyData.strOk x = true) → PyData.canLayAll0 (l.map PyData.str) = true := fun l => by
    induction l with
    | nil => intro _; rfl
    | cons x l ih => intro h; simp [PyData.canLayAll0, PyData.canLay0, ih fun y hy => h y (List.mem_cons_of_mem _ hy), h x List.mem_cons_self]
  have h2 : ∀ l : List Str, PyData.depthAll (l.map PyData.str) ≤ 1 := fun l => by
    induction l with
    | nil => simp [PyData.depthAll]
    | cons x l ih => simp only [List.map_cons, PyData.depthAll, PyData.depth]; omega
  show (PyData.canLay0 (.list (xs.map PyData.str)) && decide (PyData.depth (.list (xs.map PyData.str)) ≤ 64)) = true
  rw [Bool.and_eq_true]
  have := h2 xs
  exact ⟨by simp only [PyData.canLay0]; exact h1 xs ok, decide_eq_true (by simp only [PyData.depth]; omega)⟩
theorem eqv_strs : ∀ xs : List Str, PyData.eqvAll (xs.map PyData.str) (xs.map PyData.str) = true
  | [] => rfl
  | x :: xs => by
    show (PyData.eqv (.str x) (.str x) && PyData.eqvAll (xs.map PyData.str) (xs.map PyData.str)) = true
    rw [eqv_strs xs, PyData.eqv]
    simp
theorem eq_strs {K : PySem.W.Frag} {H : Hp} {a b : Addr} {xs : List Str} {Q : V → Hp → Prop} (ha : SqL K H a (xs.map V.str)) (hb : SqL K H b (xs.map V.str)) (ok : ∀ x ∈ xs, PyData.strOk x = true) (q : Q (.bl true) H) : rEqD K (.ref a) (.ref b) H Q := by
  refine ⟨.list (xs.map PyData.str), .list (xs.map PyData.str), .lst ha (dp_strs xs), .lst hb (dp_strs xs), strs_shaped xs ok, strs_shaped xs ok, ?_⟩
  rw [PyData.eqv, eqv_strs]
  exact q
section
variable {P : Program} {w : World} {K : PySem.W.Frag} {mg : Str → Option Value} {base : Heap}
def sp_law_all_right (C : Addr) (K : PySem.W.Frag) : Sp := fun vs H Q _ => ∃ (g a : Addr) (ws : List Int) (sh n : Nat), vs = [.ref g, .ref a] ∧ GenAt H g n ∧ n ≤ 10 ^ 8 ∧ GuesserBut C g H a ws sh ∧ ∀ H', But g H H' → GenAt H' g (n + 1000) → Q (.bl true) H'
theorem G_law_all_right (T : Top K mg) : FnG P w K mg base CX0 7 T.f_law_all_right T.fd_law_all_right ["_law_generator_here", "_law_guesser"] (sp_law_all_right T.C_Guesser K) := by
  refine FnG.body T.F_law_all_right sc_law_all_right (fun vs H Q E h => by obtain ⟨g, a, ws, sh, n, rfl, _⟩ := h; rfl) (fun cdv A outer s H vs Q E gd hr h => ?_)
  obtain ⟨g, a, ws, sh, n, rfl, hG, hn, hg, q⟩ := h
  refine ⟨_, PSs.nox (pss_cons (ps_asg (pe_tup (pa_cons (pe_op op_add pe_int (pe_call (G_law_random T) (hr.mono (by decide)) (by rfl) T.g_law_random T.F_law_random.kp T.b_law_random .nil pass0 (pa_cons (pv 0) (pa_cons pe_int pa_nil)))) (pa_cons (pe_op op_add pe_int (pe_call (G_law_random T) (hr.mono (by decide)) (by rfl) T.g_law_random T.F_law_random.kp T.b_law_random .nil pass0 (pa_cons (pv 0) (pa_cons pe_int pa_nil)))) pa_nil))) (k_pgT K rfl (by rfl) (pgs_cons (pg_name (i := 4) sc_law_all_right.nd rfl (by first | exact Or.inl rfl | exact Or.inr rfl)) (pgs_cons (pg_name (i := 5) sc_law_all_right.nd rfl (by first | exact Or.inl rfl | exact Or.inr rfl)) pgs_nil))))
  (pss_cons (ps_set (i := 2) sc_law_all_right.nd rfl (by first | exact Or.inl rfl | exact Or.inr rfl) (pe_call (G_law_all_rows T) (hr.mono (by decide)) (by rfl) T.g_law_all_rows T.F_law_all_rows.kp T.b_law_all_rows .nil pass0 (pa_cons (pv 4) (pa_cons (pv 5) pa_nil))))
  (pss_cons (ps_setLc (i := 3) (own := [("_law_row_here", 6)]) (g := gName 6) (tt := tYes) (by rfl) sc_law_all_right.nd rfl rfl (sw_true rfl rfl rfl (by decide +kernel)) (k_piL K rfl (pv 2)) (blkOk_by (own := [("_law_row_here", 6)]) (N := N_law_all_right) (sc := defScope s_law_all_right) (by decide +kernel)) (fun _ _ _ _ _ => (pg_name (i := 6) sc_law_all_right.nd rfl (by first | exact Or.inl rfl | exact Or.inr rfl))) (fun _ _ _ _ _ => pts_nil) (fun _ _ _ _ _ => (pe_callB (k_repr K rfl gd (hu65 hr)) (by rfl) T.n_repr (by decide +kernel) (pa_cons (pe_call (G_rests T) (hr.mono (by decide)) (by rfl) T.g_rests T.F_rests.kp T.b_rests .nil pass0 (pa_cons (pv 1) (pa_cons (pv 4) (pa_cons (pv 6) pa_nil)))) pa_nil))))
  (pss_one (ps_ret (pe_cmpR (k_eqD K rfl hr.units) (pe_callB (k_sortedS K rfl) (by rfl) T.n_sorted (by decide +kernel) (pa_cons (pv 3) pa_nil)) (pe_callB (k_sortedS K rfl) (by rfl) T.n_sorted (by decide +kernel) (pa_cons (pe_lc (own := [("_law_row_here", 6)]) (g := gName 6) (tt := tYes) (by rfl) sc_law_all_right.nd (k_piL K rfl (pv 2)) (blkOk_by (own := [("_law_row_here", 6)]) (N := N_law_all_right) (sc := defScope s_law_all_right) (by decide +kernel)) (fun _ _ _ _ _ => (pg_name (i := 6) sc_law_all_right.nd rfl (by first | exact Or.inl rfl | exact Or.inr rfl))) (fun _ _ _ _ _ => pts_nil) (fun _ _ _ _ _ => (pe_callB (k_repr K rfl gd (hu65 hr)) (by rfl) T.n_repr (by decide +kernel) (pa_cons (pv 6) pa_nil)))) pa_nil)) (nomark _))))))), ?_⟩
  refine ⟨_, rfl, g, _, _, rfl, hG, by omega, by decide, small_2900 (by decide), fun r1 H1 r10 r11 g1 b1 => ?_⟩
  refine ⟨_, _, rfl, rfl, _, rfl, g, _, _, rfl, g1, by omega, by decide, small_2900 (by decide), fun r2 H2 r20 r21 g2 b2 => ?_⟩
  obtain ⟨d, hd⟩ : ∃ d : Nat, 1 + r1 = (d : Int) := ⟨(1 + r1).toNat, by omega⟩
  obtain ⟨m, hm⟩ : ∃ d : Nat, 1 + r2 = (d : Int) := ⟨(1 + r2).toNat, by omega⟩
  refine ⟨_, _, rfl, rfl, (show 2 ≤ sizeLine by decide), fun t nt => ?_⟩
  dsimp only
  rw [hd, hm]
  obtain ⟨H3, e3, s3, h3⟩ := fresh (.tup [V.int (d : Int), V.int (m : Int)]) nt
  rw [e3]
  refine ⟨t, _, rfl, .inl (.inl h3), rfl, _, _, rfl, _, _, rfl, rfl, ?_⟩
  refine ⟨_, rfl, _, rfl, d, m, rfl, by omega, by omega, by omega, fun H4 pr s4 hR => ?_⟩
  obtain ⟨as, hpr, hal, hat⟩ := id hR
  have b04 : But g H H4 := (((b1.trans b2).same s3).same s4)
  have hG4 := hg H4 b04
  have hrl := rows_len d (by omega) m (by omega)
  have h8 : 8 ^ m ≤ 8 ^ 3 := Nat.pow_le_pow_right (by decide) (by omega)
  have hrow : ∀ (i : Nat) (x : V), (as.map V.ref)[i]? = some x → ∃ ra r, x = .ref ra ∧ as[i]? = some ra ∧ (allRows d m)[i]? = some r ∧ H4 ra = some (.lst (r.map V.int)) ∧ r.length = m ∧ Samples d r := fun i x hx => by
    rw [List.getElem?_map] at hx
    obtain ⟨ra, hra, rfl⟩ := Option.map_eq_some_iff.mp hx
    have hj : i < as.length := (List.getElem?_eq_some_iff.mp hra).1
    obtain ⟨r, hr⟩ : ∃ r, (allRows d m)[i]? = some r := ⟨_, List.getElem?_eq_getElem (by omega)⟩
    obtain ⟨hrn, hrs⟩ := mem_rows.mp (List.mem_of_getElem? hr)
    exact ⟨ra, r, rfl, hra, hr, hat i ra r hra hr, hrn, hrs⟩
  have hp4 : (2 : Int) ^ (d - 1) ≤ 2 ^ 2 := pow2_le (by omega)
  have hshow : ∀ r, r.length = m → Samples d r → PyData.showable (.list (r.map PyData.int)) = true ∧ (PyData.shown (.list (r.map PyData.int))).length ≤ sizeLine := fun r hr hs => by
    refine ⟨row_show fun n hn => by have := hs n hn; omega, ?_⟩
    have := of_decide_eq_true (List.all_eq_true.mp (shown_small ⟨d, by omega⟩ ⟨m, by omega⟩) r (mem_rows.mpr ⟨hr, hs⟩))
    exact Nat.le_trans this (by rw [sizeLine_eq]; omega)
  have hS4 : SqL K H4 pr (as.map V.ref) := .inl (.inl hpr)
  refine ⟨_, rfl, pr, rfl, ⟨_, hS4⟩, fun D nD => ?_⟩
  refine lc_mapL (K := K) (xs := as.map V.ref) (((allRows d m).map fun r => shownR (restsF ws sh d r)).map V.str) nD hS4 (by simp [hal]) (by rw [List.length_map]; exact small1000 (by omega)) (fun x => rfl) ?_ ?_
  · intro i x y H' hx hy s Qt qt
    obtain ⟨ra, r, rfl, hra, hr, hr4, hrn, hrs⟩ := hrow i x hx
    rw [List.getElem?_map, List.getElem?_map, hr] at hy
    cases hy
    refine ⟨_, rfl, _, rfl, _, rfl, a, ra, ws, sh, r, d, rfl, hG4.same s, .inl (s _ _ hr4), by omega, hrs, by omega, by omega, fun H5 p5 s5 np5 h5 => ?_⟩
    have hfl : (restsF ws sh d r).length = m := by unfold restsF; rw [List.length_map, toldR_len]; exact hrn
    have hfs : Samples d (restsF ws sh d r) := by rw [restsF_go]; exact rests_samples ws sh d r []
    obtain ⟨w1, w2⟩ := hshow _ hfl hfs
    exact ⟨_, _, rfl, My.dp_row (.inl (.inl h5)), w1, row_shaped _, w2, qt _ s5⟩
  intro H5 s5 hD5
  refine ⟨_, rfl, D, _, rfl, .inl (.inl hD5), fun zs p6 hz1 hz2 np6 => ?_⟩
  obtain ⟨H6, e6, s6, h6⟩ := fresh (.lst (zs.map V.str)) np6
  rw [e6]
  have s46 := s5.trans s6
  have hS6 : SqL K H6 pr (as.map V.ref) := s46.seq hS4
  refine ⟨_, rfl, pr, rfl, ⟨_, hS6⟩, fun E nE => ?_⟩
  refine lc_mapL (K := K) (xs := as.map V.ref) (((allRows d m).map shownR).map V.str) nE hS6 (by simp [hal]) (by rw [List.length_map]; exact small1000 (by omega)) (fun x => rfl) ?_ ?_
  · intro i x y H' hx hy s Qt qt
    obtain ⟨ra, r, rfl, hra, hr, hr4, hrn, hrs⟩ := hrow i x hx
    rw [List.getElem?_map, List.getElem?_map, hr] at hy
    cases hy
    obtain ⟨w1, w2⟩ := hshow _ hrn hrs
    exact ⟨_, rfl, _, _, rfl, My.dp_row (.inl (.inl (s _ _ (s46 _ _ hr4)))), w1, row_shaped _, w2, qt _ (Same.refl _)⟩
  intro H7 s7 hE7
  refine ⟨E, _, rfl, .inl (.inl hE7), fun ys p8 hy1 hy2 np8 => ?_⟩
  obtain ⟨H8, e8, s8, h8'⟩ := fresh (.lst (ys.map V.str)) np8
  rw [e8]
  have hpm : ((allRows d m).map fun r => shownR (restsF ws sh d r)).Perm ((allRows d m).map shownR) := by
    have := (rests_perm ws sh d m).map shownR
    rw [List.map_map] at this
    exact this
  have ezy : zs = ys := sorted_uniq ((hz1.trans hpm).trans hy1.symm) hz2 hy2
  subst ezy
  refine eq_strs (.inl (.inl (s8 _ _ (s7 _ _ h6)))) (.inl (.inl h8')) (fun x hx => ?_) ?_
  · obtain ⟨r, hr, rfl⟩ := List.mem_map.mp (hy1.mem_iff.mp hx)
    exact List.all_eq_true.mp (shown_ok ⟨d, by omega⟩ ⟨m, by omega⟩) r hr
  exact q _ (((b04.same s46).same s7).same s8) (((((((g2.same s3).same s4).same s46).same s7).same s8)).mono (by omega))
end
end My

namespace My
open PySem PySem.Spec PyProof.Rows L2 Pre
section
variable {P : Program} {w : World} {K : PySem.W.Frag} {mg : Str → Option Value} {base : Heap}
def sp_law_steps_right : Sp := fun vs H Q _ => ∃ (g : Addr) (n : Nat), vs = [.ref g] ∧ GenAt H g n ∧ n ≤ 10 ^ 8 ∧ ∀ H', But g H H' → GenAt H' g (n + 10000) → Q (.bl true) H'
theorem G_law_steps_right (T : Top K mg) : FnOk P w K mg base CX0 6 T.f_law_steps_right T.fd_law_steps_right ["_law_generator_here"] sp_law_steps_right := by
  refine T.F_law_steps_right.ok sc_law_steps_right (fun vs H Q E h => by obtain ⟨g, n, rfl, _⟩ := h; rfl) (fun cdv A outer s H vs Q E hr h => ?_)
  obtain ⟨g, n, rfl, hG, hn, q⟩ := h
  refine ⟨_, PSs.nox (pss_cons (ps_set (i := 1) sc_law_steps_right.nd rfl (by first | exact Or.inl rfl | exact Or.inr rfl) (pe_call (G_law_random T) (hr.mono (by decide)) (by rfl) T.g_law_random T.F_law_random.kp T.b_law_random .nil pass0 (pa_cons (pv 0) (pa_cons pe_int pa_nil))))
  (pss_cons (ps_setLc (i := 2) (own := [("_law_place", 6)]) (g := gName 6) (tt := tYes) (by rfl) sc_law_steps_right.nd rfl rfl (sw_true rfl rfl rfl (by decide +kernel)) (pi_range1 (by rfl) T.n_range (pa_cons (pe_op op_add (pe_op op_add (pv 1) pe_int) (pe_call (G_law_random T) (hr.mono (by decide)) (by rfl) T.g_law_random T.F_law_random.kp T.b_law_random .nil pass0 (pa_cons (pv 0) (pa_cons pe_int pa_nil)))) pa_nil)) (blkOk_by (own := [("_law_place", 6)]) (N := N_law_steps_right) (sc := defScope s_law_steps_right) (by decide +kernel)) (fun _ _ _ _ _ => (pg_name (i := 6) sc_law_steps_right.nd rfl (by first | exact Or.inl rfl | exact Or.inr rfl))) (fun _ _ _ _ _ => pts_nil) (fun _ _ _ _ _ => (pe_op op_sub (pe_call (G_law_random T) (hr.mono (by decide)) (by rfl) T.g_law_random T.F_law_random.kp T.b_law_random .nil pass0 (pa_cons (pv 0) (pa_cons pe_int pa_nil))) pe_int)))
  (pss_cons (ps_set (i := 3) sc_law_steps_right.nd rfl (by first | exact Or.inl rfl | exact Or.inr rfl) (pe_callTy (k_listOf K rfl) (by rfl) T.n_list (by decide +kernel) (pa_cons (pv 2) pa_nil)))
  (pss_cons (ps_for PassesOwn.never rfl (pi_range1 (by rfl) T.n_range (pa_cons (pv 1) pa_nil)) (pg_name (i := 4) sc_law_steps_right.nd rfl (by first | exact Or.inl rfl | exact Or.inr rfl))
    (pss_one (ps_set (i := 3) sc_law_steps_right.nd rfl (Or.inr rfl) (pe_lc (own := [("_law_at", 7)]) (g := gName 7) (tt := tYes) (by rfl) sc_law_steps_right.nd (pi_range1 (by rfl) T.n_range (pa_cons (pe_op op_sub (pe_callB (k_len K rfl) (by rfl) T.n_len (by decide +kernel) (pa_cons (pv 3) pa_nil)) pe_int) pa_nil)) (blkOk_by (own := [("_law_at", 7)]) (N := N_law_steps_right) (sc := defScope s_law_steps_right) (by decide +kernel)) (fun _ _ _ _ _ => (pg_name (i := 7) sc_law_steps_right.nd rfl (by first | exact Or.inl rfl | exact Or.inr rfl))) (fun _ _ _ _ _ => pts_nil) (fun _ _ _ _ _ => (pe_op op_sub (pe_ix (k_ixL K rfl) (pv 3) (pe_op op_add (pv 7) pe_int) (fun _ _ => rfl)) (pe_ix (k_ixL K rfl) (pv 3) (pv 7) (fun _ _ => rfl))))))))
  (pss_cons (ps_set (i := 5) sc_law_steps_right.nd rfl (by first | exact Or.inl rfl | exact Or.inr rfl) (pe_call (G_steps T) (hr.mono (by decide)) (by rfl) T.g_steps T.F_steps.kp T.b_steps .nil pass0 (pa_cons (pv 1) pa_nil)))
  (pss_one (ps_ret (pe_and (pe_cmpR (k_eqD K rfl hr.units) (pe_slice (k_slL K rfl) (pe_call (G_plain_rests T) (hr.mono (by decide)) (by rfl) T.g_plain_rests T.F_plain_rests.kp T.b_plain_rests .nil pass0 (pa_cons (pv 5) (pa_cons (pv 2) pa_nil))) (po_some (pv 1)) po_none) (pv 3) (nomark _)) (pe_and (pe_cmpR op_eq (pe_meth0 (pv 5) T.cl_Guesser T.me_Guesser_order (G_Guesser_order T) (hr.mono (by decide)) T.b_Guesser_order .nil pass0) (pv 1) (nomark _)) (pe_one (pe_cmpR op_eq (pe_meth0 (pv 5) T.cl_Guesser T.me_Guesser_shift (G_Guesser_shift T) (hr.mono (by decide)) T.b_Guesser_shift .nil pass0) pe_int (nomark _)))))))))))), ?_⟩
  refine ⟨_, rfl, g, _, _, rfl, hG, by omega, by decide, small_2900 (by decide), fun r1 H1 r10 r11 g1 b1 => ?_⟩
  obtain ⟨k, rfl⟩ : ∃ d : Nat, r1 = (d : Int) := ⟨r1.toNat, by omega⟩
  refine ⟨_, rfl, _, _, rfl, rfl, _, rfl, g, _, _, rfl, g1, by omega, by decide, small_2900 (by decide), fun r2 H2 r20 r21 g2 b2 => ?_⟩
  obtain ⟨mo, rfl⟩ : ∃ d : Nat, r2 = (d : Int) := ⟨r2.toNat, by omega⟩
  refine ⟨_, _, rfl, rfl, _, rfl, by omega, by omega, fun D nD => ?_⟩
  have en : ((k : Int) + 1 + (mo : Int)).toNat = k + 1 + mo := by omega
  rw [en]
  refine lc_drawR (lo := 0) (n := k + 1 + mo) g _ 100 (fun _ => True) nD g2 (small1000 (by omega)) (fun x => rfl) ?_ ?_
  · intro i H' hi bb hgi Qt qt
    refine ⟨_, rfl, g, _, _, rfl, hgi, by omega, by decide, small_2900 (by decide), fun y H3 _ _ g3 b3 => ?_⟩
    exact ⟨_, _, rfl, rfl, qt _ H3 trivial b3 (by rw [Nat.mul_succ, ← Nat.add_assoc]; exact g3)⟩
  intro H3 row b3 g3 hD hrl _
  have b03 : But g H H3 := (b1.trans b2).trans b3
  refine ⟨_, rfl, D, _, rfl, .inl (.inl (.inl hD)), fun p4 np4 => ?_⟩
  obtain ⟨H4, e4, s4, h4⟩ := fresh (.lst (row.map V.int)) np4
  rw [e4]
  refine ⟨_, rfl, _, rfl, by omega, by omega, ?_⟩
  rw [Int.toNat_natCast]
  refine for_range (lo := 0) (n := k) (fun i σ H5 => ∃ (p : Addr) (v4 v7 : Option V), σ = [some (.ref g), some (.int k), some (.ref D), some (.ref p), v4, none, none, v7] ∧ Same H3 H5 ∧ H5 p = some (.lst ((diffs i row).map V.int))) ⟨p4, none, none, rfl, s4, h4⟩ ?_ ?_
  · rintro i σ H5 hi ⟨p, v4, v7, rfl, s5, h5⟩
    have hdl := diffs_len row i
    refine ⟨_, rfl, p, _, rfl, .inl (.inl (.inl h5)), _, _, rfl, rfl, _, rfl, ?_⟩
    have en2 : (((diffs i row).map V.int).length : Int) - 1 = (((diffs i row).length - 1 : Nat) : Int) := by rw [List.length_map]; omega
    dsimp only
    rw [en2]
    refine ⟨by omega, by omega, fun D2 nD2 => ?_⟩
    rw [Int.toNat_natCast]
    refine lc_mapR (lo := 0) (n := (diffs i row).length - 1) ((diff (diffs i row)).map V.int) nD2 (by rw [List.length_map, diff_len]) (small1000 (by omega)) (fun x => rfl) ?_ ?_
    · intro j y H' hj hy s Qt qt
      have h5' := s _ _ h5
      unfold diff at hy
      rw [List.getElem?_map, List.getElem?_map, List.getElem?_range hj] at hy
      cases hy
      refine ⟨_, rfl, _, rfl, _, _, rfl, rfl, p, _, _, .int ((diffs i row).getD (j + 1) 0), rfl, rfl, .inl (.inl h5'), ?_, _, rfl, _, rfl, p, _, _, .int ((diffs i row).getD j 0), rfl, rfl, .inl (.inl h5'), ?_, _, _, rfl, rfl, qt _ (Same.refl _)⟩
      · rw [show 0 + (j : Int) + 1 = ((j + 1 : Nat) : Int) by omega]
        exact at_ints (by omega)
      · rw [Int.zero_add]
        exact at_ints (by omega)
    · intro H6 s6 hD6
      exact ⟨D2, _, _, rfl, s5.trans s6, hD6⟩
  · rintro σ H5 ⟨p, v4, v7, rfl, s5, h5⟩
    refine ⟨_, rfl, k, rfl, by omega, fun a H6 s6 hG6 => ?_⟩
    have hD6 := s6 _ _ (s5 _ _ hD)
    have h56 := s6 _ _ h5
    refine ⟨_, rfl, _, rfl, a, D, stepW k, 0, row, rfl, hG6, .inl hD6, by omega, fun H7 p7 s7 np7 h7 => ?_⟩
    refine ⟨_, rfl, _, rfl, p7, _, rfl, .inl (.inl h7), fun c nc => ?_⟩
    rw [cut_drop, ← List.map_drop, steps_diffs]
    obtain ⟨H8, e8, s8, h8⟩ := fresh (.lst ((diffs k row).map V.int)) nc
    rw [e8]
    have hG8 := (hG6.same s7).same s8
    obtain ⟨_, _, dx, pp, hx, _⟩ := id hG8
    refine ⟨_, rfl, eq_lst (.inl (.inl h8)) (.inl (.inl (s8 _ _ (s7 _ _ h56)))) ⟨_, rfl, iteT ?_⟩⟩
    refine ⟨_, rfl, a, dx, _, rfl, hx, rfl, a, stepW k, 0, rfl, hG8, _, rfl, rfl, _, rfl, ?_⟩
    rw [stepW_len, decide_eq_true rfl]
    refine iteT ⟨_, rfl, a, dx, _, rfl, hx, rfl, a, stepW k, 0, rfl, hG8, rfl, ?_⟩
    rw [decide_eq_true (show V.int ((0 : Nat) : Int) = V.int 0 from rfl)]
    exact q _ (b03.same (((s5.trans s6).trans s7).trans s8)) ((g3.same (((s5.trans s6).trans s7).trans s8)).mono (by omega))
theorem keep_same {H0 H' : Hp} {x dx C : Addr} (nx : H0 x = none) (ndx : H0 dx = none) (kp : ∀ b o, b ≠ x → (upd (upd H0 dx (.own x)) x (.ins C dx [])) b = some o → H' b = some o) : Same H0 H' := fun b o e => by
  refine kp b o (ne_of_none e nx) ?_
  rw [upd_ne (ne_of_none e nx), upd_ne (ne_of_none e ndx)]
  exact e
theorem new_free {H0 : Hp} {x dx C p : Addr} (h : (upd (upd H0 dx (.own x)) x (.ins C dx [])) p = none) : H0 p = none := by
  unfold upd at h
  split at h
  · cases h
  · split at h
    · cases h
    · exact h
def sp_law (K : PySem.W.Frag) : Sp := fun vs H Q _ => ∃ (a : Addr) (ns : List Int), vs = [.ref a] ∧ SqL K H a (ns.map V.int) ∧ ns.length ≤ 63 ∧ ∀ H', Q (.bl true) H'
theorem G_law (T : Top K mg) : FnG P w K mg base CX0 9 T.f_law T.fd_law ["_law_script"] (sp_law K) := by
  refine FnG.body T.F_law sc_law (fun vs H Q E h => by obtain ⟨a, ns, rfl, _⟩ := h; rfl) (fun cdv A outer s H vs Q E gd hr h => ?_)
  obtain ⟨a, ns, rfl, hS, hn, q⟩ := h
  refine ⟨_, PSs.nox (pss_cons (ps_for PassesOwn.never rfl (pi_range1 (by rfl) T.n_range (pa_cons pe_int pa_nil)) (pg_name (i := 1) sc_law.nd rfl (by first | exact Or.inl rfl | exact Or.inr rfl))
    (pss_cons (ps_set (i := 2) sc_law.nd rfl (by first | exact Or.inl rfl | exact Or.inr rfl) (pe_call (G_law_generator T) (hr.mono (by decide)) (by rfl) T.g_law_generator T.F_law_generator.kp T.b_law_generator .nil pass0 (pa_cons (pv 0) (pa_cons (pv 1) pa_nil))))
  (pss_cons (ps_par (by rfl) sc_law.nd (i := 5) (j := 6) rfl rfl (by decide) rfl rfl (pa_cons (pe_call (G_law_weights T) (hr.mono (by decide)) (by rfl) T.g_law_weights T.F_law_weights.kp T.b_law_weights .nil pass0 (pa_cons (pv 2) (pa_cons (pe_call (G_law_random T) (hr.mono (by decide)) (by rfl) T.g_law_random T.F_law_random.kp T.b_law_random .nil pass0 (pa_cons (pv 2) (pa_cons pe_int pa_nil))) pa_nil))) (pa_cons (pe_call (G_law_random T) (hr.mono (by decide)) (by rfl) T.g_law_random T.F_law_random.kp T.b_law_random .nil pass0 (pa_cons (pv 2) (pa_cons pe_int pa_nil))) pa_nil)) (by rfl))
  (pss_cons (ps_set (i := 3) sc_law.nd rfl (by first | exact Or.inl rfl | exact Or.inr rfl) (pe_callTy (k_listOf K rfl) (by rfl) T.n_list (by decide +kernel) (pa_cons (pv 5) pa_nil)))
  (pss_cons (ps_set (i := 4) sc_law.nd rfl (by first | exact Or.inl rfl | exact Or.inr rfl) (pe_make T.mk_Guesser (G_Guesser___init__ T) (hr.mono (by decide)) (by rfl) T.gc_Guesser T.b_Guesser___init__ .nil pass0 (pa_cons (pv 3) (pa_cons (pv 6) pa_nil))))
  (pss_cons (ps_expr (pe_bm PySem.F.plainAttrs_list PySem.F.slot_list_append PySem.F.type_list_append mt_append (pv 3) (pa_cons pe_int pa_nil)))
  (pss_cons (ps_if (PW.pt (pw_or (pt_cmpR (k_neD K rfl hr.units) (pe_meth0 (pv 4) T.cl_Guesser T.me_Guesser_weights (G_Guesser_weights T) (hr.mono (by decide)) T.b_Guesser_weights .nil pass0) (pv 5) (nomark _)) (pw_or (pt_cmpR op_ne (pe_meth0 (pv 4) T.cl_Guesser T.me_Guesser_shift (G_Guesser_shift T) (hr.mono (by decide)) T.b_Guesser_shift .nil pass0) (pv 6) (nomark _)) (pw_or1 (pt_cmpR op_ne (pe_meth0 (pv 4) T.cl_Guesser T.me_Guesser_order (G_Guesser_order T) (hr.mono (by decide)) T.b_Guesser_order .nil pass0) (pe_callB (k_len K rfl) (by rfl) T.n_len (by decide +kernel) (pa_cons (pv 5) pa_nil)) (nomark _))))))
    (pss_one (ps_ret pe_bl))
    pss_nil)
  (pss_cons (ps_expr (pe_bm PySem.F.plainAttrs_list PySem.F.slot_list_append PySem.F.type_list_append mt_append (pe_meth0 (pv 4) T.cl_Guesser T.me_Guesser_weights (G_Guesser_weights T) (hr.mono (by decide)) T.b_Guesser_weights .nil pass0) (pa_cons pe_int pa_nil)))
  (pss_cons (ps_if (PW.pt (pw_or (pt_cmpR (op_own_ne T.ec_Guesser (G_Guesser___eq__ T) (hr.mono (by decide)) T.b_Guesser___eq__ pass0) (pv 4) (pe_make T.mk_Guesser (G_Guesser___init__ T) (hr.mono (by decide)) (by rfl) T.gc_Guesser T.b_Guesser___init__ .nil pass0 (pa_cons (pv 5) (pa_cons (pv 6) pa_nil))) (nomark _)) (pw_or (pt_cmpR (op_own_eq T.ec_Guesser (G_Guesser___eq__ T) (hr.mono (by decide)) T.b_Guesser___eq__ pass0) (pv 4) (pe_make T.mk_Guesser (G_Guesser___init__ T) (hr.mono (by decide)) (by rfl) T.gc_Guesser T.b_Guesser___init__ .nil pass0 (pa_cons (pv 5) (pa_cons (pe_op op_add (pv 6) pe_int) pa_nil))) (nomark _)) (pw_or1 (pt_cmpR (op_own_eq T.ec_Guesser (G_Guesser___eq__ T) (hr.mono (by decide)) T.b_Guesser___eq__ pass0) (pv 4) (pv 5) (nomark _))))))
    (pss_one (ps_ret pe_bl))
    pss_nil)
  (pss_cons (ps_if (PW.pt (pw_or (pt_cmpR (op_own_eq T.ec_Guesser (G_Guesser___eq__ T) (hr.mono (by decide)) T.b_Guesser___eq__ pass0) (pv 4) (pe_make T.mk_Guesser (G_Guesser___init__ T) (hr.mono (by decide)) (by rfl) T.gc_Guesser T.b_Guesser___init__ .nil pass0 (pa_cons (pe_op op_cat (pv 5) (pe_lst (pa_cons pe_int pa_nil))) (pa_cons (pv 6) pa_nil))) (nomark _)) (pw_or1 (pt_not (pt_val (pe_call (G_law_right T) (hr.mono (by decide)) (by rfl) T.g_law_right T.F_law_right.kp T.b_law_right .nil pass0 (pa_cons (pv 2) (pa_cons (pv 4) (pa_cons (pv 5) (pa_cons (pv 6) pa_nil))))))))))
    (pss_one (ps_ret pe_bl))
    pss_nil)
  (pss_one (ps_if (PW.pt (pw_or (pt_not (pt_val (pe_callG (G_law_all_right T) gd (hr.mono (by decide)) (by rfl) T.g_law_all_right T.F_law_all_right.kp T.b_law_all_right .nil pass0 (pa_cons (pv 2) (pa_cons (pv 4) pa_nil))))) (pw_or1 (pt_not (pt_val (pe_call (G_law_steps_right T) (hr.mono (by decide)) (by rfl) T.g_law_steps_right T.F_law_steps_right.kp T.b_law_steps_right .nil pass0 (pa_cons (pv 2) pa_nil)))))))
    (pss_one (ps_ret pe_bl))
    pss_nil))))))))))))
  (pss_one (ps_ret pe_bl))), ?_⟩
  refine ⟨_, rfl, by decide, by decide, ?_⟩
  refine for_range (lo := 0) (n := 3) (fun i σ H1 => ∃ v1 v2 v3 v4 v5 v6, σ = [some (.ref a), v1, v2, v3, v4, v5, v6] ∧ Same H H1) ⟨none, none, none, none, none, none, rfl, Same.refl _⟩ ?_ ?_
  · rintro i σ H1 hi ⟨v1, v2, v3, v4, v5, v6, rfl, s1⟩
    refine ⟨_, rfl, _, rfl, a, ns, i, ?_, s1.seq hS, fun H2 g s2 ng g2 => ?_⟩
    · show [V.ref a, V.int (0 + (i : Int))] = _
      rw [Int.zero_add]
    refine ⟨_, rfl, _, rfl, g, _, _, rfl, g2, by omega, by decide, small_2900 (by decide), fun r1 H3 r10 r11 g3 b3 => ?_⟩
    obtain ⟨m, rfl⟩ : ∃ d : Nat, r1 = (d : Int) := ⟨r1.toNat, by omega⟩
    refine ⟨g, m, _, rfl, g3, by omega, by omega, fun H4 pw ws b4 npw hpw g4 hW hwl => ?_⟩
    have npwg : pw ≠ g := g3.ne npw
    refine ⟨_, rfl, g, _, _, rfl, g4, by omega, by decide, small_2900 (by decide), fun r2 H5 r20 r21 g5 b5 => ?_⟩
    obtain ⟨sh, rfl⟩ : ∃ d : Nat, r2 = (d : Int) := ⟨r2.toNat, by omega⟩
    refine ⟨_, _, rfl, ?_⟩
    have hpw5 := b5 _ _ npwg hpw
    have b15 : But g H2 H5 := (b3.trans b4).trans b5
    -- the guesser
    refine ⟨_, rfl, pw, _, rfl, .inl (.inl (.inl hpw5)), fun gv ngv => ?_⟩
    obtain ⟨H6, e6, s6, hgv6⟩ := fresh (.lst (ws.map V.int)) ngv
    rw [e6]
    have ngvg : gv ≠ g := g5.ne ngv
    have g6 := g5.same s6
    refine ⟨_, rfl, _, rfl, ?_⟩
    intro x dx nx ndx nex
    have s6' : Same H6 (upd (upd H6 dx (.own x)) x (.ins T.C_Guesser dx [])) := fun b o e => by
      rw [upd_ne (ne_of_none e nx), upd_ne (ne_of_none e ndx)]
      exact e
    refine ⟨x, gv, dx, ws, sh, rfl, upd_same, .inl (s6' _ _ hgv6), hW, by omega, fun H7 kp7 hG7 hnew => ⟨rfl, ?_⟩⟩
    have s67 : Same H6 H7 := keep_same nx ndx kp7
    have GB : ∀ H', (∀ b o, b ≠ gv → b ≠ g → H7 b = some o → H' b = some o) → GuesserAt T.C_Guesser H' x ws sh := fun H' kk => by
      obtain ⟨hW7, hs7, dx7, p7, hx7, hp7⟩ := hG7
      obtain ⟨dx8, p8, hx8, np8⟩ := hnew
      rw [hx7] at hx8
      cases hx8
      have np8' := new_free np8
      exact ⟨hW7, hs7, dx7, p7, kk _ _ (ne_of_none hgv6 nx).symm ((g6.ne nx)) hx7, kk _ _ (ne_of_none hgv6 np8').symm (g6.ne np8') hp7⟩
    have hgv7 := s67 _ _ hgv6
    have hpw7 := s67 _ _ (s6 _ _ hpw5)
    have npwgv : pw ≠ gv := ne_of_none hpw5 ngv
    refine ⟨_, rfl, .inl ⟨rfl, _, .inl (.inl hgv7)⟩, gv, _, _, rfl, rfl, hgv7, by rw [List.length_map]; exact small1000 (by have := hW.1; omega), ?_⟩
    have b78 : But gv H7 (upd H7 gv (.lst (ws.map V.int ++ [V.int 7]))) := But.upd But.refl
    have g8 : GenAt (upd H7 gv (.lst (ws.map V.int ++ [V.int 7]))) g _ := (g6.same s67).off ngvg
    generalize upd H7 gv (.lst (ws.map V.int ++ [V.int 7])) = H8 at b78 g8
    have b28 : But g H2 H8 := fun b o nb hb => by
      have h5 := b15 b o nb hb
      exact b78 b o (ne_of_none h5 ngv) (s67 _ _ (s6 _ _ h5))
    have hpw8 := b78 _ _ npwgv hpw7
    have GB8 : GuesserBut T.C_Guesser g H8 x ws sh := fun H' bb => GB H' fun b o n1 n2 hb => bb b o n2 (b78 b o n1 hb)
    have hG8 := GB8 H8 But.refl
    obtain ⟨_, _, dxx, pp, hx8, _⟩ := id hG8
    -- weights, shift, order
    refine ⟨_, rfl, x, dxx, _, rfl, hx8, rfl, x, ws, sh, rfl, hG8, fun p9 H9 np9 s9 h9 => ?_⟩
    refine ⟨_, rfl, ne_lst (.inl (.inl h9)) (.inl (.inl (s9 _ _ hpw8))) ⟨_, rfl, iteF ?_⟩⟩
    have hx9 := s9 _ _ hx8
    have hG9 := hG8.same s9
    refine ⟨_, rfl, x, dxx, _, rfl, hx9, rfl, x, ws, sh, rfl, hG9, _, rfl, rfl, _, rfl, ?_⟩
    rw [decide_eq_true rfl]
    refine iteF ⟨_, rfl, x, dxx, _, rfl, hx9, rfl, x, ws, sh, rfl, hG9, _, rfl, pw, _, rfl, .inl (.inl (.inl (s9 _ _ hpw8))), rfl, _, rfl, ?_⟩
    rw [List.length_map, decide_eq_true rfl]
    refine iteF ?_
    -- weights().append(5)
    refine ⟨_, rfl, x, dxx, _, rfl, hx9, rfl, x, ws, sh, rfl, hG9, fun pA HA npA sA hA => ?_⟩
    refine ⟨.inl ⟨rfl, _, .inl (.inl hA)⟩, pA, _, _, rfl, rfl, hA, by rw [List.length_map]; exact small1000 (by have := hW.1; omega), ?_⟩
    have s9B : Same H9 (upd HA pA (.lst (ws.map V.int ++ [V.int 5]))) := same_over npA sA
    generalize upd HA pA (.lst (ws.map V.int ++ [V.int 5])) = HB at s9B
    have s8B := s9.trans s9B
    have hxB := s8B _ _ hx8
    have hpwB := s8B _ _ hpw8
    -- guesser != Guesser(weights, shift)
    refine ⟨_, rfl, _, rfl, _, rfl, ?_⟩
    intro y1 d1 ny1 nd1 ne1
    have sC' : Same HB (upd (upd HB d1 (.own y1)) y1 (.ins T.C_Guesser d1 [])) := fun b o e => by
      rw [upd_ne (ne_of_none e ny1), upd_ne (ne_of_none e nd1)]
      exact e
    refine ⟨y1, pw, d1, ws, sh, rfl, upd_same, .inl (sC' _ _ hpwB), hW, by omega, fun HC kpC hGC _ => ⟨rfl, ?_⟩⟩
    have sBC : Same HB HC := keep_same ny1 nd1 kpC
    obtain ⟨_, _, dy1, py1, hy1, _⟩ := id hGC
    refine ⟨x, dxx, _, rfl, sBC _ _ hxB, ⟨y1, rfl, .inl ⟨_, _, hy1⟩⟩, x, y1, ws, sh, true, rfl, (hG8.same s8B).same sBC, .inl ⟨ws, sh, hGC, (decide_eq_true ⟨rfl, rfl⟩).symm⟩, true, rfl, _, rfl, iteF ?_⟩
    have s8C := s8B.trans sBC
    -- guesser == Guesser(weights, shift + 1)
    refine ⟨_, rfl, _, rfl, _, rfl, _, _, rfl, rfl, ?_⟩
    intro y2 d2 ny2 nd2 ne2
    have sD' : Same HC (upd (upd HC d2 (.own y2)) y2 (.ins T.C_Guesser d2 [])) := fun b o e => by
      rw [upd_ne (ne_of_none e ny2), upd_ne (ne_of_none e nd2)]
      exact e
    refine ⟨y2, pw, d2, ws, sh + 1, rfl, upd_same, .inl (sD' _ _ (sBC _ _ hpwB)), hW, by omega, fun HD kpD hGD _ => ⟨rfl, ?_⟩⟩
    have sCD : Same HC HD := keep_same ny2 nd2 kpD
    obtain ⟨_, _, dy2, py2, hy2, _⟩ := id hGD
    have s8D := s8C.trans sCD
    refine ⟨x, dxx, _, rfl, s8D _ _ hx8, ⟨y2, rfl, .inl ⟨_, _, hy2⟩⟩, x, y2, ws, sh, false, rfl, hG8.same s8D, .inl ⟨ws, sh + 1, hGD, (decide_eq_false (fun z => by omega)).symm⟩, false, rfl, _, rfl, iteF ?_⟩
    -- guesser == weights
    refine ⟨_, rfl, _, rfl, x, dxx, _, rfl, s8D _ _ hx8, ⟨pw, rfl, .inr ⟨_, .inl (.inl (s8D _ _ hpw8))⟩⟩, x, pw, ws, sh, false, rfl, hG8.same s8D, .inr ⟨rfl, _, .inl (s8D _ _ hpw8)⟩, false, rfl, _, rfl, iteF ?_⟩
    -- guesser == Guesser(weights + [0], shift)
    refine ⟨_, rfl, _, rfl, (show 1 ≤ sizeLine by decide), fun pz npz => ?_⟩
    obtain ⟨HE, eE, sE, hE⟩ := fresh (.lst [V.int 0]) npz
    rw [eE]
    have s8E := s8D.trans sE
    refine ⟨pw, pz, _, _, rfl, rfl, s8E _ _ hpw8, hE, ?_, fun pc npc => ?_⟩
    · rw [List.length_map, sizeLine_eq]
      show ws.length + 1 ≤ _
      omega
    obtain ⟨HF, eF, sF, hF⟩ := fresh (.lst ((ws ++ [0]).map V.int)) npc
    rw [show upd HE pc (.lst (ws.map V.int ++ [V.int 0])) = HF by rw [← eF, List.map_append]; rfl]
    refine ⟨_, rfl, ?_⟩
    intro y3 d3 ny3 nd3 ne3
    have sG' : Same HF (upd (upd HF d3 (.own y3)) y3 (.ins T.C_Guesser d3 [])) := fun b o e => by
      rw [upd_ne (ne_of_none e ny3), upd_ne (ne_of_none e nd3)]
      exact e
    have hW0 : Weights (ws ++ [0]) := by
      refine ⟨by rw [List.length_append]; show ws.length + 1 ≤ 8; omega, fun n hn => ?_⟩
      rcases List.mem_append.mp hn with hn | hn
      · exact hW.2 n hn
      · rw [List.mem_singleton.mp hn]; decide
    refine ⟨y3, pc, d3, ws ++ [0], sh, rfl, upd_same, .inl (sG' _ _ hF), hW0, by omega, fun HG kpG hGG _ => ⟨rfl, ?_⟩⟩
    have sFG : Same HF HG := keep_same ny3 nd3 kpG
    obtain ⟨_, _, dy3, py3, hy3, _⟩ := id hGG
    have s8G := (s8E.trans sF).trans sFG
    refine ⟨x, dxx, _, rfl, s8G _ _ hx8, ⟨y3, rfl, .inl ⟨_, _, hy3⟩⟩, x, y3, ws, sh, false, rfl, hG8.same s8G, .inl ⟨ws ++ [0], sh, hGG, (decide_eq_false (fun z => ?_)).symm⟩, false, rfl, _, rfl, iteF ?_⟩
    · have := congrArg List.length z.1
      rw [List.length_append] at this
      simp at this
    refine ⟨_, rfl, _, rfl, _, rfl, _, rfl, g, x, pw, ws, sh, _, rfl, g8.same s8G, by omega, GB8.but (But.of s8G), s8G _ _ hpw8, npwg, fun HH bH gH => ⟨_, rfl, iteF ?_⟩⟩
    refine ⟨_, rfl, _, rfl, g, x, ws, sh, _, rfl, gH, by omega, (GB8.but (But.of s8G)).but bH, fun HI bI gI => ⟨_, rfl, iteF ?_⟩⟩
    refine ⟨_, rfl, g, _, rfl, gI, by omega, fun HJ bJ gJ => ⟨_, rfl, iteF ?_⟩⟩
    exact ⟨_, _, _, _, _, _, rfl, s1.trans (But.fresh s2 ng ((((b28.same s8G).trans bH).trans bI).trans bJ))⟩
  · rintro σ H1 ⟨v1, v2, v3, v4, v5, v6, rfl, s1⟩
    exact q _
end
end My

open PySem PySem.W PySem.Calls PyProof.Rows
set_option maxRecDepth 100000 in
set_option maxHeartbeats 0 in
theorem PySem.Challenge.cw_wholesound_k10_guesses_and_rests_holds : PySem.Challenge.rw_wholesound_k10_guesses_and_rests.Holds := by
  w_on; o_law
  refine HandSHeadRun.head_any (r := OpenLaw.row PySem.Challenge.rw_wholesound_k10_guesses_and_rests) (q := view (OpenLaw.row PySem.Challenge.rw_wholesound_k10_guesses_and_rests).prog [50]) (H := My.hk) (ob := My.ob) (M := 8000) (loose := My.loose) (d := HandSHeadRun.topDef (OpenLaw.row PySem.Challenge.rw_wholesound_k10_guesses_and_rests).prog 50) (kwd := []) My.ob_eq
    (by kernel_rfl) (fun s => by kernel_rfl) My.run (by kernel_rfl) (by kernel_rfl) (by kernel_rfl) (by rfl) (by first | assumption | decide +kernel) (by decide +kernel) ⟨rfl, rfl, rfl, rfl, rfl, by decide +kernel⟩ ?hw ?hc
  case hw => w_witness2
  case hc =>
    refine My.end_g (l := PySem.Challenge.rw_wholesound_k10_guesses_and_rests) (n := 63) (k := 9) (x := "_law_script") rfl (by decide) (by kernel_rfl) ⟨rfl, by decide, by decide⟩ ?F
    intro w mg fa h Y G hmg0
    obtain ⟨K, KX, c⟩ := Y
    have hmg : mg ("law" : PySem.Str) = some (.ref fa) := by
      have e : (HandSHeadRun.topDef (OpenLaw.row PySem.Challenge.rw_wholesound_k10_guesses_and_rests).prog 50).name = ("law" : PySem.Str) := by kernel_rfl
      rw [← e]
      exact hmg0
    have T : My.Top K mg := My.top_mk KX G c
    have e := hmg.symm.trans T.g_law
    cases e
    have b := L2.FunD.bindsA (ps := ["_law_script"]) T.F_law fun _ _ _ _ _ _ us hl => match us, hl with | [_], _ => rfl
    exact ⟨K, T.fd_law, My.sp_law K, KX, fun s v => b s [v] rfl, fun H a ns hl hS => ⟨a, ns, rfl, hS, hl, fun _ => rfl⟩, fun base _ _ => My.G_law T⟩


