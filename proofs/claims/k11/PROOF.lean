import PyProof.Rows.All
import Wide.All
import OpenK.AllK
import Wide.FinOn
import KE.KStateDown
import Lean
import HandS.ForMost
import HandS.Exc
import HandS.Flow
import HandS.DictComp
import HandS.Style
import HandS.Wide
import HandS.WideBits
import HandS.IsInst
import HandS.Codes
import HandS.Walk
import HandS.Words
import HandS.WordsExc
import HandS.Defaults
import HandS.Head0
import HandS.Head1
import HandS.Head2
import HandS.HeadEnd
import HandS.HeadHook1
import HandS.HeadHook2
import HandS.SortInts
import PyProof.Rows.SortShellAny
import PyProof.InstNe
import KE.DataMinMax
import KE.SortData
import KE.IntBitsLaws
import KE.BitLaws
import HandS.Deep
import PySem.Challenge.RW_wholesound_k11_guessers_that_guess_alike
set_option Elab.async false
set_option linter.all false
set_option maxRecDepth 100000
set_option maxHeartbeats 4000000
set_option exponentiation.threshold 100000
namespace Pre
open PySem PySem.Spec PyProof.Rows L2
/-! ### heaps -/
theorem same_upd {H : Hp} {p : Addr} {o : HO} (h : H p = none) : Same H (upd H p o) := fun b x e => by
  rw [upd_ne (ne_of_none e h)]
  exact e
/-- a fresh thing that is then changed is no change of what was -/
theorem same_over {H H' : Hp} {p : Addr} {o : HO} (n : H p = none) (s : Same H H') : Same H (upd H' p o) := fun b x e => by
  rw [upd_ne (ne_of_none e n)]
  exact s b x e
theorem Same.tup {K : PySem.W.Frag} {H H' : Hp} {a : Addr} {xs : List V} (e : Same H H') (h : SqT K H a xs) : SqT K H' a xs := by
  rcases h with (h | ⟨o, h⟩) | h
  · exact .inl (.inl (e _ _ h))
  · exact .inl (.inr ⟨o, e _ _ h⟩)
  · exact .inr h
mutual
theorem dp_same {K : PySem.W.Frag} {H H' : Hp} (s : Same H H') : ∀ (d : PyData) (v : V), Dp K H v d → Dp K H' v d
  | .none, _, h => by cases h; exact .non
  | .bool _, _, h => by cases h; exact .bl _
  | .int _, _, h => by cases h; exact .int _
  | .str _, _, h => by cases h; exact .str _
  | .list ds, _, h => by cases h with | lst a b => exact .lst (s.seq a) (dps_same s ds _ b)
  | .tuple ds, _, h => by cases h with | tup a b => exact .tup (Same.tup s a) (dps_same s ds _ b)
  | .dict _, _, h => nomatch h
theorem dps_same {K : PySem.W.Frag} {H H' : Hp} (s : Same H H') : ∀ (ds : List PyData) (vs : List V), DpAll K H vs ds → DpAll K H' vs ds
  | [], _, h => by cases h; exact .nil
  | d :: ds, _, h => by cases h with | cons a b => exact .cons (dp_same s d _ a) (dps_same s ds _ b)
end
theorem dp_ints {K : PySem.W.Frag} {H : Hp} : ∀ ns : List Int, DpAll K H (ns.map V.int) (ns.map PyData.int)
  | [] => .nil
  | n :: r => .cons (.int n) (dp_ints r)
theorem eqv_ints : ∀ ns ms : List Int, PyData.eqvAll (ns.map PyData.int) (ms.map PyData.int) = decide (ns = ms)
  | [], [] => rfl
  | [], _ :: _ => rfl
  | _ :: _, [] => rfl
  | n :: r, m :: q => by
    show (PyData.eqv (.int n) (.int m) && PyData.eqvAll (r.map PyData.int) (q.map PyData.int)) = decide (n :: r = m :: q)
    rw [eqv_ints r q]
    show ((n == m) && decide (r = q)) = decide (n :: r = m :: q)
    by_cases h : n = m
    · subst h; simp
    · simp [h]
theorem lay_ints : ∀ ns : List Int, PyData.canLayAll0 (ns.map PyData.int) = true
  | [] => rfl
  | n :: r => by
    show (PyData.canLay0 (.int n) && PyData.canLayAll0 (r.map PyData.int)) = true
    rw [lay_ints r]
    rfl
theorem depth_ints : ∀ ns : List Int, PyData.depthAll (ns.map PyData.int) = 0
  | [] => by simp [PyData.depthAll]
  | n :: r => by
    show PyData.depthAll (.int n :: r.map PyData.int) = 0
    rw [PyData.depthAll, depth_ints r]
    simp [PyData.depth]
theorem shaped_ints (ns : List Int) : SeqAt.shaped (.list (ns.map PyData.int)) = true := by
  unfold SeqAt.shaped
  rw [PyData.canLay0, lay_ints, PyData.depth, depth_ints]
  rfl
theorem shaped_tup (ns : List Int) : SeqAt.shaped (.tuple (ns.map PyData.int)) = true := by
  unfold SeqAt.shaped
  rw [PyData.canLay0, lay_ints, PyData.depth, depth_ints]
  rfl
/-! ### comparisons of lists and tuples of whole numbers that are told alike -/
theorem ne_tup {K : PySem.W.Frag} {H : Hp} {a b : Addr} {ns : List Int} {Q : V → Hp → Prop} (ha : SqT K H a (ns.map V.int)) (hb : SqT K H b (ns.map V.int)) (q : Q (.bl false) H) : rNeD K (.ref a) (.ref b) H Q := by
  refine ⟨.tuple (ns.map PyData.int), .tuple (ns.map PyData.int), .tup ha (dp_ints ns), .tup hb (dp_ints ns), shaped_tup ns, shaped_tup ns, ?_⟩
  rw [PyData.eqv, eqv_ints, decide_eq_true rfl]
  exact q
theorem eq_tup {K : PySem.W.Frag} {H : Hp} {a b : Addr} {ns : List Int} {Q : V → Hp → Prop} (ha : SqT K H a (ns.map V.int)) (hb : SqT K H b (ns.map V.int)) (q : Q (.bl true) H) : rEqD K (.ref a) (.ref b) H Q := by
  refine ⟨.tuple (ns.map PyData.int), .tuple (ns.map PyData.int), .tup ha (dp_ints ns), .tup hb (dp_ints ns), shaped_tup ns, shaped_tup ns, ?_⟩
  rw [PyData.eqv, eqv_ints, decide_eq_true rfl]
  exact q
/-- lists of whole numbers, compared -/
theorem eqD_lst {K : PySem.W.Frag} {H : Hp} {a b : Addr} {ns ms : List Int} {Q : V → Hp → Prop} (ha : SqL K H a (ns.map V.int)) (hb : SqL K H b (ms.map V.int)) (q : Q (.bl (decide (ns = ms))) H) : rEqD K (.ref a) (.ref b) H Q := by
  refine ⟨.list (ns.map PyData.int), .list (ms.map PyData.int), .lst ha (dp_ints ns), .lst hb (dp_ints ms), shaped_ints ns, shaped_ints ms, ?_⟩
  rw [PyData.eqv, eqv_ints]
  exact q
theorem neD_lst {K : PySem.W.Frag} {H : Hp} {a b : Addr} {ns ms : List Int} {Q : V → Hp → Prop} (ha : SqL K H a (ns.map V.int)) (hb : SqL K H b (ms.map V.int)) (q : Q (.bl (!decide (ns = ms))) H) : rNeD K (.ref a) (.ref b) H Q := by
  refine ⟨.list (ns.map PyData.int), .list (ms.map PyData.int), .lst ha (dp_ints ns), .lst hb (dp_ints ms), shaped_ints ns, shaped_ints ms, ?_⟩
  rw [PyData.eqv, eqv_ints]
  exact q
theorem ne_lst {K : PySem.W.Frag} {H : Hp} {a b : Addr} {ns : List Int} {Q : V → Hp → Prop} (ha : SqL K H a (ns.map V.int)) (hb : SqL K H b (ns.map V.int)) (q : Q (.bl false) H) : rNeD K (.ref a) (.ref b) H Q :=
  neD_lst ha hb (by rw [decide_eq_true rfl]; exact q)
theorem eq_lst {K : PySem.W.Frag} {H : Hp} {a b : Addr} {ns : List Int} {Q : V → Hp → Prop} (ha : SqL K H a (ns.map V.int)) (hb : SqL K H b (ns.map V.int)) (q : Q (.bl true) H) : rEqD K (.ref a) (.ref b) H Q :=
  eqD_lst ha hb (by rw [decide_eq_true rfl]; exact q)
/-! ### powers -/
def CPowW (i j : Int) : Prop := 0 ≤ j ∧ (Builtin.Int.intBits i : Int) * j ≤ 2 ^ 27
theorem op_powW {X : Cx} : OpR X (binaryOp .Pow) (rI CPowW fun i j => .int (i ^ j.toNat)) := opI fun _ _ _ _ _ _ _ hc q => pow_int hc.1 hc.2 q
/-! ### comprehensions whose parts leave what is tracked as it is: sel tells of each item what comes of it -/
theorem take_fm {α : Type} {l : List (Option α)} {i : Nat} {o : Option α} (h : l[i]? = some o) : (l.take (i + 1)).filterMap id = (l.take i).filterMap id ++ o.toList := by
  rw [List.take_add_one, h, List.filterMap_append]
  cases o <;> rfl
theorem fm_len {α : Type} (l : List (Option α)) (i : Nat) : ((l.take i).filterMap id).length ≤ l.length :=
  Nat.le_trans (List.length_filterMap_le _ _) (by rw [List.length_take]; omega)
theorem lc_selL {K : PySem.W.Frag} {a : Addr} {xs : List V} {j : Nat} {tt : TT} {te : TE} {vs : List Nat} {σ : L2.St} {H1 : Hp} {D : Addr} {Qd : Hp → Prop} (sel : List (Option V)) (nD : H1 D = none) (hS : SqL K H1 a xs) (hlen : sel.length = xs.length) (hz : xs.length < sizeLine)
    (hw : ∀ x, wipe ((wipe σ vs).set j (some x)) vs = wipe σ vs)
    (hs : ∀ (i : Nat) (x : V) (o : Option V) (H' : Hp), xs[i]? = some x → sel[i]? = some o → Same H1 H' → ∀ Qt : Option V → Hp → Prop, (∀ H'', Same H' H'' → Qt o H'') →
      tt ((wipe σ vs).set j (some x)) H' fun b H3 => if b = true then te ((wipe σ vs).set j (some x)) H3 fun y H4 => Qt (some y) H4 else Qt none H3)
    (hd : ∀ H', Same H1 H' → H' D = some (.lst (sel.filterMap id)) → Qd H') :
    ∃ W : Nat → Nat → Hp → Prop, (∃ m, W 0 m (upd H1 D (.lst []))) ∧ ∀ i m H, W i m H →
      ((Itl K a).stop i H ∧ Qd H) ∨ ((Itl K a).go i H ∧ ∃ Nx : Hp → Prop, (∀ H', Nx H' → ∃ m', m' < m ∧ W (i + 1) m' H') ∧ ∀ x H', (Itl K a).yld i H x H' → gName j x (wipe σ vs) H' fun σ2 H2 => wipe σ2 vs = wipe σ vs ∧ tt σ2 H2 fun b H3 =>
        if b = true then te σ2 H3 fun y H4 => ∃ acc, H4 D = some (.lst acc) ∧ acc.length < sizeLine ∧ Nx (upd H4 D (.lst (acc ++ [y]))) else Nx H3) := by
  refine lc_list (K := K) (a := a) (xs := xs) (fun i H => Same H1 H ∧ H D = some (.lst ((sel.take i).filterMap id))) ⟨same_upd nD, upd_same⟩ (fun i H _ p => p.1.seq hS) ?_ ?_
  · rintro i x H hx ⟨s, hD⟩
    refine ⟨hw x, ?_⟩
    have hi : i < sel.length := by rw [hlen]; exact (List.getElem?_eq_some_iff.mp hx).1
    have ho : sel[i]? = some sel[i] := List.getElem?_eq_getElem hi
    have hl : ((sel.take i).filterMap id).length < sizeLine := Nat.lt_of_le_of_lt (fm_len sel i) (by omega)
    refine hs i x sel[i] H hx ho s (fun o H4 => match o with
      | some y => ∃ acc, H4 D = some (.lst acc) ∧ acc.length < sizeLine ∧ (Same H1 (upd H4 D (.lst (acc ++ [y]))) ∧ (upd H4 D (.lst (acc ++ [y]))) D = some (.lst ((sel.take (i + 1)).filterMap id)))
      | none => Same H1 H4 ∧ H4 D = some (.lst ((sel.take (i + 1)).filterMap id))) fun H4 s4 => ?_
    generalize sel[i] = o at ho ⊢
    cases o with
    | some y =>
      refine ⟨_, s4 _ _ hD, hl, same_over nD (s.trans s4), ?_⟩
      rw [upd_same, take_fm ho]
      rfl
    | none =>
      refine ⟨s.trans s4, ?_⟩
      rw [take_fm ho, s4 _ _ hD]
      simp
  · rintro H ⟨s, hD⟩
    refine hd H s ?_
    rw [hD, ← hlen, List.take_length]
/-- the items of a range -/
def rgV (lo : Int) (n : Nat) : List V := (List.range n).map fun (i : Nat) => V.int (lo + (i : Int))
theorem lc_selR {lo : Int} {n : Nat} {j : Nat} {tt : TT} {te : TE} {vs : List Nat} {σ : L2.St} {H1 : Hp} {D : Addr} {Qd : Hp → Prop} (sel : List (Option V)) (nD : H1 D = none) (hlen : sel.length = n) (hz : n < sizeLine)
    (hw : ∀ x, wipe ((wipe σ vs).set j (some x)) vs = wipe σ vs)
    (hs : ∀ (i : Nat) (o : Option V) (H' : Hp), i < n → sel[i]? = some o → Same H1 H' → ∀ Qt : Option V → Hp → Prop, (∀ H'', Same H' H'' → Qt o H'') →
      tt ((wipe σ vs).set j (some (.int (lo + (i : Int))))) H' fun b H3 => if b = true then te ((wipe σ vs).set j (some (.int (lo + (i : Int))))) H3 fun y H4 => Qt (some y) H4 else Qt none H3)
    (hd : ∀ H', Same H1 H' → H' D = some (.lst (sel.filterMap id)) → Qd H') :
    ∃ W : Nat → Nat → Hp → Prop, (∃ m, W 0 m (upd H1 D (.lst []))) ∧ ∀ i m H, W i m H →
      ((Itr lo n).stop i H ∧ Qd H) ∨ ((Itr lo n).go i H ∧ ∃ Nx : Hp → Prop, (∀ H', Nx H' → ∃ m', m' < m ∧ W (i + 1) m' H') ∧ ∀ x H', (Itr lo n).yld i H x H' → gName j x (wipe σ vs) H' fun σ2 H2 => wipe σ2 vs = wipe σ vs ∧ tt σ2 H2 fun b H3 =>
        if b = true then te σ2 H3 fun y H4 => ∃ acc, H4 D = some (.lst acc) ∧ acc.length < sizeLine ∧ Nx (upd H4 D (.lst (acc ++ [y]))) else Nx H3) := by
  refine lc_range (lo := lo) (n := n) (fun i H => Same H1 H ∧ H D = some (.lst ((sel.take i).filterMap id))) ⟨same_upd nD, upd_same⟩ ?_ ?_
  · rintro i H hi' ⟨s, hD⟩
    refine ⟨hw _, ?_⟩
    have hi : i < sel.length := by rw [hlen]; exact hi'
    have ho : sel[i]? = some sel[i] := List.getElem?_eq_getElem hi
    have hl : ((sel.take i).filterMap id).length < sizeLine := Nat.lt_of_le_of_lt (fm_len sel i) (by omega)
    refine hs i sel[i] H hi' ho s (fun o H4 => match o with
      | some y => ∃ acc, H4 D = some (.lst acc) ∧ acc.length < sizeLine ∧ (Same H1 (upd H4 D (.lst (acc ++ [y]))) ∧ (upd H4 D (.lst (acc ++ [y]))) D = some (.lst ((sel.take (i + 1)).filterMap id)))
      | none => Same H1 H4 ∧ H4 D = some (.lst ((sel.take (i + 1)).filterMap id))) fun H4 s4 => ?_
    generalize sel[i] = o at ho ⊢
    cases o with
    | some y =>
      refine ⟨_, s4 _ _ hD, hl, same_over nD (s.trans s4), ?_⟩
      rw [upd_same, take_fm ho]
      rfl
    | none =>
      refine ⟨s.trans s4, ?_⟩
      rw [take_fm ho, s4 _ _ hD]
      simp
  · rintro H ⟨s, hD⟩
    refine hd H s ?_
    rw [hD, ← hlen, List.take_length]
theorem fm_some {α : Type} (ys : List α) : (ys.map some).filterMap id = ys := by
  rw [List.filterMap_map]
  show List.filterMap (fun y => some y) ys = ys
  exact List.filterMap_some
/-- no test: ys tells what comes of each item -/
theorem lc_mapL {K : PySem.W.Frag} {a : Addr} {xs : List V} {j : Nat} {te : TE} {vs : List Nat} {σ : L2.St} {H1 : Hp} {D : Addr} {Qd : Hp → Prop} (ys : List V) (nD : H1 D = none) (hS : SqL K H1 a xs) (hlen : ys.length = xs.length) (hz : xs.length < sizeLine)
    (hw : ∀ x, wipe ((wipe σ vs).set j (some x)) vs = wipe σ vs)
    (hs : ∀ (i : Nat) (x y : V) (H' : Hp), xs[i]? = some x → ys[i]? = some y → Same H1 H' → ∀ Qt : V → Hp → Prop, (∀ H'', Same H' H'' → Qt y H'') → te ((wipe σ vs).set j (some x)) H' Qt)
    (hd : ∀ H', Same H1 H' → H' D = some (.lst ys) → Qd H') :
    ∃ W : Nat → Nat → Hp → Prop, (∃ m, W 0 m (upd H1 D (.lst []))) ∧ ∀ i m H, W i m H →
      ((Itl K a).stop i H ∧ Qd H) ∨ ((Itl K a).go i H ∧ ∃ Nx : Hp → Prop, (∀ H', Nx H' → ∃ m', m' < m ∧ W (i + 1) m' H') ∧ ∀ x H', (Itl K a).yld i H x H' → gName j x (wipe σ vs) H' fun σ2 H2 => wipe σ2 vs = wipe σ vs ∧ tYes σ2 H2 fun b H3 =>
        if b = true then te σ2 H3 fun y H4 => ∃ acc, H4 D = some (.lst acc) ∧ acc.length < sizeLine ∧ Nx (upd H4 D (.lst (acc ++ [y]))) else Nx H3) := by
  refine lc_selL (K := K) (a := a) (xs := xs) (tt := tYes) (ys.map some) nD hS (by rw [List.length_map]; exact hlen) hz hw ?_ ?_
  · intro i x o H' hx ho s Qt qt
    rw [List.getElem?_map] at ho
    obtain ⟨y, hy, rfl⟩ := Option.map_eq_some_iff.mp ho
    show if true = true then te ((wipe σ vs).set j (some x)) H' (fun y H4 => Qt (some y) H4) else Qt none H'
    exact iteT (hs i x y H' hx hy s (fun y H4 => Qt (some y) H4) qt)
  · intro H' s hD
    rw [fm_some] at hD
    exact hd H' s hD
theorem lc_mapR {lo : Int} {n : Nat} {j : Nat} {te : TE} {vs : List Nat} {σ : L2.St} {H1 : Hp} {D : Addr} {Qd : Hp → Prop} (ys : List V) (nD : H1 D = none) (hlen : ys.length = n) (hz : n < sizeLine)
    (hw : ∀ x, wipe ((wipe σ vs).set j (some x)) vs = wipe σ vs)
    (hs : ∀ (i : Nat) (y : V) (H' : Hp), i < n → ys[i]? = some y → Same H1 H' → ∀ Qt : V → Hp → Prop, (∀ H'', Same H' H'' → Qt y H'') → te ((wipe σ vs).set j (some (.int (lo + (i : Int))))) H' Qt)
    (hd : ∀ H', Same H1 H' → H' D = some (.lst ys) → Qd H') :
    ∃ W : Nat → Nat → Hp → Prop, (∃ m, W 0 m (upd H1 D (.lst []))) ∧ ∀ i m H, W i m H →
      ((Itr lo n).stop i H ∧ Qd H) ∨ ((Itr lo n).go i H ∧ ∃ Nx : Hp → Prop, (∀ H', Nx H' → ∃ m', m' < m ∧ W (i + 1) m' H') ∧ ∀ x H', (Itr lo n).yld i H x H' → gName j x (wipe σ vs) H' fun σ2 H2 => wipe σ2 vs = wipe σ vs ∧ tYes σ2 H2 fun b H3 =>
        if b = true then te σ2 H3 fun y H4 => ∃ acc, H4 D = some (.lst acc) ∧ acc.length < sizeLine ∧ Nx (upd H4 D (.lst (acc ++ [y]))) else Nx H3) := by
  refine lc_selR (lo := lo) (n := n) (tt := tYes) (ys.map some) nD (by rw [List.length_map]; exact hlen) hz hw ?_ ?_
  · intro i o H' hi ho s Qt qt
    rw [List.getElem?_map] at ho
    obtain ⟨y, hy, rfl⟩ := Option.map_eq_some_iff.mp ho
    show if true = true then te ((wipe σ vs).set j (some (.int (lo + (i : Int))))) H' (fun y H4 => Qt (some y) H4) else Qt none H'
    exact iteT (hs i y H' hi hy s (fun y H4 => Qt (some y) H4) qt)
  · intro H' s hD
    rw [fm_some] at hD
    exact hd H' s hD
/-- an item of a list of whole numbers -/
theorem int_at {ns : List Int} {i : Nat} {x : V} (h : (ns.map V.int)[i]? = some x) : ∃ n, ns[i]? = some n ∧ x = .int n := by
  rw [List.getElem?_map] at h
  obtain ⟨n, hn, e⟩ := Option.map_eq_some_iff.mp h
  exact ⟨n, hn, e.symm⟩
/-! ### rules with the written part named (within a comprehension Lean doesn't find it) -/
section
variable {X : Cx}
theorem k_len (K : PySem.W.Frag) (h : X.K = K) : CallR X (.builtin "len") (fun xs H Q => ∃ p ys, xs = [.ref p] ∧ (SqL K H p ys ∨ SqT K H p ys) ∧ Q (.int ys.length) H) := by subst h; exact call_len_seq
theorem k_sum (K : PySem.W.Frag) (h : X.K = K) (hc : X.calm = true) : CallR X (.builtin "sum") (rSum K) := by subst h; exact cr_sum hc
theorem k_max (K : PySem.W.Frag) (h : X.K = K) (hc : X.calm = true) : CallR X (.builtin "max") (rMax K) := by subst h; exact cr_max hc
theorem k_min (K : PySem.W.Frag) (h : X.K = K) (hc : X.calm = true) : CallR X (.builtin "min") (rMin K) := by subst h; exact cr_min hc
theorem k_isi (K : PySem.W.Frag) (h : X.K = K) : CallR X (.builtin "isinstance") (rIsi K) := by subst h; exact call_isi
theorem k_listOf (K : PySem.W.Frag) (h : X.K = K) : CallR X (.type "list") (fun xs H Q => ∃ p ys, xs = [.ref p] ∧ (SqL K H p ys ∨ SqT K H p ys) ∧ ∀ l, H l = none → Q (.ref l) (upd H l (.lst ys))) := by subst h; exact call_list_of
theorem k_tupleOf (K : PySem.W.Frag) (h : X.K = K) : CallR X (.type "tuple") (fun xs H Q => ∃ p ys, xs = [.ref p] ∧ ((SqL K H p ys ∧ ∀ l, H l = none → Q (.ref l) (upd H l (.tup ys))) ∨ (SqT K H p ys ∧ Q (.ref p) H))) := by subst h; exact call_tuple_of
theorem k_ixL (K : PySem.W.Frag) (h : X.K = K) : IxR X (rIxL K) := by subst h; exact ix_list
theorem k_ixT (K : PySem.W.Frag) (h : X.K = K) : IxR X (rIxT K) := by subst h; exact ix_tup
theorem k_slL (K : PySem.W.Frag) (h : X.K = K) : SlR X (rSlL K) := by subst h; exact sl_list
theorem k_slT (K : PySem.W.Frag) (h : X.K = K) : SlR X (rSlT K) := by subst h; exact sl_tup
theorem k_eqD (K : PySem.W.Frag) (h : X.K = K) (hu : X.A.units + 64 < cLine) : OpR X (compareOp .Eq) (rEqD K) := by subst h; exact op_eqD hu
theorem k_neD (K : PySem.W.Frag) (h : X.K = K) (hu : X.A.units + 64 < cLine) : OpR X (compareOp .NotEq) (rNeD K) := by subst h; exact op_neD hu
theorem k_in (K : PySem.W.Frag) (h : X.K = K) : OpR X (compareOp .In) (rIn K false) := by subst h; exact op_in_seq
theorem k_notIn (K : PySem.W.Frag) (h : X.K = K) : OpR X (compareOp .NotIn) (rIn K true) := by subst h; exact op_notIn_seq
theorem k_piL (K : PySem.W.Frag) (h : X.K = K) {tg l : Expr} {tl : TE} (hl : PE X l tl) : PI X tg l (iList K tl) := by subst h; exact pi_list hl
theorem k_piT (K : PySem.W.Frag) (h : X.K = K) {tg l : Expr} {tl : TE} (hl : PE X l tl) : PI X tg l (iTup K tl) := by subst h; exact pi_tup hl
theorem k_piE (K : PySem.W.Frag) (h : X.K = K) {e : Expr} {ta : TA} {p pos tpos : Pos} {elts : List Expr} {kk : Nat} (hg : Gl X "enumerate") (hm : X.mg "enumerate" = none) (ha : PA X [e] ta) (hs : starEach [e] X.env = [(false, eval e X.env)] := by rfl) : PI X (.Tuple elts kk tpos) (.Call (.Name "enumerate" p) [e] [] pos) (iEnum K ta) := by subst h; exact pi_enum hg hm ha hs
theorem k_pgT (K : PySem.W.Frag) (h : X.K = K) {es : List Expr} {k : Nat} {t : TGs} {n : Nat} {pos : Pos} (hc : X.calm = true) (hp : PGs X es t) (hn : (assignEach es X.env).length = n := by rfl) (hst : (assignEach es X.env).findIdx? (·.1) = none := by rfl) : PG X (.Tuple es k pos) (gTup K n t) := by subst h; exact pg_tup hc hp hn hst
theorem k_index (K : PySem.W.Frag) (h : X.K = K) : MtR X "list.index" (rIndex K) := by subst h; exact mt_index
end
/-! ### small things -/
theorem fresh {H : Hp} {p : Addr} (o : HO) (np : H p = none) : ∃ H', upd H p o = H' ∧ Same H H' ∧ H' p = some o := ⟨_, rfl, same_upd np, upd_same⟩
theorem cut_take (xs : List V) (k : Nat) : cutV xs none (some (k : Int)) = xs.take k := by
  unfold cutV
  rw [HT.sIx_nat, HT.sIx_none, List.drop_zero, Nat.sub_zero]
  rcases Nat.le_total k xs.length with h | h
  · rw [Nat.min_eq_left h]
  · rw [Nat.min_eq_right h, List.take_of_length_le h, List.take_length]
theorem cut_drop (xs : List V) (k : Nat) : cutV xs (some (k : Int)) none = xs.drop k := by
  unfold cutV
  rw [HT.sIx_nat, HT.sIx_none]
  rcases Nat.le_total k xs.length with h | h
  · rw [Nat.min_eq_left h, List.take_of_length_le (by rw [List.length_drop]; exact Nat.le_refl _)]
  · rw [Nat.min_eq_right h, List.drop_length, List.drop_of_length_le h, List.take_nil]
theorem rep_ints (k : Nat) (ks : List Int) : (List.replicate k (ks.map V.int)).flatten = ((List.replicate k ks).flatten).map V.int := by
  rw [List.map_flatten, List.map_replicate]
theorem rep_len {α : Type} (k : Nat) (ks : List α) : ((List.replicate k ks).flatten).length = k * ks.length := by
  induction k with
  | zero => simp
  | succ k ih => rw [List.replicate_succ, List.flatten_cons, List.length_append, ih, Nat.succ_mul]; omega
theorem rep_mem {α : Type} {k : Nat} {ks : List α} {x : α} (h : x ∈ (List.replicate k ks).flatten) : x ∈ ks := by
  obtain ⟨l, hl, hx⟩ := List.mem_flatten.mp h
  rw [(List.mem_replicate.mp hl).2] at hx
  exact hx
/-! ### comprehensions that make new things: R tells what is known of the i-th; D is no part of it -/
def Off (D : Addr) (H H' : Hp) : Prop := ∀ b o, b ≠ D → H b = some o → H' b = some o
def RelPv (R : Nat → V → Hp → Prop) (H1 : Hp) (D : Addr) (i : Nat) (H : Hp) : Prop := ∃ ys : List V, Same H1 H ∧ H D = some (.lst ys) ∧ ys.length = i ∧ ∀ (k : Nat) (y : V), ys[k]? = some y → R k y H
theorem lc_relR {lo : Int} {n : Nat} {j : Nat} {te : TE} {vs : List Nat} {σ : L2.St} {H1 : Hp} {D : Addr} {Qd : Hp → Prop} (R : Nat → V → Hp → Prop) (nD : H1 D = none) (hz : n < sizeLine)
    (mono : ∀ i y H H', Off D H H' → R i y H → R i y H')
    (hw : ∀ x, wipe ((wipe σ vs).set j (some x)) vs = wipe σ vs)
    (hs : ∀ (i : Nat) (H' : Hp) (xs : List V), i < n → Same H1 H' → H' D = some (.lst xs) → ∀ Qt : V → Hp → Prop, (∀ y H'', Same H' H'' → R i y H'' → Qt y H'') → te ((wipe σ vs).set j (some (.int (lo + (i : Int))))) H' Qt)
    (hd : ∀ H' ys, Same H1 H' → H' D = some (.lst ys) → ys.length = n → (∀ (i : Nat) (y : V), ys[i]? = some y → R i y H') → Qd H') :
    ∃ W : Nat → Nat → Hp → Prop, (∃ m, W 0 m (upd H1 D (.lst []))) ∧ ∀ i m H, W i m H →
      ((Itr lo n).stop i H ∧ Qd H) ∨ ((Itr lo n).go i H ∧ ∃ Nx : Hp → Prop, (∀ H', Nx H' → ∃ m', m' < m ∧ W (i + 1) m' H') ∧ ∀ x H', (Itr lo n).yld i H x H' → gName j x (wipe σ vs) H' fun σ2 H2 => wipe σ2 vs = wipe σ vs ∧ tYes σ2 H2 fun b H3 =>
        if b = true then te σ2 H3 fun y H4 => ∃ acc, H4 D = some (.lst acc) ∧ acc.length < sizeLine ∧ Nx (upd H4 D (.lst (acc ++ [y]))) else Nx H3) := by
  refine lc_range (lo := lo) (n := n) (RelPv R H1 D) ⟨[], same_upd nD, upd_same, rfl, fun k y h => by simp at h⟩ ?_ ?_
  · rintro i H hi ⟨ys, s, hD, hl, hR⟩
    refine ⟨hw _, ?_⟩
    show if true = true then te ((wipe σ vs).set j (some (.int (lo + (i : Int))))) H (fun y H4 => ∃ acc, H4 D = some (.lst acc) ∧ acc.length < sizeLine ∧ RelPv R H1 D (i + 1) (upd H4 D (.lst (acc ++ [y])))) else RelPv R H1 D (i + 1) H
    refine iteT (hs i H ys hi s hD _ fun y H4 s4 r4 => ?_)
    refine ⟨ys, s4 _ _ hD, by omega, ys ++ [y], same_over nD (s.trans s4), upd_same, by rw [List.length_append, hl]; rfl, fun k z hz => ?_⟩
    have off : Off D H4 (upd H4 D (.lst (ys ++ [y]))) := fun b o nb h => by rw [upd_ne nb]; exact h
    by_cases hk : k < ys.length
    · rw [List.getElem?_append_left hk] at hz
      exact mono k z H _ (fun b o nb h => off b o nb (s4 b o h)) (hR k z hz)
    · rw [List.getElem?_append_right (by omega)] at hz
      have hk2 : k - ys.length = 0 := by
        have h2 := (List.getElem?_eq_some_iff.mp hz).1
        rw [List.length_singleton] at h2
        omega
      rw [hk2] at hz
      cases hz
      have ek : k = i := by omega
      rw [ek]
      exact mono i y H4 _ off r4
  · rintro H ⟨ys, s, hD, hl, hR⟩
    exact hd H ys s hD hl hR
/-! ### ways that are told by whole numbers -/
theorem iteDT {p A B : Prop} [Decidable p] (hp : p) (h : A) : if decide p = true then A else B := by rw [decide_eq_true hp]; exact iteT h
theorem iteDF {p A B : Prop} [Decidable p] (hp : ¬ p) (h : B) : if decide p = true then A else B := by rw [decide_eq_false hp]; exact iteF h
theorem iteNT {p A B : Prop} [Decidable p] (hp : ¬ p) (h : A) : if (!decide p) = true then A else B := by rw [decide_eq_false hp]; exact iteT h
theorem iteNF {p A B : Prop} [Decidable p] (hp : p) (h : B) : if (!decide p) = true then A else B := by rw [decide_eq_true hp]; exact iteF h
theorem iteET {a b : Int} {A B : Prop} [Decidable (V.int a = V.int b)] (hp : a = b) (h : A) : if decide (V.int a = V.int b) = true then A else B := iteDT (congrArg V.int hp) h
theorem iteEF {a b : Int} {A B : Prop} [Decidable (V.int a = V.int b)] (hp : ¬ a = b) (h : B) : if decide (V.int a = V.int b) = true then A else B := iteDF (fun z => hp (V.int.inj z)) h
theorem iteENT {a b : Int} {A B : Prop} [Decidable (V.int a = V.int b)] (hp : ¬ a = b) (h : A) : if (!decide (V.int a = V.int b)) = true then A else B := iteNT (fun z => hp (V.int.inj z)) h
theorem iteENF {a b : Int} {A B : Prop} [Decidable (V.int a = V.int b)] (hp : a = b) (h : B) : if (!decide (V.int a = V.int b)) = true then A else B := iteNF (congrArg V.int hp) h
theorem iteNtt {A B : Prop} (h : B) : if (!true) = true then A else B := h
theorem iteNff {A B : Prop} (h : A) : if (!false) = true then A else B := h
/-- 1 or 0 of a comparison -/
theorem int_if {p : Prop} [Decidable p] : (if decide p = true then (1 : Int) else 0) = if p then 1 else 0 := by by_cases h : p <;> simp [h]
end Pre

namespace My
open PySem PySem.Spec PyProof.Rows L2 Pre
/-! ### == and != of instances by their class's own __eq__ -/
/-- != of a class with own __eq__, without own __ne__ -/
theorem own_ne {prog : Program} {w : World} {A : Around} {E : Value → Shared → Prop} {s : Shared} {K : PySem.W.Frag} {x C f : Addr} {ox : Obj} {od : Option Obj} {b tb : Value} {Q : Value → Shared → Prop} (room : A.units + 1 < cLine) (kin : K.In s.heap)
    (inst : PySem.W.InstAt s.heap x ox C od) (tyb : PySem.W.Looks (model prog w) s.heap (typeOf b) tb) (nf : PySem.W.notFirst K C tb = true) (hne : PySem.W.findIn K (.ref C) "__ne__" = some (some (.builtin "object.__ne__")))
    (heq : PySem.W.findIn K (.ref C) "__eq__" = some (some (.ref f))) (isf : PySem.W.isFn K (.ref f) = true) (hob : PySem.W.subIn K (.ref C) (.type "object") = some true)
    (h : wpAny (model prog w) A.in1 (call (.ref f) [.ref x, b]) (fun v s' => ∃ r, v = .bool r ∧ Q (.bool (!r)) s') E s) : wpAny (model prog w) A (richCompare .NotEq (.ref x) b) Q E s := by
  have body : wpAny (model prog w) A.in1 (Builtin.«object.__ne__» ⟨[.ref x, b], []⟩) (fun fin s' => ∃ r, fin = .done (.ret (.bool r)) ∧ Q (.bool r) s') E s := by
    unfold Builtin.«object.__ne__»
    refine wpAny_bind (wpAny_of_eq (a := ((Value.ref x : Value), [b])) (by first | rfl | (simp only [slotArgs]; rfl)) ?_)
    refine wpAny_bind (wpAny_cRoomFor (show A.in1.units < cLine from room) ?_)
    refine wpAny_bind (PySem.W.ifBound_K kin inst heq isf (wpAny_mono h (fun v s' hv => ?_) fun _ _ e => e))
    obtain ⟨r, rfl, q⟩ := hv
    refine wpAny_bind (wpAny_truthy_bool ?_)
    exact wpAny_pure ⟨!r, rfl, q⟩
  have one : wpAny (model prog w) A (tryCompare (.ref x) "__ne__" b) (fun o s' => ∃ v, o = some v ∧ Q v s') E s := by
    have called : wpAny (model prog w) A (call (.builtin "object.__ne__") ([.ref x] ++ [b]) >>= fun v => pure (some v)) (fun o s' => ∃ v r, o = some v ∧ v = .bool r ∧ Q v s') E s := by
      refine wpAny_bind (wpAny_call (codeAny_call_builtin PySem.F.cmp_object.ne.plain PySem.F.cmpEntry_ne (PySem.W.check_slot PySem.F.cmpKind_ne PySem.F.cmpSplit_ne (inst.type.andThen (PySem.W.looks_subIn kin hob)) (PySem.F.cmpArgs_ne _ _) ?_)))
      refine wpAny_mono body (fun fin s' hf => ?_) fun _ _ e => e
      obtain ⟨r, rfl, q⟩ := hf
      exact wpAny_pure ⟨_, r, rfl, rfl, q⟩
    have inner : wpAny (model prog w) A (callSpecialIfBound? (.ref x) "__ne__" [b]) (fun o s' => ∃ v r, o = some v ∧ v = .bool r ∧ Q v s') E s := by
      simp only [callSpecialIfBound?, bindSpecialIfBound?]
      refine wpAny_holding (wpAny_bind (wpAny_bind (wpAny_bind (inst.type.here ((PySem.W.looks_findIn kin hne).here ?_)))))
      refine wpAny_bind (wpAny_askSetting (wpAny_ite ?_))
      rw [PySem.F.cmp_object.ne.bind]
      split
      · exact wpAny_bind (wpAny_pure (wpAny_pure called))
      · exact wpAny_tryCatch (wpAny_bind (wpAny_pure (wpAny_pure called)))
    unfold tryCompare
    refine wpAny_bind (wpAny_mono inner (fun o s' ho => ?_) fun _ _ e => e)
    obtain ⟨v, r, rfl, rfl, q⟩ := ho
    exact wpAny_pure ⟨_, rfl, q⟩
  unfold richCompare
  simp only [oneThing_ref]
  refine wpAny_holding (wpAny_bind (wpAny_cRoomFor (by omega) ?_))
  refine wpAny_bind (inst.type.here (wpAny_bind (tyb.here ?_)))
  have last : wpAny (model prog w) A (tryCompare (.ref x) "__ne__" b) (fun o s' => ∃ v, o = some v ∧ Q v s') E s := one
  split
  · rename_i q
    have e : PySem.W.subIn K tb (.ref C) = some false := by
      rcases Bool.or_eq_true_iff.mp nf with e | e
      · rw [beq_iff_eq.mp e] at q; simp at q
      · exact beq_iff_eq.mp e
    refine wpAny_bind ((PySem.W.looks_subIn kin e).here ?_)
    simp only [Bool.false_eq_true, if_false]
    refine wpAny_bind (wpAny_mono last (fun o s' z => ?_) fun _ _ e => e)
    obtain ⟨v, rfl, hq⟩ := z
    exact wpAny_pure hq
  · refine wpAny_bind (wpAny_pure ?_)
    simp only [Bool.false_eq_true, if_false]
    refine wpAny_bind (wpAny_mono last (fun o s' z => ?_) fun _ _ e => e)
    obtain ⟨v, rfl, hq⟩ := z
    exact wpAny_pure hq
/-- what is asked of a class with own __eq__ -/
structure EqC (K : PySem.W.Frag) (C f : Addr) : Prop where
  eq : PySem.W.findIn K (.ref C) "__eq__" = some (some (.ref f))
  fn : PySem.W.isFn K (.ref f) = true
  ne : PySem.W.findIn K (.ref C) "__ne__" = some (some (.builtin "object.__ne__"))
  ob : PySem.W.subIn K (.ref C) (.type "object") = some true
  li : PySem.W.subIn K (.type "list") (.ref C) = some false
  ki : PySem.W.kitOne K (.type "list") (.ref C) = some false
/-- what stands right of ==: an instance of the same class, or a list -/
def Rhs (K : PySem.W.Frag) (H : Hp) (C : Addr) (y : V) : Prop := ∃ b, y = .ref b ∧ ((∃ dy gs, H b = some (.ins C dy gs)) ∨ ∃ xs, SqL K H b xs)
section
variable {X : Cx} {CX : CXT} {k : Nat} {f C : Addr} {fd : FuncData} {ps : List Str} {sp : Sp} {E : XK}
theorem rhs_ty {pins : List (Addr × Obj)} {σ : L2.St} {H : Hp} {s : Shared} {y : V} {u : Value} (I : Inv X pins σ H s) (c : EqC X.K C f) (h : Rhs X.K H C y) (r : RelV y u) : ∃ tb, PySem.W.Looks (model X.prog X.w) s.heap (typeOf u) tb ∧ PySem.W.notFirst X.K C tb = true := by
  obtain ⟨b, rfl, h⟩ := h
  cases r
  rcases h with ⟨dy, gs, hb⟩ | ⟨xs, hb⟩
  · obtain ⟨mB, J, _⟩ := ins_get I.hok hb
    obtain ⟨od, J, _⟩ := J.look
    exact ⟨_, J.type, by simp [PySem.W.notFirst]⟩
  · obtain ⟨us, _, ⟨o, n, ho, hc, _⟩, _⟩ := I.list hb
    refine ⟨.type "list", fun A Q E s' k q => wpAny_typeOf_ref (k _ _ ho) (by rw [hc]; exact q), ?_⟩
    simp only [PySem.W.notFirst, c.li]
    simp
theorem run_eq {A : Around} {pins : List (Addr × Obj)} {σ : L2.St} {H : Hp} {s : Shared} {Q : VK} {x y : V} {a : Addr} {u : Value} (F : FnOk X.prog X.w X.K X.mg X.base CX k f fd ps sp) (hr : Room k A) (fr : A.frames = X.A.frames) (hb : Binds X.K fd ps [])
    (hx : Passes CX X E) (I : Inv X pins σ H s) (ry : RelV y u) (h : sp [.ref a, y] H Q E) : wpAny (model X.prog X.w) A (call (.ref f) [.ref a, u]) (EP X pins σ Q) X.xe s := by
  have rr : Vals [V.ref a, y] [Value.ref a, u] := .cons rfl (.cons ry .nil)
  have e := I.env0
  have e0 : Env0 X.prog X.w X.K X.mg X.base A X.stack s H := ⟨by rw [fr]; exact e.frames, e.mod, e.bs, e.bsz, e.funs, e.frf, e.hok, e.bare⟩
  have bn := hb s [.ref a, u] I.kIn (by have := F.len _ _ _ _ h; simpa using this)
  rw [List.append_nil] at bn
  refine wpAny_call (codeAny_mono (F.run A X.stack s H ⟨[.ref a, u], []⟩ [.ref a, u] [.ref a, y] Q E hr e0 bn rr h) fun z s2 hz => ?_)
  match z, hz with
  | .error e, hz => exact hx pins σ H s e s2 I hz
  | .ok (.ret v), hz => exact I.after hz
def rOwn (K : PySem.W.Frag) (C : Addr) (sp : Sp) (E : XK) (no : Bool) : R2 := fun x y H Q => ∃ (a dx : Addr) (fs : List (Str × V)), x = .ref a ∧ H a = some (.ins C dx fs) ∧ Rhs K H C y ∧ sp [x, y] H (fun v H' => ∃ b, v = .bl b ∧ Q (.bl (b != no)) H') E
theorem op_own_eq (c : EqC X.K C f) (F : FnOk X.prog X.w X.K X.mg X.base CX k f fd ps sp) (hr : Room (k + 1) X.A) (hb : Binds X.K fd ps []) (hx : Passes CX X E) : OpR X (compareOp .Eq) (rOwn X.K C sp E false) := by
  intro pins s σ H x y v u Q I rx ry h
  obtain ⟨a, dx, fs, rfl, ha, hy, h⟩ := h
  cases rx
  obtain ⟨tb, lb, nf⟩ := rhs_ty I c hy ry
  obtain ⟨mA, J, _⟩ := ins_get I.hok ha
  obtain ⟨od, J, _⟩ := J.look
  obtain ⟨m, hF⟩ := I.fr
  refine PySem.W.cmp_K (op := .Eq) hr.units0 hF I.ok.mod.kin J lb nf c.eq c.fn (wpAny_mono (run_eq (x := .ref a) F (hr.mono (by omega)) rfl hb hx I ry h) (fun v s2 hv => ?_) fun _ _ z => z)
  obtain ⟨z, H2, I2, r2, b, rfl, q⟩ := hv
  cases r2
  refine ⟨.bl b, H2, I2, rfl, ?_⟩
  have e : (b != false) = b := by cases b <;> rfl
  rw [e] at q
  exact q
theorem op_own_ne (c : EqC X.K C f) (F : FnOk X.prog X.w X.K X.mg X.base CX k f fd ps sp) (hr : Room (k + 1) X.A) (hb : Binds X.K fd ps []) (hx : Passes CX X E) : OpR X (compareOp .NotEq) (rOwn X.K C sp E true) := by
  intro pins s σ H x y v u Q I rx ry h
  obtain ⟨a, dx, fs, rfl, ha, hy, h⟩ := h
  cases rx
  obtain ⟨tb, lb, nf⟩ := rhs_ty I c hy ry
  obtain ⟨mA, J, _⟩ := ins_get I.hok ha
  obtain ⟨od, J, _⟩ := J.look
  refine own_ne (by have := hr.units; omega) I.kIn J lb nf c.ne c.eq c.fn c.ob (wpAny_mono (run_eq (x := .ref a) F hr.in1 rfl hb hx I ry h) (fun v s2 hv => ?_) fun _ _ z => z)
  obtain ⟨z, H2, I2, r2, b, rfl, q⟩ := hv
  cases r2
  refine ⟨b, rfl, .bl (!b), H2, I2, rfl, ?_⟩
  have e : (b != true) = !b := by cases b <;> rfl
  rw [e] at q
  exact q
end
end My

namespace My
open PySem PySem.Spec PyProof.Rows L2
theorem nil_binds {K : PySem.W.Frag} {fd : FuncData} {ps : List Str} (h : ∃ ds, Vals [] ds ∧ Binds K fd ps ds) : Binds K fd ps [] := by
  obtain ⟨ds, v, b⟩ := h
  cases v
  exact b
def top (i : Nat) : Stmt := PySem.Challenge.pw_wholesound_k11_guessers_that_guess_alike.main.body.getD i (.Pass ⟨0, 0, 0, 0⟩)
abbrev s_is_whole : Stmt := top 9
abbrev N_is_whole : List Str := ["value"]
theorem sc_is_whole : FnScope N_is_whole ["value"] (defScope s_is_whole) := ⟨rfl, rfl, rfl, by decide +kernel, rfl, by decide +kernel, by decide +kernel⟩
abbrev s_is_between : Stmt := top 10
abbrev N_is_between : List Str := ["value", "low", "high"]
theorem sc_is_between : FnScope N_is_between ["value", "low", "high"] (defScope s_is_between) := ⟨rfl, rfl, rfl, by decide +kernel, rfl, by decide +kernel, by decide +kernel⟩
abbrev s_are_wholes : Stmt := top 11
abbrev N_are_wholes : List Str := ["value", "item"]
theorem sc_are_wholes : FnScope N_are_wholes ["value"] (defScope s_are_wholes) := ⟨rfl, rfl, rfl, by decide +kernel, rfl, by decide +kernel, by decide +kernel⟩
abbrev s_common_divisor : Stmt := top 12
abbrev N_common_divisor : List Str := ["one", "other"]
theorem sc_common_divisor : FnScope N_common_divisor ["one", "other"] (defScope s_common_divisor) := ⟨rfl, rfl, rfl, by decide +kernel, rfl, by decide +kernel, by decide +kernel⟩
abbrev s_fraction : Stmt := top 13
abbrev N_fraction : List Str := ["top", "under", "common"]
theorem sc_fraction : FnScope N_fraction ["top", "under"] (defScope s_fraction) := ⟨rfl, rfl, rfl, by decide +kernel, rfl, by decide +kernel, by decide +kernel⟩
abbrev s_check_guesser : Stmt := top 19
abbrev N_check_guesser : List Str := ["value"]
theorem sc_check_guesser : FnScope N_check_guesser ["value"] (defScope s_check_guesser) := ⟨rfl, rfl, rfl, by decide +kernel, rfl, by decide +kernel, by decide +kernel⟩
abbrev s_sum_before : Stmt := top 20
abbrev N_sum_before : List Str := ["guesser", "before", "found", "number", "weight"]
theorem sc_sum_before : FnScope N_sum_before ["guesser", "before"] (defScope s_sum_before) := ⟨rfl, rfl, rfl, by decide +kernel, rfl, by decide +kernel, by decide +kernel⟩
abbrev s_guess_behind : Stmt := top 21
abbrev N_guess_behind : List Str := ["guesser", "before"]
theorem sc_guess_behind : FnScope N_guess_behind ["guesser", "before"] (defScope s_guess_behind) := ⟨rfl, rfl, rfl, by decide +kernel, rfl, by decide +kernel, by decide +kernel⟩
abbrev s_guess : Stmt := top 22
abbrev N_guess : List Str := ["guesser", "before"]
theorem sc_guess : FnScope N_guess ["guesser", "before"] (defScope s_guess) := ⟨rfl, rfl, rfl, by decide +kernel, rfl, by decide +kernel, by decide +kernel⟩
abbrev s_quotient : Stmt := top 23
abbrev N_quotient : List Str := ["guesser", "number", "weight"]
theorem sc_quotient : FnScope N_quotient ["guesser", "number"] (defScope s_quotient) := ⟨rfl, rfl, rfl, by decide +kernel, rfl, by decide +kernel, by decide +kernel⟩
abbrev s_same_guess : Stmt := top 24
abbrev N_same_guess : List Str := ["one", "other", "many", "number"]
theorem sc_same_guess : FnScope N_same_guess ["one", "other"] (defScope s_same_guess) := ⟨rfl, rfl, rfl, by decide +kernel, rfl, by decide +kernel, by decide +kernel⟩
abbrev s_normal : Stmt := top 25
abbrev N_normal : List Str := ["guesser", "weights", "shift", "weight"]
theorem sc_normal : FnScope N_normal ["guesser"] (defScope s_normal) := ⟨rfl, rfl, rfl, by decide +kernel, rfl, by decide +kernel, by decide +kernel⟩
abbrev s_simplest : Stmt := top 26
abbrev N_simplest : List Str := ["low", "high", "whole", "down", "first", "last", "inner"]
theorem sc_simplest : FnScope N_simplest ["low", "high"] (defScope s_simplest) := ⟨rfl, rfl, rfl, by decide +kernel, rfl, by decide +kernel, by decide +kernel⟩
abbrev s_parting_sample : Stmt := top 27
abbrev N_parting_sample : List Str := ["one", "other", "many", "low", "high"]
theorem sc_parting_sample : FnScope N_parting_sample ["one", "other"] (defScope s_parting_sample) := ⟨rfl, rfl, rfl, by decide +kernel, rfl, by decide +kernel, by decide +kernel⟩
abbrev s_parting_row : Stmt := top 28
abbrev N_parting_row : List Str := ["one", "other", "number", "many", "found", "here", "there", "sample", "place"]
theorem sc_parting_row : FnScope N_parting_row ["one", "other"] (defScope s_parting_row) := ⟨rfl, rfl, rfl, by decide +kernel, rfl, by decide +kernel, by decide +kernel⟩
abbrev s_law_cell : Stmt := top 30
abbrev N_law_cell : List Str := ["_law_script", "_law_index"]
theorem sc_law_cell : FnScope N_law_cell ["_law_script", "_law_index"] (defScope s_law_cell) := ⟨rfl, rfl, rfl, by decide +kernel, rfl, by decide +kernel, by decide +kernel⟩
abbrev s_law_hash : Stmt := top 31
abbrev N_law_hash : List Str := ["_law_seed", "_law_index", "_law_mixed"]
theorem sc_law_hash : FnScope N_law_hash ["_law_seed", "_law_index"] (defScope s_law_hash) := ⟨rfl, rfl, rfl, by decide +kernel, rfl, by decide +kernel, by decide +kernel⟩
abbrev s_law_generator : Stmt := top 32
abbrev N_law_generator : List Str := ["_law_script", "_law_index", "_law_seed"]
theorem sc_law_generator : FnScope N_law_generator ["_law_script", "_law_index"] (defScope s_law_generator) := ⟨rfl, rfl, rfl, by decide +kernel, rfl, by decide +kernel, by decide +kernel⟩
abbrev s_law_random : Stmt := top 33
abbrev N_law_random : List Str := ["_law_generator_here", "_law_bound", "_law_drawn", "_law_turn"]
theorem sc_law_random : FnScope N_law_random ["_law_generator_here", "_law_bound"] (defScope s_law_random) := ⟨rfl, rfl, rfl, by decide +kernel, rfl, by decide +kernel, by decide +kernel⟩
abbrev s_law_weights : Stmt := top 34
abbrev N_law_weights : List Str := ["_law_generator_here", "_law_many", "_law_found", "_law_number", "_law_great", "_law_kind"]
theorem sc_law_weights : FnScope N_law_weights ["_law_generator_here", "_law_many"] (defScope s_law_weights) := ⟨rfl, rfl, rfl, by decide +kernel, rfl, by decide +kernel, by decide +kernel⟩
abbrev s_law_other_drawn : Stmt := top 35
abbrev N_law_other_drawn : List Str := ["_law_generator_here", "_law_weights_here", "_law_shift", "_law_kind", "_law_more", "_law_at", "_law_weight"]
theorem sc_law_other_drawn : FnScope N_law_other_drawn ["_law_generator_here", "_law_weights_here", "_law_shift"] (defScope s_law_other_drawn) := ⟨rfl, rfl, rfl, by decide +kernel, rfl, by decide +kernel, by decide +kernel⟩
abbrev s_law_padded : Stmt := top 36
abbrev N_law_padded : List Str := ["_law_weights_here", "_law_many"]
theorem sc_law_padded : FnScope N_law_padded ["_law_weights_here", "_law_many"] (defScope s_law_padded) := ⟨rfl, rfl, rfl, by decide +kernel, rfl, by decide +kernel, by decide +kernel⟩
abbrev s_law_unlike : Stmt := top 37
abbrev N_law_unlike : List Str := ["_law_one", "_law_other", "_law_place", "_law_number", "_law_first"]
theorem sc_law_unlike : FnScope N_law_unlike ["_law_one", "_law_other", "_law_place", "_law_number"] (defScope s_law_unlike) := ⟨rfl, rfl, rfl, by decide +kernel, rfl, by decide +kernel, by decide +kernel⟩
abbrev s_law_least : Stmt := top 38
abbrev N_law_least : List Str := ["_law_one", "_law_other", "_law_many", "_law_number", "_law_place", "_law_signed"]
theorem sc_law_least : FnScope N_law_least ["_law_one", "_law_other", "_law_many"] (defScope s_law_least) := ⟨rfl, rfl, rfl, by decide +kernel, rfl, by decide +kernel, by decide +kernel⟩
abbrev s_law_small : Stmt := top 39
abbrev N_law_small : List Str := ["_law_weights_here", "_law_weight"]
theorem sc_law_small : FnScope N_law_small ["_law_weights_here"] (defScope s_law_small) := ⟨rfl, rfl, rfl, by decide +kernel, rfl, by decide +kernel, by decide +kernel⟩
abbrev s_law_right : Stmt := top 40
abbrev N_law_right : List Str := ["_law_one", "_law_other", "_law_many", "_law_full", "_law_same", "_law_made", "_law_told", "_law_due", "_law_at", "_law_place"]
theorem sc_law_right : FnScope N_law_right ["_law_one", "_law_other"] (defScope s_law_right) := ⟨rfl, rfl, rfl, by decide +kernel, rfl, by decide +kernel, by decide +kernel⟩
abbrev s_law_normal_right : Stmt := top 41
abbrev N_law_normal_right : List Str := ["_law_weights_here", "_law_shift", "_law_told", "_law_plain", "_law_down", "_law_weight"]
theorem sc_law_normal_right : FnScope N_law_normal_right ["_law_weights_here", "_law_shift"] (defScope s_law_normal_right) := ⟨rfl, rfl, rfl, by decide +kernel, rfl, by decide +kernel, by decide +kernel⟩
abbrev s_law : Stmt := top 42
abbrev N_law : List Str := ["_law_script", "_law_index", "_law_generator_here", "_law_other", "_law_great", "_law_near", "_law_weights_here", "_law_shift"]
theorem sc_law : FnScope N_law ["_law_script"] (defScope s_law) := ⟨rfl, rfl, rfl, by decide +kernel, rfl, by decide +kernel, by decide +kernel⟩
abbrev s_Guesser___init__ : Stmt := inClass (top 18) 0
abbrev N_Guesser___init__ : List Str := ["self", "weights", "shift", "weight"]
theorem sc_Guesser___init__ : FnScope N_Guesser___init__ ["self", "weights", "shift"] (defScope s_Guesser___init__) := ⟨rfl, rfl, rfl, by decide +kernel, rfl, by decide +kernel, by decide +kernel⟩
abbrev s_Guesser_weights : Stmt := inClass (top 18) 1
abbrev N_Guesser_weights : List Str := ["self"]
theorem sc_Guesser_weights : FnScope N_Guesser_weights ["self"] (defScope s_Guesser_weights) := ⟨rfl, rfl, rfl, by decide +kernel, rfl, by decide +kernel, by decide +kernel⟩
abbrev s_Guesser_shift : Stmt := inClass (top 18) 2
abbrev N_Guesser_shift : List Str := ["self"]
theorem sc_Guesser_shift : FnScope N_Guesser_shift ["self"] (defScope s_Guesser_shift) := ⟨rfl, rfl, rfl, by decide +kernel, rfl, by decide +kernel, by decide +kernel⟩
abbrev s_Guesser___eq__ : Stmt := inClass (top 18) 4
abbrev N_Guesser___eq__ : List Str := ["self", "other"]
theorem sc_Guesser___eq__ : FnScope N_Guesser___eq__ ["self", "other"] (defScope s_Guesser___eq__) := ⟨rfl, rfl, rfl, by decide +kernel, rfl, by decide +kernel, by decide +kernel⟩
/-- what the top has left -/
structure Top (K : PySem.W.Frag) (mg : Str → Option Value) where
  C_Guesser : Addr
  gc_Guesser : mg "Guesser" = some (.ref C_Guesser)
  cl_Guesser : Cls K C_Guesser
  ic_Guesser : C8.InsC K C_Guesser
  f_Guesser___eq__ : Addr
  ec_Guesser : EqC K C_Guesser f_Guesser___eq__
  na_Guesser_parts : NoAttr K C_Guesser "parts"
  na_Guesser_down : NoAttr K C_Guesser "down"
  f_is_whole : Addr
  fd_is_whole : FuncData
  F_is_whole : FunD K "is_whole" "is_whole" (defArgs s_is_whole) (defBody s_is_whole) (defScope s_is_whole) [] [] f_is_whole fd_is_whole
  b_is_whole : Binds K fd_is_whole ["value"] []
  g_is_whole : mg "is_whole" = some (.ref f_is_whole)
  f_is_between : Addr
  fd_is_between : FuncData
  F_is_between : FunD K "is_between" "is_between" (defArgs s_is_between) (defBody s_is_between) (defScope s_is_between) [] [] f_is_between fd_is_between
  b_is_between : Binds K fd_is_between ["value", "low", "high"] []
  g_is_between : mg "is_between" = some (.ref f_is_between)
  f_are_wholes : Addr
  fd_are_wholes : FuncData
  F_are_wholes : FunD K "are_wholes" "are_wholes" (defArgs s_are_wholes) (defBody s_are_wholes) (defScope s_are_wholes) [] [] f_are_wholes fd_are_wholes
  b_are_wholes : Binds K fd_are_wholes ["value"] []
  g_are_wholes : mg "are_wholes" = some (.ref f_are_wholes)
  f_common_divisor : Addr
  fd_common_divisor : FuncData
  F_common_divisor : FunD K "common_divisor" "common_divisor" (defArgs s_common_divisor) (defBody s_common_divisor) (defScope s_common_divisor) [] [] f_common_divisor fd_common_divisor
  b_common_divisor : Binds K fd_common_divisor ["one", "other"] []
  g_common_divisor : mg "common_divisor" = some (.ref f_common_divisor)
  f_fraction : Addr
  fd_fraction : FuncData
  F_fraction : FunD K "fraction" "fraction" (defArgs s_fraction) (defBody s_fraction) (defScope s_fraction) [] [] f_fraction fd_fraction
  b_fraction : Binds K fd_fraction ["top", "under"] []
  g_fraction : mg "fraction" = some (.ref f_fraction)
  f_check_guesser : Addr
  fd_check_guesser : FuncData
  F_check_guesser : FunD K "check_guesser" "check_guesser" (defArgs s_check_guesser) (defBody s_check_guesser) (defScope s_check_guesser) [] [] f_check_guesser fd_check_guesser
  b_check_guesser : Binds K fd_check_guesser ["value"] []
  g_check_guesser : mg "check_guesser" = some (.ref f_check_guesser)
  f_sum_before : Addr
  fd_sum_before : FuncData
  F_sum_before : FunD K "sum_before" "sum_before" (defArgs s_sum_before) (defBody s_sum_before) (defScope s_sum_before) [] [] f_sum_before fd_sum_before
  b_sum_before : Binds K fd_sum_before ["guesser", "before"] []
  g_sum_before : mg "sum_before" = some (.ref f_sum_before)
  f_guess_behind : Addr
  fd_guess_behind : FuncData
  F_guess_behind : FunD K "guess_behind" "guess_behind" (defArgs s_guess_behind) (defBody s_guess_behind) (defScope s_guess_behind) [] [] f_guess_behind fd_guess_behind
  b_guess_behind : Binds K fd_guess_behind ["guesser", "before"] []
  g_guess_behind : mg "guess_behind" = some (.ref f_guess_behind)
  f_guess : Addr
  fd_guess : FuncData
  F_guess : FunD K "guess" "guess" (defArgs s_guess) (defBody s_guess) (defScope s_guess) [] [] f_guess fd_guess
  b_guess : Binds K fd_guess ["guesser", "before"] []
  g_guess : mg "guess" = some (.ref f_guess)
  f_quotient : Addr
  fd_quotient : FuncData
  F_quotient : FunD K "quotient" "quotient" (defArgs s_quotient) (defBody s_quotient) (defScope s_quotient) [] [] f_quotient fd_quotient
  b_quotient : Binds K fd_quotient ["guesser", "number"] []
  g_quotient : mg "quotient" = some (.ref f_quotient)
  f_same_guess : Addr
  fd_same_guess : FuncData
  F_same_guess : FunD K "same_guess" "same_guess" (defArgs s_same_guess) (defBody s_same_guess) (defScope s_same_guess) [] [] f_same_guess fd_same_guess
  b_same_guess : Binds K fd_same_guess ["one", "other"] []
  g_same_guess : mg "same_guess" = some (.ref f_same_guess)
  f_normal : Addr
  fd_normal : FuncData
  F_normal : FunD K "normal" "normal" (defArgs s_normal) (defBody s_normal) (defScope s_normal) [] [] f_normal fd_normal
  b_normal : Binds K fd_normal ["guesser"] []
  g_normal : mg "normal" = some (.ref f_normal)
  f_simplest : Addr
  fd_simplest : FuncData
  F_simplest : FunD K "simplest" "simplest" (defArgs s_simplest) (defBody s_simplest) (defScope s_simplest) [] [] f_simplest fd_simplest
  b_simplest : Binds K fd_simplest ["low", "high"] []
  g_simplest : mg "simplest" = some (.ref f_simplest)
  f_parting_sample : Addr
  fd_parting_sample : FuncData
  F_parting_sample : FunD K "parting_sample" "parting_sample" (defArgs s_parting_sample) (defBody s_parting_sample) (defScope s_parting_sample) [] [] f_parting_sample fd_parting_sample
  b_parting_sample : Binds K fd_parting_sample ["one", "other"] []
  g_parting_sample : mg "parting_sample" = some (.ref f_parting_sample)
  f_parting_row : Addr
  fd_parting_row : FuncData
  F_parting_row : FunD K "parting_row" "parting_row" (defArgs s_parting_row) (defBody s_parting_row) (defScope s_parting_row) [] [] f_parting_row fd_parting_row
  b_parting_row : Binds K fd_parting_row ["one", "other"] []
  g_parting_row : mg "parting_row" = some (.ref f_parting_row)
  f_law_cell : Addr
  fd_law_cell : FuncData
  F_law_cell : FunD K "_law_cell" "_law_cell" (defArgs s_law_cell) (defBody s_law_cell) (defScope s_law_cell) [] [] f_law_cell fd_law_cell
  b_law_cell : Binds K fd_law_cell ["_law_script", "_law_index"] []
  g_law_cell : mg "_law_cell" = some (.ref f_law_cell)
  f_law_hash : Addr
  fd_law_hash : FuncData
  F_law_hash : FunD K "_law_hash" "_law_hash" (defArgs s_law_hash) (defBody s_law_hash) (defScope s_law_hash) [] [] f_law_hash fd_law_hash
  b_law_hash : Binds K fd_law_hash ["_law_seed", "_law_index"] []
  g_law_hash : mg "_law_hash" = some (.ref f_law_hash)
  f_law_generator : Addr
  fd_law_generator : FuncData
  F_law_generator : FunD K "_law_generator" "_law_generator" (defArgs s_law_generator) (defBody s_law_generator) (defScope s_law_generator) [] [] f_law_generator fd_law_generator
  b_law_generator : Binds K fd_law_generator ["_law_script", "_law_index"] []
  g_law_generator : mg "_law_generator" = some (.ref f_law_generator)
  f_law_random : Addr
  fd_law_random : FuncData
  F_law_random : FunD K "_law_random" "_law_random" (defArgs s_law_random) (defBody s_law_random) (defScope s_law_random) [] [] f_law_random fd_law_random
  b_law_random : Binds K fd_law_random ["_law_generator_here", "_law_bound"] []
  g_law_random : mg "_law_random" = some (.ref f_law_random)
  f_law_weights : Addr
  fd_law_weights : FuncData
  F_law_weights : FunD K "_law_weights" "_law_weights" (defArgs s_law_weights) (defBody s_law_weights) (defScope s_law_weights) [] [] f_law_weights fd_law_weights
  b_law_weights : Binds K fd_law_weights ["_law_generator_here", "_law_many"] []
  g_law_weights : mg "_law_weights" = some (.ref f_law_weights)
  f_law_other_drawn : Addr
  fd_law_other_drawn : FuncData
  F_law_other_drawn : FunD K "_law_other_drawn" "_law_other_drawn" (defArgs s_law_other_drawn) (defBody s_law_other_drawn) (defScope s_law_other_drawn) [] [] f_law_other_drawn fd_law_other_drawn
  b_law_other_drawn : Binds K fd_law_other_drawn ["_law_generator_here", "_law_weights_here", "_law_shift"] []
  g_law_other_drawn : mg "_law_other_drawn" = some (.ref f_law_other_drawn)
  f_law_padded : Addr
  fd_law_padded : FuncData
  F_law_padded : FunD K "_law_padded" "_law_padded" (defArgs s_law_padded) (defBody s_law_padded) (defScope s_law_padded) [] [] f_law_padded fd_law_padded
  b_law_padded : Binds K fd_law_padded ["_law_weights_here", "_law_many"] []
  g_law_padded : mg "_law_padded" = some (.ref f_law_padded)
  f_law_unlike : Addr
  fd_law_unlike : FuncData
  F_law_unlike : FunD K "_law_unlike" "_law_unlike" (defArgs s_law_unlike) (defBody s_law_unlike) (defScope s_law_unlike) [] [] f_law_unlike fd_law_unlike
  b_law_unlike : Binds K fd_law_unlike ["_law_one", "_law_other", "_law_place", "_law_number"] []
  g_law_unlike : mg "_law_unlike" = some (.ref f_law_unlike)
  f_law_least : Addr
  fd_law_least : FuncData
  F_law_least : FunD K "_law_least" "_law_least" (defArgs s_law_least) (defBody s_law_least) (defScope s_law_least) [] [] f_law_least fd_law_least
  b_law_least : Binds K fd_law_least ["_law_one", "_law_other", "_law_many"] []
  g_law_least : mg "_law_least" = some (.ref f_law_least)
  f_law_small : Addr
  fd_law_small : FuncData
  F_law_small : FunD K "_law_small" "_law_small" (defArgs s_law_small) (defBody s_law_small) (defScope s_law_small) [] [] f_law_small fd_law_small
  b_law_small : Binds K fd_law_small ["_law_weights_here"] []
  g_law_small : mg "_law_small" = some (.ref f_law_small)
  f_law_right : Addr
  fd_law_right : FuncData
  F_law_right : FunD K "_law_right" "_law_right" (defArgs s_law_right) (defBody s_law_right) (defScope s_law_right) [] [] f_law_right fd_law_right
  b_law_right : Binds K fd_law_right ["_law_one", "_law_other"] []
  g_law_right : mg "_law_right" = some (.ref f_law_right)
  f_law_normal_right : Addr
  fd_law_normal_right : FuncData
  F_law_normal_right : FunD K "_law_normal_right" "_law_normal_right" (defArgs s_law_normal_right) (defBody s_law_normal_right) (defScope s_law_normal_right) [] [] f_law_normal_right fd_law_normal_right
  b_law_normal_right : Binds K fd_law_normal_right ["_law_weights_here", "_law_shift"] []
  g_law_normal_right : mg "_law_normal_right" = some (.ref f_law_normal_right)
  f_law : Addr
  fd_law : FuncData
  F_law : FunD K "law" "law" (defArgs s_law) (defBody s_law) (defScope s_law) [] [] f_law fd_law
  b_law : Binds K fd_law ["_law_script"] []
  g_law : mg "law" = some (.ref f_law)
  f_Guesser___init__ : Addr
  fd_Guesser___init__ : FuncData
  F_Guesser___init__ : FunD K "__init__" "Guesser.__init__" (defArgs s_Guesser___init__) (defBody s_Guesser___init__) (defScope s_Guesser___init__) [] [] f_Guesser___init__ fd_Guesser___init__
  b_Guesser___init__ : Binds K fd_Guesser___init__ ["self", "weights", "shift"] []
  me_Guesser___init__ : Meth K C_Guesser "__init__" f_Guesser___init__
  mk_Guesser : Mk K C_Guesser f_Guesser___init__
  f_Guesser_weights : Addr
  fd_Guesser_weights : FuncData
  F_Guesser_weights : FunD K "weights" "Guesser.weights" (defArgs s_Guesser_weights) (defBody s_Guesser_weights) (defScope s_Guesser_weights) [] [] f_Guesser_weights fd_Guesser_weights
  b_Guesser_weights : Binds K fd_Guesser_weights ["self"] []
  me_Guesser_weights : Meth K C_Guesser "weights" f_Guesser_weights
  f_Guesser_shift : Addr
  fd_Guesser_shift : FuncData
  F_Guesser_shift : FunD K "shift" "Guesser.shift" (defArgs s_Guesser_shift) (defBody s_Guesser_shift) (defScope s_Guesser_shift) [] [] f_Guesser_shift fd_Guesser_shift
  b_Guesser_shift : Binds K fd_Guesser_shift ["self"] []
  me_Guesser_shift : Meth K C_Guesser "shift" f_Guesser_shift
  fd_Guesser___eq__ : FuncData
  F_Guesser___eq__ : FunD K "__eq__" "Guesser.__eq__" (defArgs s_Guesser___eq__) (defBody s_Guesser___eq__) (defScope s_Guesser___eq__) [] [] f_Guesser___eq__ fd_Guesser___eq__
  b_Guesser___eq__ : Binds K fd_Guesser___eq__ ["self", "other"] []
  me_Guesser___eq__ : Meth K C_Guesser "__eq__" f_Guesser___eq__
  n_len : mg "len" = none
  n_sum : mg "sum" = none
  n_max : mg "max" = none
  n_min : mg "min" = none
  n_int : mg "int" = none
  n_bool : mg "bool" = none
  n_list : mg "list" = none
  n_range : mg "range" = none
  n_isinstance : mg "isinstance" = none
  n_abs : mg "abs" = none
  n_enumerate : mg "enumerate" = none
  t_MOST_ORDER : Tok
  m_MOST_ORDER : mg "MOST_ORDER" = some (.int 8 t_MOST_ORDER)
  t_MOST_WEIGHT : Tok
  m_MOST_WEIGHT : mg "MOST_WEIGHT" = some (.int 32768 t_MOST_WEIGHT)
  t_MOST_SHIFT : Tok
  m_MOST_SHIFT : mg "MOST_SHIFT" = some (.int 15 t_MOST_SHIFT)
def d_is_whole : He.DefD := ⟨("is_whole", none), "is_whole", "is_whole", defArgs s_is_whole, defBody s_is_whole, defScope s_is_whole, [], []⟩
def d_is_between : He.DefD := ⟨("is_between", none), "is_between", "is_between", defArgs s_is_between, defBody s_is_between, defScope s_is_between, [], []⟩
def d_are_wholes : He.DefD := ⟨("are_wholes", none), "are_wholes", "are_wholes", defArgs s_are_wholes, defBody s_are_wholes, defScope s_are_wholes, [], []⟩
def d_common_divisor : He.DefD := ⟨("common_divisor", none), "common_divisor", "common_divisor", defArgs s_common_divisor, defBody s_common_divisor, defScope s_common_divisor, [], []⟩
def d_fraction : He.DefD := ⟨("fraction", none), "fraction", "fraction", defArgs s_fraction, defBody s_fraction, defScope s_fraction, [], []⟩
def d_check_guesser : He.DefD := ⟨("check_guesser", none), "check_guesser", "check_guesser", defArgs s_check_guesser, defBody s_check_guesser, defScope s_check_guesser, [], []⟩
def d_sum_before : He.DefD := ⟨("sum_before", none), "sum_before", "sum_before", defArgs s_sum_before, defBody s_sum_before, defScope s_sum_before, [], []⟩
def d_guess_behind : He.DefD := ⟨("guess_behind", none), "guess_behind", "guess_behind", defArgs s_guess_behind, defBody s_guess_behind, defScope s_guess_behind, [], []⟩
def d_guess : He.DefD := ⟨("guess", none), "guess", "guess", defArgs s_guess, defBody s_guess, defScope s_guess, [], []⟩
def d_quotient : He.DefD := ⟨("quotient", none), "quotient", "quotient", defArgs s_quotient, defBody s_quotient, defScope s_quotient, [], []⟩
def d_same_guess : He.DefD := ⟨("same_guess", none), "same_guess", "same_guess", defArgs s_same_guess, defBody s_same_guess, defScope s_same_guess, [], []⟩
def d_normal : He.DefD := ⟨("normal", none), "normal", "normal", defArgs s_normal, defBody s_normal, defScope s_normal, [], []⟩
def d_simplest : He.DefD := ⟨("simplest", none), "simplest", "simplest", defArgs s_simplest, defBody s_simplest, defScope s_simplest, [], []⟩
def d_parting_sample : He.DefD := ⟨("parting_sample", none), "parting_sample", "parting_sample", defArgs s_parting_sample, defBody s_parting_sample, defScope s_parting_sample, [], []⟩
def d_parting_row : He.DefD := ⟨("parting_row", none), "parting_row", "parting_row", defArgs s_parting_row, defBody s_parting_row, defScope s_parting_row, [], []⟩
def d_law_cell : He.DefD := ⟨("_law_cell", none), "_law_cell", "_law_cell", defArgs s_law_cell, defBody s_law_cell, defScope s_law_cell, [], []⟩
def d_law_hash : He.DefD := ⟨("_law_hash", none), "_law_hash", "_law_hash", defArgs s_law_hash, defBody s_law_hash, defScope s_law_hash, [], []⟩
def d_law_generator : He.DefD := ⟨("_law_generator", none), "_law_generator", "_law_generator", defArgs s_law_generator, defBody s_law_generator, defScope s_law_generator, [], []⟩
def d_law_random : He.DefD := ⟨("_law_random", none), "_law_random", "_law_random", defArgs s_law_random, defBody s_law_random, defScope s_law_random, [], []⟩
def d_law_weights : He.DefD := ⟨("_law_weights", none), "_law_weights", "_law_weights", defArgs s_law_weights, defBody s_law_weights, defScope s_law_weights, [], []⟩
def d_law_other_drawn : He.DefD := ⟨("_law_other_drawn", none), "_law_other_drawn", "_law_other_drawn", defArgs s_law_other_drawn, defBody s_law_other_drawn, defScope s_law_other_drawn, [], []⟩
def d_law_padded : He.DefD := ⟨("_law_padded", none), "_law_padded", "_law_padded", defArgs s_law_padded, defBody s_law_padded, defScope s_law_padded, [], []⟩
def d_law_unlike : He.DefD := ⟨("_law_unlike", none), "_law_unlike", "_law_unlike", defArgs s_law_unlike, defBody s_law_unlike, defScope s_law_unlike, [], []⟩
def d_law_least : He.DefD := ⟨("_law_least", none), "_law_least", "_law_least", defArgs s_law_least, defBody s_law_least, defScope s_law_least, [], []⟩
def d_law_small : He.DefD := ⟨("_law_small", none), "_law_small", "_law_small", defArgs s_law_small, defBody s_law_small, defScope s_law_small, [], []⟩
def d_law_right : He.DefD := ⟨("_law_right", none), "_law_right", "_law_right", defArgs s_law_right, defBody s_law_right, defScope s_law_right, [], []⟩
def d_law_normal_right : He.DefD := ⟨("_law_normal_right", none), "_law_normal_right", "_law_normal_right", defArgs s_law_normal_right, defBody s_law_normal_right, defScope s_law_normal_right, [], []⟩
def d_law : He.DefD := ⟨("law", none), "law", "law", defArgs s_law, defBody s_law, defScope s_law, [], []⟩
def d_Guesser___init__ : He.DefD := ⟨("Guesser", some "__init__"), "__init__", "Guesser.__init__", defArgs s_Guesser___init__, defBody s_Guesser___init__, defScope s_Guesser___init__, [], []⟩
def d_Guesser_weights : He.DefD := ⟨("Guesser", some "weights"), "weights", "Guesser.weights", defArgs s_Guesser_weights, defBody s_Guesser_weights, defScope s_Guesser_weights, [], []⟩
def d_Guesser_shift : He.DefD := ⟨("Guesser", some "shift"), "shift", "Guesser.shift", defArgs s_Guesser_shift, defBody s_Guesser_shift, defScope s_Guesser_shift, [], []⟩
def d_Guesser___eq__ : He.DefD := ⟨("Guesser", some "__eq__"), "__eq__", "Guesser.__eq__", defArgs s_Guesser___eq__, defBody s_Guesser___eq__, defScope s_Guesser___eq__, [], []⟩
def fn : List He.DefD := [d_is_whole, d_is_between, d_are_wholes, d_common_divisor, d_fraction, d_check_guesser, d_sum_before, d_guess_behind, d_guess, d_quotient, d_same_guess, d_normal, d_simplest, d_parting_sample, d_parting_row, d_law_cell, d_law_hash, d_law_generator, d_law_random, d_law_weights, d_law_other_drawn, d_law_padded, d_law_unlike, d_law_least, d_law_small, d_law_right, d_law_normal_right, d_law, d_Guesser___init__, d_Guesser_weights, d_Guesser_shift, d_Guesser___eq__]
def fa0 : List He.Fa := [.glo "is_whole", .glo "is_between", .glo "are_wholes", .glo "common_divisor", .glo "fraction", .glo "check_guesser", .glo "sum_before", .glo "guess_behind", .glo "guess", .glo "quotient", .glo "same_guess", .glo "normal", .glo "simplest", .glo "parting_sample", .glo "parting_row", .glo "_law_cell", .glo "_law_hash", .glo "_law_generator", .glo "_law_random", .glo "_law_weights", .glo "_law_other_drawn", .glo "_law_padded", .glo "_law_unlike", .glo "_law_least", .glo "_law_small", .glo "_law_right", .glo "_law_normal_right", .glo "law", .free "len", .free "sum"]
def fa1 : List He.Fa := [.free "max", .free "min", .free "int", .free "bool", .free "list", .free "range", .free "isinstance", .free "abs", .free "enumerate", .int "MOST_ORDER" 8, .int "MOST_WEIGHT" 32768, .int "MOST_SHIFT" 15, .glo "Guesser", .cls "Guesser", .noat "Guesser" "parts", .noat "Guesser" "down", .mkr "Guesser", .meth "Guesser" "__init__", .meth "Guesser" "weights", .meth "Guesser" "shift", .meth "Guesser" "__eq__"]
def fa : List He.Fa := fa0 ++ fa1
/-- isinstance of an own class -/
def insB (K : PySem.W.Frag) (x : Str) : Bool := decide (PySem.W.findIn K (.ref (He.ga K x)) "__class__" = some (some (.builtin "object.__class__"))) && (decide (PySem.W.specialIn K (.builtin "object.__class__") "__get__" = some (some (.builtin "getset_descriptor.__get__"))) && (decide (PySem.W.takesIn K (.builtin "object.__class__") = some true) && (decide (PySem.W.mroIn K (He.ga K x) (.type "object") = some true) && decide (PySem.W.kitOne K (.ref (He.ga K x)) (.ref (He.ga K x)) = some true))))
theorem insB_ok {K : PySem.W.Frag} {x : Str} (cl : Cls K (He.ga K x)) (h : insB K x = true) : C8.InsC K (He.ga K x) := by
  unfold insB at h
  simp only [Bool.and_eq_true, decide_eq_true_eq] at h
  exact ⟨cl, h.1, h.2.1, h.2.2.1, h.2.2.2.1, h.2.2.2.2⟩
def eqB (K : PySem.W.Frag) (x : Str) : Bool := decide (PySem.W.findIn K (.ref (He.ga K x)) "__ne__" = some (some (.builtin "object.__ne__"))) && (decide (PySem.W.subIn K (.ref (He.ga K x)) (.type "object") = some true) && (decide (PySem.W.subIn K (.type "list") (.ref (He.ga K x)) = some false) && decide (PySem.W.kitOne K (.type "list") (.ref (He.ga K x)) = some false)))
theorem eqB_ok {K : PySem.W.Frag} {x : Str} {f : Addr} (m : Meth K (He.ga K x) "__eq__" f) (h : eqB K x = true) : EqC K (He.ga K x) f := by
  unfold eqB at h
  simp only [Bool.and_eq_true, decide_eq_true_eq] at h
  exact ⟨m.at_, m.fn, h.1, h.2.1, h.2.2.1, h.2.2.2⟩
def eqs : List Str := ["Guesser"]
def own : List Str := ["Guesser"]
def ex (K : PySem.W.Frag) : Bool := (own.all fun x => insB K x) && eqs.all fun x => eqB K x
abbrev R : PySem.W.OpenRow := PySem.W.OpenLaw.row PySem.Challenge.rw_wholesound_k11_guessers_that_guess_alike
abbrev Al : Type := He.AlD × Bool
def obsG (g : Addr → Option Obj) : Al := (He.obsDG 5 fa fn g, ex (He.frG g (He.asD g 5)))
def Says (K : PySem.W.Frag) : Prop := He.SaysD fa fn K ∧ ex K = true
def hk : PySem.W.Hook where
  α := Al
  obs := fun s => obsG s.heap.get?
  val := fun _ => (He.valD fn, true)
  says := fun _ h => ∃ K : PySem.W.Frag, K.In h ∧ Says K
  of := fun _ _ e => ⟨_, He.frG_in, congrArg Prod.fst e, congrArg Prod.snd e⟩
  keeps := fun _ _ _ ⟨K, hK, c⟩ k => ⟨K, PySem.W.Frag.In.keeps hK k, c⟩
def ob (s : PySem.W.SharedT) : Al := obsG (HandSHeadRun.getT s)
theorem ob_eq (s : PySem.W.SharedT) : ob s = hk.obs s.abs := by
  have e : HandSHeadRun.getT s = s.abs.heap.get? := funext (HandSHeadRun.getT_eq s)
  show obsG (HandSHeadRun.getT s) = obsG s.abs.heap.get?
  rw [e]
def loose0 : List PySem.Str := ["_wall", "SoundError", "InvalidNumber", "InvalidList", "InvalidItem", "InvalidRow", "InvalidGuesser", "is_whole", "is_between", "are_wholes", "common_divisor", "fraction", "MOST_ORDER", "MOST_WEIGHT", "MOST_SHIFT", "Guesser", "check_guesser", "sum_before", "guess_behind", "guess", "quotient", "same_guess", "normal", "simplest", "parting_sample", "parting_row", "_law_cell", "_law_hash", "_law_generator", "_law_random"]
def loose1 : List PySem.Str := ["_law_weights", "_law_other_drawn", "_law_padded", "_law_unlike", "_law_least", "_law_small", "_law_right", "_law_normal_right"]
abbrev loose : List PySem.Str := loose0 ++ loose1
theorem run (w : World) : HandSHeadRun.RunEq R (PySem.W.view R.prog [42]) hk ob 8000 loose w := by
  intro os
  kernel_rfl
noncomputable def top_mk {K : PySem.W.Frag} {h : Heap} {mg : Str → Option Value} (X : K.In h) (G : h.Ns mainGlobals mg) (c : Says K) : Top K mg :=
  let p0 := c.1.def_ 0 (d := d_is_whole) rfl
  let p1 := c.1.def_ 1 (d := d_is_between) rfl
  let p2 := c.1.def_ 2 (d := d_are_wholes) rfl
  let p3 := c.1.def_ 3 (d := d_common_divisor) rfl
  let p4 := c.1.def_ 4 (d := d_fraction) rfl
  let p5 := c.1.def_ 5 (d := d_check_guesser) rfl
  let p6 := c.1.def_ 6 (d := d_sum_before) rfl
  let p7 := c.1.def_ 7 (d := d_guess_behind) rfl
  let p8 := c.1.def_ 8 (d := d_guess) rfl
  let p9 := c.1.def_ 9 (d := d_quotient) rfl
  let p10 := c.1.def_ 10 (d := d_same_guess) rfl
  let p11 := c.1.def_ 11 (d := d_normal) rfl
  let p12 := c.1.def_ 12 (d := d_simplest) rfl
  let p13 := c.1.def_ 13 (d := d_parting_sample) rfl
  let p14 := c.1.def_ 14 (d := d_parting_row) rfl
  let p15 := c.1.def_ 15 (d := d_law_cell) rfl
  let p16 := c.1.def_ 16 (d := d_law_hash) rfl
  let p17 := c.1.def_ 17 (d := d_law_generator) rfl
  let p18 := c.1.def_ 18 (d := d_law_random) rfl
  let p19 := c.1.def_ 19 (d := d_law_weights) rfl
  let p20 := c.1.def_ 20 (d := d_law_other_drawn) rfl
  let p21 := c.1.def_ 21 (d := d_law_padded) rfl
  let p22 := c.1.def_ 22 (d := d_law_unlike) rfl
  let p23 := c.1.def_ 23 (d := d_law_least) rfl
  let p24 := c.1.def_ 24 (d := d_law_small) rfl
  let p25 := c.1.def_ 25 (d := d_law_right) rfl
  let p26 := c.1.def_ 26 (d := d_law_normal_right) rfl
  let p27 := c.1.def_ 27 (d := d_law) rfl
  let p28 := c.1.def_ 28 (d := d_Guesser___init__) rfl
  let p29 := c.1.def_ 29 (d := d_Guesser_weights) rfl
  let p30 := c.1.def_ 30 (d := d_Guesser_shift) rfl
  let p31 := c.1.def_ 31 (d := d_Guesser___eq__) rfl
  let q0 := He.int_ok X G (c.1.fact 39 (f := .int "MOST_ORDER" 8) rfl)
  let q1 := He.int_ok X G (c.1.fact 40 (f := .int "MOST_WEIGHT" 32768) rfl)
  let q2 := He.int_ok X G (c.1.fact 41 (f := .int "MOST_SHIFT" 15) rfl)
  { C_Guesser := _, gc_Guesser := He.glo_ok X G (c.1.fact 42 (f := .glo "Guesser") rfl), cl_Guesser := He.cls_ok (c.1.fact 43 (f := .cls "Guesser") rfl), ic_Guesser := insB_ok (x := "Guesser") (He.cls_ok (c.1.fact 43 (f := .cls "Guesser") rfl)) (List.all_eq_true.mp (Bool.and_eq_true_iff.mp c.2).1 "Guesser" (by decide +kernel)),
    ec_Guesser := eqB_ok (x := "Guesser") (He.meth_ok (c.1.fact 50 (f := .meth "Guesser" "__eq__") rfl)) (List.all_eq_true.mp (Bool.and_eq_true_iff.mp c.2).2 "Guesser" (by decide +kernel)),
    na_Guesser_parts := He.noat_ok (c.1.fact 44 (f := .noat "Guesser" "parts") rfl),
    na_Guesser_down := He.noat_ok (c.1.fact 45 (f := .noat "Guesser" "down") rfl),
    f_is_whole := _, fd_is_whole := p0.choose, F_is_whole := p0.choose_spec, b_is_whole := p0.choose_spec.bindsN fun _ _ _ _ _ _ us hl => match us, hl with | [_], _ => rfl, g_is_whole := He.glo_ok X G (c.1.fact 0 (f := .glo "is_whole") rfl),
    f_is_between := _, fd_is_between := p1.choose, F_is_between := p1.choose_spec, b_is_between := p1.choose_spec.bindsN fun _ _ _ _ _ _ us hl => match us, hl with | [_, _, _], _ => rfl, g_is_between := He.glo_ok X G (c.1.fact 1 (f := .glo "is_between") rfl),
    f_are_wholes := _, fd_are_wholes := p2.choose, F_are_wholes := p2.choose_spec, b_are_wholes := p2.choose_spec.bindsN fun _ _ _ _ _ _ us hl => match us, hl with | [_], _ => rfl, g_are_wholes := He.glo_ok X G (c.1.fact 2 (f := .glo "are_wholes") rfl),
    f_common_divisor := _, fd_common_divisor := p3.choose, F_common_divisor := p3.choose_spec, b_common_divisor := p3.choose_spec.bindsN fun _ _ _ _ _ _ us hl => match us, hl with | [_, _], _ => rfl, g_common_divisor := He.glo_ok X G (c.1.fact 3 (f := .glo "common_divisor") rfl),
    f_fraction := _, fd_fraction := p4.choose, F_fraction := p4.choose_spec, b_fraction := p4.choose_spec.bindsN fun _ _ _ _ _ _ us hl => match us, hl with | [_, _], _ => rfl, g_fraction := He.glo_ok X G (c.1.fact 4 (f := .glo "fraction") rfl),
    f_check_guesser := _, fd_check_guesser := p5.choose, F_check_guesser := p5.choose_spec, b_check_guesser := p5.choose_spec.bindsN fun _ _ _ _ _ _ us hl => match us, hl with | [_], _ => rfl, g_check_guesser := He.glo_ok X G (c.1.fact 5 (f := .glo "check_guesser") rfl),
    f_sum_before := _, fd_sum_before := p6.choose, F_sum_before := p6.choose_spec, b_sum_before := p6.choose_spec.bindsN fun _ _ _ _ _ _ us hl => match us, hl with | [_, _], _ => rfl, g_sum_before := He.glo_ok X G (c.1.fact 6 (f := .glo "sum_before") rfl),
    f_guess_behind := _, fd_guess_behind := p7.choose, F_guess_behind := p7.choose_spec, b_guess_behind := p7.choose_spec.bindsN fun _ _ _ _ _ _ us hl => match us, hl with | [_, _], _ => rfl, g_guess_behind := He.glo_ok X G (c.1.fact 7 (f := .glo "guess_behind") rfl),
    f_guess := _, fd_guess := p8.choose, F_guess := p8.choose_spec, b_guess := p8.choose_spec.bindsN fun _ _ _ _ _ _ us hl => match us, hl with | [_, _], _ => rfl, g_guess := He.glo_ok X G (c.1.fact 8 (f := .glo "guess") rfl),
    f_quotient := _, fd_quotient := p9.choose, F_quotient := p9.choose_spec, b_quotient := p9.choose_spec.bindsN fun _ _ _ _ _ _ us hl => match us, hl with | [_, _], _ => rfl, g_quotient := He.glo_ok X G (c.1.fact 9 (f := .glo "quotient") rfl),
    f_same_guess := _, fd_same_guess := p10.choose, F_same_guess := p10.choose_spec, b_same_guess := p10.choose_spec.bindsN fun _ _ _ _ _ _ us hl => match us, hl with | [_, _], _ => rfl, g_same_guess := He.glo_ok X G (c.1.fact 10 (f := .glo "same_guess") rfl),
    f_normal := _, fd_normal := p11.choose, F_normal := p11.choose_spec, b_normal := p11.choose_spec.bindsN fun _ _ _ _ _ _ us hl => match us, hl with | [_], _ => rfl, g_normal := He.glo_ok X G (c.1.fact 11 (f := .glo "normal") rfl),
    f_simplest := _, fd_simplest := p12.choose, F_simplest := p12.choose_spec, b_simplest := p12.choose_spec.bindsN fun _ _ _ _ _ _ us hl => match us, hl with | [_, _], _ => rfl, g_simplest := He.glo_ok X G (c.1.fact 12 (f := .glo "simplest") rfl),
    f_parting_sample := _, fd_parting_sample := p13.choose, F_parting_sample := p13.choose_spec, b_parting_sample := p13.choose_spec.bindsN fun _ _ _ _ _ _ us hl => match us, hl with | [_, _], _ => rfl, g_parting_sample := He.glo_ok X G (c.1.fact 13 (f := .glo "parting_sample") rfl),
    f_parting_row := _, fd_parting_row := p14.choose, F_parting_row := p14.choose_spec, b_parting_row := p14.choose_spec.bindsN fun _ _ _ _ _ _ us hl => match us, hl with | [_, _], _ => rfl, g_parting_row := He.glo_ok X G (c.1.fact 14 (f := .glo "parting_row") rfl),
    f_law_cell := _, fd_law_cell := p15.choose, F_law_cell := p15.choose_spec, b_law_cell := p15.choose_spec.bindsN fun _ _ _ _ _ _ us hl => match us, hl with | [_, _], _ => rfl, g_law_cell := He.glo_ok X G (c.1.fact 15 (f := .glo "_law_cell") rfl),
    f_law_hash := _, fd_law_hash := p16.choose, F_law_hash := p16.choose_spec, b_law_hash := p16.choose_spec.bindsN fun _ _ _ _ _ _ us hl => match us, hl with | [_, _], _ => rfl, g_law_hash := He.glo_ok X G (c.1.fact 16 (f := .glo "_law_hash") rfl),
    f_law_generator := _, fd_law_generator := p17.choose, F_law_generator := p17.choose_spec, b_law_generator := p17.choose_spec.bindsN fun _ _ _ _ _ _ us hl => match us, hl with | [_, _], _ => rfl, g_law_generator := He.glo_ok X G (c.1.fact 17 (f := .glo "_law_generator") rfl),
    f_law_random := _, fd_law_random := p18.choose, F_law_random := p18.choose_spec, b_law_random := p18.choose_spec.bindsN fun _ _ _ _ _ _ us hl => match us, hl with | [_, _], _ => rfl, g_law_random := He.glo_ok X G (c.1.fact 18 (f := .glo "_law_random") rfl),
    f_law_weights := _, fd_law_weights := p19.choose, F_law_weights := p19.choose_spec, b_law_weights := p19.choose_spec.bindsN fun _ _ _ _ _ _ us hl => match us, hl with | [_, _], _ => rfl, g_law_weights := He.glo_ok X G (c.1.fact 19 (f := .glo "_law_weights") rfl),
    f_law_other_drawn := _, fd_law_other_drawn := p20.choose, F_law_other_drawn := p20.choose_spec, b_law_other_drawn := p20.choose_spec.bindsN fun _ _ _ _ _ _ us hl => match us, hl with | [_, _, _], _ => rfl, g_law_other_drawn := He.glo_ok X G (c.1.fact 20 (f := .glo "_law_other_drawn") rfl),
    f_law_padded := _, fd_law_padded := p21.choose, F_law_padded := p21.choose_spec, b_law_padded := p21.choose_spec.bindsN fun _ _ _ _ _ _ us hl => match us, hl with | [_, _], _ => rfl, g_law_padded := He.glo_ok X G (c.1.fact 21 (f := .glo "_law_padded") rfl),
    f_law_unlike := _, fd_law_unlike := p22.choose, F_law_unlike := p22.choose_spec, b_law_unlike := p22.choose_spec.bindsN fun _ _ _ _ _ _ us hl => match us, hl with | [_, _, _, _], _ => rfl, g_law_unlike := He.glo_ok X G (c.1.fact 22 (f := .glo "_law_unlike") rfl),
    f_law_least := _, fd_law_least := p23.choose, F_law_least := p23.choose_spec, b_law_least := p23.choose_spec.bindsN fun _ _ _ _ _ _ us hl => match us, hl with | [_, _, _], _ => rfl, g_law_least := He.glo_ok X G (c.1.fact 23 (f := .glo "_law_least") rfl),
    f_law_small := _, fd_law_small := p24.choose, F_law_small := p24.choose_spec, b_law_small := p24.choose_spec.bindsN fun _ _ _ _ _ _ us hl => match us, hl with | [_], _ => rfl, g_law_small := He.glo_ok X G (c.1.fact 24 (f := .glo "_law_small") rfl),
    f_law_right := _, fd_law_right := p25.choose, F_law_right := p25.choose_spec, b_law_right := p25.choose_spec.bindsN fun _ _ _ _ _ _ us hl => match us, hl with | [_, _], _ => rfl, g_law_right := He.glo_ok X G (c.1.fact 25 (f := .glo "_law_right") rfl),
    f_law_normal_right := _, fd_law_normal_right := p26.choose, F_law_normal_right := p26.choose_spec, b_law_normal_right := p26.choose_spec.bindsN fun _ _ _ _ _ _ us hl => match us, hl with | [_, _], _ => rfl, g_law_normal_right := He.glo_ok X G (c.1.fact 26 (f := .glo "_law_normal_right") rfl),
    f_law := _, fd_law := p27.choose, F_law := p27.choose_spec, b_law := p27.choose_spec.bindsN fun _ _ _ _ _ _ us hl => match us, hl with | [_], _ => rfl, g_law := He.glo_ok X G (c.1.fact 27 (f := .glo "law") rfl),
    f_Guesser___init__ := _, fd_Guesser___init__ := p28.choose, F_Guesser___init__ := p28.choose_spec, b_Guesser___init__ := p28.choose_spec.bindsN fun _ _ _ _ _ _ us hl => match us, hl with | [_, _, _], _ => rfl, me_Guesser___init__ := He.meth_ok (c.1.fact 47 (f := .meth "Guesser" "__init__") rfl), mk_Guesser := He.mkr_ok (c.1.fact 46 (f := .mkr "Guesser") rfl),
    f_Guesser_weights := _, fd_Guesser_weights := p29.choose, F_Guesser_weights := p29.choose_spec, b_Guesser_weights := p29.choose_spec.bindsN fun _ _ _ _ _ _ us hl => match us, hl with | [_], _ => rfl, me_Guesser_weights := He.meth_ok (c.1.fact 48 (f := .meth "Guesser" "weights") rfl),
    f_Guesser_shift := _, fd_Guesser_shift := p30.choose, F_Guesser_shift := p30.choose_spec, b_Guesser_shift := p30.choose_spec.bindsN fun _ _ _ _ _ _ us hl => match us, hl with | [_], _ => rfl, me_Guesser_shift := He.meth_ok (c.1.fact 49 (f := .meth "Guesser" "shift") rfl),
    f_Guesser___eq__ := _, fd_Guesser___eq__ := p31.choose, F_Guesser___eq__ := p31.choose_spec, b_Guesser___eq__ := p31.choose_spec.bindsN fun _ _ _ _ _ _ us hl => match us, hl with | [_, _], _ => rfl, me_Guesser___eq__ := He.meth_ok (c.1.fact 50 (f := .meth "Guesser" "__eq__") rfl),
    n_len := He.free_ok X G (c.1.fact 28 (f := .free "len") rfl),
    n_sum := He.free_ok X G (c.1.fact 29 (f := .free "sum") rfl),
    n_max := He.free_ok X G (c.1.fact 30 (f := .free "max") rfl),
    n_min := He.free_ok X G (c.1.fact 31 (f := .free "min") rfl),
    n_int := He.free_ok X G (c.1.fact 32 (f := .free "int") rfl),
    n_bool := He.free_ok X G (c.1.fact 33 (f := .free "bool") rfl),
    n_list := He.free_ok X G (c.1.fact 34 (f := .free "list") rfl),
    n_range := He.free_ok X G (c.1.fact 35 (f := .free "range") rfl),
    n_isinstance := He.free_ok X G (c.1.fact 36 (f := .free "isinstance") rfl),
    n_abs := He.free_ok X G (c.1.fact 37 (f := .free "abs") rfl),
    n_enumerate := He.free_ok X G (c.1.fact 38 (f := .free "enumerate") rfl),
    t_MOST_ORDER := q0.choose, m_MOST_ORDER := q0.choose_spec,
    t_MOST_WEIGHT := q1.choose, m_MOST_WEIGHT := q1.choose_spec,
    t_MOST_SHIFT := q2.choose, m_MOST_SHIFT := q2.choose_spec }
end My

namespace My
open PySem PySem.Spec PyProof.Rows L2 Pre
section
variable {P : Program} {w : World} {K : PySem.W.Frag} {mg : Str → Option Value} {base : Heap}
/-! ### is_whole, is_between, of whole numbers -/
def sp_is_whole : Sp := fun vs H Q _ => ∃ i : Int, vs = [.int i] ∧ Q (.bl true) H
theorem G_is_whole (T : Top K mg) : FnOk P w K mg base CX0 1 T.f_is_whole T.fd_is_whole ["value"] sp_is_whole := by
  refine T.F_is_whole.ok sc_is_whole (fun vs H Q E h => by obtain ⟨i, rfl, _⟩ := h; rfl) (fun cdv A outer s H vs Q E hr h => ?_)
  obtain ⟨i, rfl, q⟩ := h
  refine ⟨_, PSs.nox (pss_one (ps_ret (pe_and (pe_callB (k_isi K rfl) (by rfl) T.n_isinstance (by decide +kernel) (pa_cons (pv 0) (pa_cons (pe_bltn (v := .ty "int") (by rfl) T.n_int (by decide +kernel) rfl) pa_nil))) (pe_one (pe_not (pe_callB (k_isi K rfl) (by rfl) T.n_isinstance (by decide +kernel) (pa_cons (pv 0) (pa_cons (pe_bltn (v := .ty "bool") (by rfl) T.n_bool (by decide +kernel) rfl) pa_nil)))))))), ?_⟩
  refine ⟨_, rfl, _, _, _, _, true, rfl, .ty _, .base (.int i), kit_ty (by decide +kernel), true, rfl, iteT ?_⟩
  exact ⟨_, rfl, _, _, _, _, false, rfl, .ty _, .base (.int i), kit_ty (by decide +kernel), false, rfl, q⟩
/-- value a whole number, low one, high None or one -/
def sp_is_between : Sp := fun vs H Q _ => ∃ (i lo : Int) (hi : Option Int), vs = [.int i, .int lo, (match hi with | some j => .int j | none => .non)] ∧ Q (.bl (decide (lo ≤ i ∧ ∀ j, hi = some j → i ≤ j))) H
theorem G_is_between (T : Top K mg) : FnOk P w K mg base CX0 2 T.f_is_between T.fd_is_between ["value", "low", "high"] sp_is_between := by
  refine T.F_is_between.ok sc_is_between (fun vs H Q E h => by obtain ⟨i, lo, hi, rfl, _⟩ := h; rfl) (fun cdv A outer s H vs Q E hr h => ?_)
  obtain ⟨i, lo, hi, rfl, q⟩ := h
  refine ⟨_, PSs.nox (pss_one (ps_ret (pe_and (pe_call (G_is_whole T) (hr.mono (by decide)) (by rfl) T.g_is_whole T.F_is_whole.kp T.b_is_whole .nil pass0 (pa_cons (pv 0) pa_nil)) (pe_and (pe_cmpR op_le (pv 1) (pv 0) (nomark _)) (pe_one (pe_or (pe_cmpR op_isN (pv 2) pe_non (nomark _)) (pe_one (pe_cmpR op_le (pv 0) (pv 2) (nomark _))))))))), ?_⟩
  refine ⟨_, rfl, i, rfl, true, rfl, iteT ?_⟩
  refine ⟨_, rfl, _, rfl, _, _, rfl, rfl, _, rfl, ite2 (fun e => ?_) (fun e => ?_)⟩
  · have e1 : lo ≤ i := of_decide_eq_true e
    cases hi with
    | none =>
      refine ⟨_, rfl, rfl, _, rfl, iteT ?_⟩
      rw [decide_eq_true ⟨e1, fun j h => nomatch h⟩] at q
      exact q
    | some j =>
      refine ⟨_, rfl, rfl, _, rfl, iteF ⟨_, rfl, _, rfl, _, _, rfl, rfl, ?_⟩⟩
      have e2 : decide (lo ≤ i ∧ ∀ j', some j = some j' → i ≤ j') = decide (i ≤ j) := by
        by_cases h : i ≤ j
        · rw [decide_eq_true h, decide_eq_true]
          exact ⟨e1, fun j' e => by cases e; exact h⟩
        · rw [decide_eq_false h, decide_eq_false]
          exact fun z => h (z.2 j rfl)
      rw [e2] at q
      exact q
  · have e1 : ¬ lo ≤ i := fun h => e (decide_eq_true h)
    rw [decide_eq_false fun z => e1 z.1] at q
    exact q
end
end My

set_option exponentiation.threshold 100000
namespace My
open PySem PySem.Spec PyProof.Rows L2 Pre
section
variable {P : Program} {w : World} {K : PySem.W.Frag} {mg : Str → Option Value} {base : Heap}
/-! ### the law's draws -/
/-- a generator: its count is at most n -/
def GenAt (H : Hp) (g : Addr) (n : Nat) : Prop := ∃ x y z : Int, H g = some (.lst [.int x, .int y, .int z]) ∧ 0 ≤ z ∧ z ≤ (n : Int)
/-- all but one thing stand as they stood -/
def But (g : Addr) (H H' : Hp) : Prop := ∀ b o, b ≠ g → H b = some o → H' b = some o
theorem But.refl {g : Addr} {H : Hp} : But g H H := fun _ _ _ h => h
theorem But.trans {g : Addr} {H H1 H2 : Hp} (a : But g H H1) (b : But g H1 H2) : But g H H2 := fun c o n h => b c o n (a c o n h)
theorem But.same {g : Addr} {H H1 H2 : Hp} (a : But g H H1) (b : Same H1 H2) : But g H H2 := fun c o n h => b c o (a c o n h)
theorem But.of {g : Addr} {H H1 : Hp} (b : Same H H1) : But g H H1 := fun c o _ h => b c o h
theorem But.upd {g : Addr} {H H1 : Hp} {o : HO} (a : But g H H1) : But g H (upd H1 g o) := fun c u n h => by
  rw [upd_ne n]
  exact a c u n h
theorem But.free {g : Addr} {H H1 : Hp} (a : But g H H1) {p : Addr} (n : p ≠ g) (h : H1 p = none) : H p = none := by
  cases e : H p with
  | none => rfl
  | some o => rw [a p o n e] at h; cases h
/-- what is changed was not there at first -/
theorem But.fresh {g : Addr} {H H1 H2 : Hp} (s : Same H H1) (n : H g = none) (b : But g H1 H2) : Same H H2 := fun c o h => b c o (ne_of_none h n) (s c o h)
theorem GenAt.mono {H : Hp} {g : Addr} {n m : Nat} (h : GenAt H g n) (l : n ≤ m) : GenAt H g m := by
  obtain ⟨x, y, z, a, b, c⟩ := h
  exact ⟨x, y, z, a, b, by omega⟩
theorem GenAt.same {H H' : Hp} {g : Addr} {n : Nat} (h : GenAt H g n) (s : Same H H') : GenAt H' g n := by
  obtain ⟨x, y, z, a, b⟩ := h
  exact ⟨x, y, z, s _ _ a, b⟩
theorem GenAt.ne {H : Hp} {g : Addr} {n : Nat} {p : Addr} (h : GenAt H g n) (np : H p = none) : p ≠ g := by
  obtain ⟨x, y, z, a, _⟩ := h
  exact (ne_of_none a np).symm
theorem small_2900 {b : Int} (h : b ≤ 2 ^ 60) : b < 2 ^ 2900 := by omega
theorem pow_pos' (w : Nat) : (0 : Int) < 2 ^ w := Int.pow_pos (by decide)
theorem pow2_le {k m : Nat} (h : k ≤ m) : (2 : Int) ^ k ≤ 2 ^ m := by
  have e := Nat.pow_le_pow_right (show 0 < 2 by decide) h
  have e2 : ((2 ^ k : Nat) : Int) ≤ ((2 ^ m : Nat) : Int) := Int.ofNat_le.mpr e
  rw [Int.natCast_pow, Int.natCast_pow] at e2
  exact e2
def sp_law_cell (K : PySem.W.Frag) : Sp := fun vs H Q _ => ∃ (a : Addr) (ns : List Int) (i : Nat), vs = [.ref a, .int i] ∧ SqL K H a (ns.map V.int) ∧ ∀ (n : Int) H', Same H H' → Q (.int n) H'
theorem G_law_cell (T : Top K mg) : FnOk P w K mg base CX0 1 T.f_law_cell T.fd_law_cell ["_law_script", "_law_index"] (sp_law_cell K) := by
  refine T.F_law_cell.ok sc_law_cell (fun vs H Q E h => by obtain ⟨a, ns, i, rfl, _⟩ := h; rfl) (fun cdv A outer s H vs Q E hr h => ?_)
  obtain ⟨a, ns, i, rfl, hS, q⟩ := h
  refine ⟨_, PSs.nox (pss_cons (ps_if (pt_cmpR op_lt (pv 1) (pe_callB (k_len K rfl) (by rfl) T.n_len (by decide +kernel) (pa_cons (pv 0) pa_nil)) (nomark _))
    (pss_one (ps_ret (pe_ix (k_ixL K rfl) (pv 0) (pv 1) (fun _ _ => rfl))))
    pss_nil)
  (pss_one (ps_ret (pe_op op_mod (pe_callB (k_sum K rfl rfl) (by rfl) T.n_sum (by decide +kernel) (pa_cons (pe_slice (k_slL K rfl) (pv 0) po_none (po_some pe_int)) pa_nil)) pe_int)))), ?_⟩
  refine ⟨_, rfl, _, rfl, a, _, rfl, .inl hS, _, _, rfl, rfl, _, rfl, ite2 (fun e => ?_) (fun e => ?_)⟩
  · have e1 : (i : Int) < (((ns.map V.int).length : Nat) : Int) := of_decide_eq_true e
    rw [List.length_map] at e1
    have hi : i < ns.length := by omega
    refine ⟨_, rfl, _, rfl, a, _, _, .int ns[i], rfl, rfl, hS, atI_nat (by rw [List.getElem?_map, List.getElem?_eq_getElem hi]; rfl), ?_⟩
    exact q _ _ (Same.refl _)
  · refine ⟨_, rfl, _, rfl, a, _, rfl, hS, fun p np => ?_⟩
    have ec : ∃ ms : List Int, cutV (ns.map V.int) none (some 1) = ms.map V.int := by
      unfold cutV
      exact ⟨(ns.drop (HT.sIx (ns.map V.int).length 0 none)).take (HT.sIx (ns.map V.int).length (ns.map V.int).length (some 1) - HT.sIx (ns.map V.int).length 0 none), by rw [List.map_take, List.map_drop]⟩
    obtain ⟨ms, em⟩ := ec
    refine ⟨p, ms, rfl, .inl (.inl (by rw [upd_same, em])), _, _, rfl, rfl, (by show (0 : Int) < 1000003; decide), ?_⟩
    exact q _ _ (same_upd np)
theorem cmul_mod (x m j : Int) (h0 : 0 < m) (h1 : m ≤ 2 ^ 60) : CMul (x % m) j := by
  have a := Int.emod_nonneg x (show m ≠ 0 by omega)
  have b := Int.emod_lt_of_pos x h0
  exact .inl ⟨by omega, by omega⟩
def sp_law_hash : Sp := fun vs H Q _ => ∃ i j : Int, vs = [.int i, .int j] ∧ 0 ≤ j ∧ j < 2 ^ 60 ∧ ∀ n : Int, Q (.int n) H
theorem G_law_hash (T : Top K mg) : FnOk P w K mg base CX0 1 T.f_law_hash T.fd_law_hash ["_law_seed", "_law_index"] sp_law_hash := by
  refine T.F_law_hash.ok sc_law_hash (fun vs H Q E h => by obtain ⟨i, j, rfl, _⟩ := h; rfl) (fun cdv A outer s H vs Q E hr h => ?_)
  obtain ⟨i, j, rfl, h0, h1, q⟩ := h
  refine ⟨_, PSs.nox (pss_cons (ps_set (i := 2) sc_law_hash.nd rfl (by first | exact Or.inl rfl | exact Or.inr rfl) (pe_op op_mod (pe_callTy call_int1 (by rfl) T.n_int (by decide +kernel) (pa_cons (pe_op op_add (pe_op op_add (pe_op op_add (pe_op op_mul (pv 0) pe_int) (pe_op op_mul (pe_op op_mul pe_int (pv 1)) (pv 1))) (pv 1)) pe_int) pa_nil)) pe_int))
  (pss_cons (ps_set (i := 2) sc_law_hash.nd rfl (by first | exact Or.inl rfl | exact Or.inr rfl) (pe_op op_mod (pe_callTy call_int1 (by rfl) T.n_int (by decide +kernel) (pa_cons (pe_op op_add (pe_op op_mul (pv 2) (pv 2)) pe_int) pa_nil)) pe_int))
  (pss_one (ps_ret (pe_op op_mod (pe_callTy call_int1 (by rfl) T.n_int (by decide +kernel) (pa_cons (pe_op op_mul (pv 2) pe_int) pa_nil)) pe_int))))), ?_⟩
  refine ⟨_, rfl, _, _, rfl, rfl, .inr ⟨by decide, by decide⟩, _, rfl, _, _, rfl, rfl, .inl ⟨by decide, by decide⟩, _, rfl, _, _, rfl, rfl, .inr ⟨by omega, by omega⟩, _, _, rfl, rfl, _, rfl, _, _, rfl, rfl, _, _, rfl, rfl,
    .inl ⟨_, rfl, _, _, rfl, rfl, (by show (0 : Int) < _; decide), ?_⟩⟩
  refine ⟨_, rfl, _, rfl, _, _, rfl, rfl, cmul_mod _ _ _ (by decide) (by decide), _, _, rfl, rfl, .inl ⟨_, rfl, _, _, rfl, rfl, (by show (0 : Int) < _; decide), ?_⟩⟩
  refine ⟨_, rfl, _, _, rfl, rfl, .inr ⟨by decide, by decide⟩, .inl ⟨_, rfl, _, _, rfl, rfl, (by show (0 : Int) < _; decide), ?_⟩⟩
  exact q _

def sp_law_generator (K : PySem.W.Frag) : Sp := fun vs H Q _ => ∃ (a : Addr) (ns : List Int) (i : Nat), vs = [.ref a, .int i] ∧ SqL K H a (ns.map V.int) ∧ ∀ H' g, Same H H' → H g = none → GenAt H' g (1000 * i) → Q (.ref g) H'
theorem G_law_generator (T : Top K mg) : FnOk P w K mg base CX0 2 T.f_law_generator T.fd_law_generator ["_law_script", "_law_index"] (sp_law_generator K) := by
  refine T.F_law_generator.ok sc_law_generator (fun vs H Q E h => by obtain ⟨a, ns, i, rfl, _⟩ := h; rfl) (fun cdv A outer s H vs Q E hr h => ?_)
  obtain ⟨a, ns, i, rfl, hS, q⟩ := h
  refine ⟨_, PSs.nox (pss_cons (ps_set (i := 2) sc_law_generator.nd rfl (by first | exact Or.inl rfl | exact Or.inr rfl) (pe_call (G_law_cell T) (hr.mono (by decide)) (by rfl) T.g_law_cell T.F_law_cell.kp T.b_law_cell .nil pass0 (pa_cons (pv 0) (pa_cons (pv 1) pa_nil))))
  (pss_one (ps_ret (pe_lst (pa_cons (pe_op op_mod (pe_callTy call_int1 (by rfl) T.n_int (by decide +kernel) (pa_cons (pe_callB (call_max2 rfl) (by rfl) T.n_max (by decide +kernel) (pa_cons (pe_op op_sub (pv 2) (pe_op op_powW pe_int pe_int)) (pa_cons pe_int pa_nil))) pa_nil)) (pe_op op_powW (pe_op op_powW pe_int pe_int) pe_int)) (pa_cons (pe_op op_mod (pe_callTy call_int1 (by rfl) T.n_int (by decide +kernel) (pa_cons (pv 2) pa_nil)) pe_int) (pa_cons (pe_op op_mul pe_int (pv 1)) pa_nil))))))), ?_⟩
  refine ⟨_, rfl, _, rfl, a, ns, i, rfl, hS, fun n H1 s1 => ?_⟩
  refine ⟨_, rfl, _, _, rfl, rfl, ⟨by decide, by decide +kernel⟩, _, _, rfl, rfl, _, _, rfl, .inl ⟨_, rfl, _, _, rfl, rfl, ⟨by decide, by decide +kernel⟩, _, _, rfl, rfl, ⟨by decide, by decide +kernel⟩, _, _, rfl, rfl, (by show (0 : Int) < _; decide +kernel), ?_⟩⟩
  refine ⟨_, rfl, .inl ⟨_, rfl, _, _, rfl, rfl, (by show (0 : Int) < _; decide), ?_⟩⟩
  refine ⟨_, rfl, _, _, rfl, rfl, .inl ⟨by decide, by decide⟩, (show 3 ≤ sizeLine by decide), fun g ng => ?_⟩
  exact q _ g (s1.trans (same_upd ng)) (s1.free ng) ⟨_, _, _, upd_same, by omega, by omega⟩
def sp_law_random : Sp := fun vs H Q _ => ∃ (g : Addr) (b : Int) (n : Nat), vs = [.ref g, .int b] ∧ GenAt H g n ∧ n ≤ 10 ^ 12 ∧ 0 < b ∧ b < 2 ^ 2900 ∧ ∀ (d : Int) H', 0 ≤ d → d < b → GenAt H' g (n + 100) → But g H H' → Q (.int d) H'
theorem G_law_random (T : Top K mg) : FnOk P w K mg base CX0 2 T.f_law_random T.fd_law_random ["_law_generator_here", "_law_bound"] sp_law_random := by
  refine T.F_law_random.ok sc_law_random (fun vs H Q E h => by obtain ⟨g, b, n, rfl, _⟩ := h; rfl) (fun cdv A outer s H vs Q E hr h => ?_)
  obtain ⟨g, b, n, rfl, ⟨x, y, z, hg, z0, z1⟩, hn, b0, b1, q⟩ := h
  refine ⟨_, PSs.nox (pss_cons (ps_if (pt_cmpR op_gt (pe_ix (k_ixL K rfl) (pv 0) pe_int (fun _ _ => rfl)) pe_int (nomark _))
    (pss_cons (ps_set (i := 2) sc_law_random.nd rfl (by first | exact Or.inl rfl | exact Or.inr rfl) (pe_op op_mod (pe_callTy call_int1 (by rfl) T.n_int (by decide +kernel) (pa_cons (pe_ix (k_ixL K rfl) (pv 0) pe_int (fun _ _ => rfl)) pa_nil)) (pv 1)))
  (pss_cons (ps_asg (pe_op op_fdivW (pe_ix (k_ixL K rfl) (pv 0) pe_int (fun _ _ => rfl)) (pv 1)) (pg_sub (pv 0) pe_int set_list))
  (pss_one (ps_ret (pv 2)))))
    pss_nil)
  (pss_cons (ps_set (i := 2) sc_law_random.nd rfl (by first | exact Or.inl rfl | exact Or.inr rfl) pe_int)
  (pss_cons (ps_for PassesOwn.never rfl (pi_range1 (by rfl) T.n_range (pa_cons (pe_op op_add pe_int (pe_op op_fdivW (pe_bits (pv 1)) pe_int)) pa_nil)) (pg_name (i := 3) sc_law_random.nd rfl (by first | exact Or.inl rfl | exact Or.inr rfl))
    (pss_cons (ps_asg (pe_op op_add (pe_ix (k_ixL K rfl) (pv 0) pe_int (fun _ _ => rfl)) pe_int) (pg_sub (pv 0) pe_int set_list))
  (pss_one (ps_set (i := 2) sc_law_random.nd rfl (by first | exact Or.inl rfl | exact Or.inr rfl) (pe_op op_add (pe_op op_mul (pv 2) pe_int) (pe_call (G_law_hash T) (hr.mono (by decide)) (by rfl) T.g_law_hash T.F_law_hash.kp T.b_law_hash .nil pass0 (pa_cons (pe_ix (k_ixL K rfl) (pv 0) pe_int (fun _ _ => rfl)) (pa_cons (pe_ix (k_ixL K rfl) (pv 0) pe_int (fun _ _ => rfl)) pa_nil))))))))
  (pss_one (ps_ret (pe_op op_mod (pe_callTy call_int1 (by rfl) T.n_int (by decide +kernel) (pa_cons (pv 2) pa_nil)) (pv 1))))))), ?_⟩
  have a0 : ∀ x y z : Int, atI [V.int x, .int y, .int z] 0 = some (.int x) := fun _ _ _ => rfl
  have a1 : ∀ x y z : Int, atI [V.int x, .int y, .int z] 1 = some (.int y) := fun _ _ _ => rfl
  have a2 : ∀ x y z : Int, atI [V.int x, .int y, .int z] 2 = some (.int z) := fun _ _ _ => rfl
  have hS : SqL K H g [.int x, .int y, .int z] := .inl (.inl hg)
  have nb : b.natAbs < 2 ^ 2900 := by
    have e : ((b.natAbs : Nat) : Int) < ((2 ^ 2900 : Nat) : Int) := by
      rw [Int.natCast_pow]
      omega
    exact Int.ofNat_lt.mp e
  refine ⟨_, rfl, g, _, 0, _, rfl, rfl, hS, a0 x y z, _, _, rfl, rfl, _, rfl, ite2 (fun e => ?_) (fun e => ?_)⟩
  · refine ⟨_, rfl, g, _, 0, _, rfl, rfl, hS, a0 x y z, .inl ⟨_, rfl, _, rfl, _, _, rfl, rfl, b0, ?_⟩⟩
    refine ⟨_, rfl, g, _, 0, _, rfl, rfl, hS, a0 x y z, _, rfl, _, _, rfl, rfl, wide_div b0 nb (by decide) (by decide), _, rfl, g, _, 0, 0, rfl, rfl, hg, rfl, _, rfl, ?_⟩
    exact q _ _ (Int.emod_nonneg _ (by omega)) (Int.emod_lt_of_pos _ b0) ⟨_, _, _, upd_same, z0, by omega⟩ (But.upd But.refl)
  · have hb : Builtin.Int.intBits b ≤ 2900 := PyProof.Rows.intBits_le nb
    have hq0 : (0 : Int) ≤ ((Builtin.Int.intBits b : Nat) : Int) / 30 := Int.ediv_nonneg (Int.natCast_nonneg _) (by decide)
    have hq1 : ((Builtin.Int.intBits b : Nat) : Int) / 30 ≤ 97 := by omega
    refine ⟨_, rfl, _, rfl, _, _, rfl, rfl, ⟨by decide, by decide +kernel⟩, _, _, rfl, rfl, _, rfl, by omega, by omega, ?_⟩
    refine for_range (lo := 0) (n := (1 + ((Builtin.Int.intBits b : Nat) : Int) / 30).toNat) (fun i σ H1 => ∃ (d z' : Int) (v : Option V), σ = [some (.ref g), some (.int b), some (.int d), v] ∧ H1 g = some (.lst [.int x, .int y, .int z']) ∧ 0 ≤ z' ∧ z' ≤ (n : Int) + (i : Int) ∧ But g H H1)
      ⟨0, z, none, rfl, hg, z0, by omega, But.refl⟩ ?_ ?_
    · rintro i σ H1 hi ⟨d, z', v, rfl, hg1, y0, y1, b1⟩
      have hS1 : SqL K H1 g [.int x, .int y, .int z'] := .inl (.inl hg1)
      refine ⟨_, rfl, g, _, 2, _, rfl, rfl, hS1, a2 x y z', _, _, rfl, rfl, _, rfl, g, _, 2, 2, rfl, rfl, hg1, rfl, ?_⟩
      have hS2 : SqL K (upd H1 g (.lst [.int x, .int y, .int (z' + 1)])) g [.int x, .int y, .int (z' + 1)] := .inl (.inl upd_same)
      refine ⟨_, rfl, _, _, rfl, rfl, .inr ⟨by decide, by decide⟩, _, rfl, g, _, 1, _, rfl, rfl, hS2, a1 _ _ _, _, rfl, g, _, 2, _, rfl, rfl, hS2, a2 _ _ _, _, _, rfl, by omega, by omega, fun r => ?_⟩
      exact ⟨_, _, rfl, rfl, _, z' + 1, _, rfl, upd_same, by omega, by omega, But.upd b1⟩
    · rintro σ H1 ⟨d, z', v, rfl, hg1, y0, y1, b1⟩
      refine ⟨_, rfl, .inl ⟨_, rfl, _, rfl, _, _, rfl, rfl, b0, ?_⟩⟩
      exact q _ _ (Int.emod_nonneg _ (by omega)) (Int.emod_lt_of_pos _ b0) ⟨_, _, _, hg1, y0, by omega⟩ b1
/-- a comprehension over a range that draws whole numbers -/
theorem lc_drawR {lo : Int} {n : Nat} {j : Nat} {te : TE} {vs : List Nat} {σ : L2.St} {H1 : Hp} {D : Addr} {Qd : Hp → Prop} (g : Addr) (m step : Nat) (P : Int → Prop) (nD : H1 D = none) (hG : GenAt H1 g m) (hz : n < sizeLine)
    (hw : ∀ x, wipe ((wipe σ vs).set j (some x)) vs = wipe σ vs)
    (hs : ∀ (i : Nat) (H' : Hp), i < n → But g H1 H' → GenAt H' g (m + step * i) → ∀ Qt : V → Hp → Prop, (∀ (y : Int) H'', P y → But g H' H'' → GenAt H'' g (m + step * (i + 1)) → Qt (.int y) H'') → te ((wipe σ vs).set j (some (.int (lo + (i : Int))))) H' Qt)
    (hd : ∀ H' (ys : List Int), But g H1 H' → GenAt H' g (m + step * n) → H' D = some (.lst (ys.map V.int)) → ys.length = n → (∀ y ∈ ys, P y) → Qd H') :
    ∃ W : Nat → Nat → Hp → Prop, (∃ m, W 0 m (upd H1 D (.lst []))) ∧ ∀ i m H, W i m H →
      ((Itr lo n).stop i H ∧ Qd H) ∨ ((Itr lo n).go i H ∧ ∃ Nx : Hp → Prop, (∀ H', Nx H' → ∃ m', m' < m ∧ W (i + 1) m' H') ∧ ∀ x H', (Itr lo n).yld i H x H' → gName j x (wipe σ vs) H' fun σ2 H2 => wipe σ2 vs = wipe σ vs ∧ tYes σ2 H2 fun b H3 =>
        if b = true then te σ2 H3 fun y H4 => ∃ acc, H4 D = some (.lst acc) ∧ acc.length < sizeLine ∧ Nx (upd H4 D (.lst (acc ++ [y]))) else Nx H3) := by
  have nDg : D ≠ g := hG.ne nD
  refine lc_range (lo := lo) (n := n) (fun i H => ∃ ys : List Int, But g H1 H ∧ GenAt H g (m + step * i) ∧ H D = some (.lst (ys.map V.int)) ∧ ys.length = i ∧ ∀ y ∈ ys, P y)
    ⟨[], But.of (same_upd nD), hG.same (same_upd nD), upd_same, rfl, (fun _ h => nomatch h)⟩ ?_ ?_
  · rintro i H hi ⟨ys, b, hg, hD, hl, hP⟩
    refine ⟨hw _, ?_⟩
    unfold tYes
    dsimp only
    rw [if_pos (show true = true from rfl)]
    refine hs i H hi b hg _ fun y H2 py b2 hg2 => ?_
    refine ⟨_, b2 _ _ nDg hD, by rw [List.length_map]; omega, ys ++ [y], ?_, ?_, ?_, ?_, ?_⟩
    · intro c o nc hc
      rw [upd_ne (ne_of_none hc nD)]
      exact b2 _ _ nc (b _ _ nc hc)
    · obtain ⟨x1, x2, x3, e1, e2⟩ := hg2
      exact ⟨x1, x2, x3, by rw [upd_ne nDg.symm]; exact e1, e2⟩
    · rw [upd_same, List.map_append]
      rfl
    · rw [List.length_append, hl]
      rfl
    · intro z hz
      rcases List.mem_append.mp hz with hz | hz
      · exact hP z hz
      · rw [List.mem_singleton.mp hz]
        exact py
  · rintro H ⟨ys, b, hg, hD, hl, hP⟩
    exact hd H ys b hg hD hl hP
end
end My

namespace My
open PySem PySem.Spec PyProof.Rows L2 Pre
/-- a comprehension over a list that makes new things: R tells what is known of the i-th -/
theorem lc_relL {K : PySem.W.Frag} {a : Addr} {xs : List V} {j : Nat} {te : TE} {vs : List Nat} {σ : L2.St} {H1 : Hp} {D : Addr} {Qd : Hp → Prop} (R : Nat → V → Hp → Prop) (nD : H1 D = none) (hS : SqL K H1 a xs) (hz : xs.length < sizeLine)
    (mono : ∀ (i : Nat) (y : V) (H H' : Hp), Pre.Off D H H' → R i y H → R i y H') (hw : ∀ x, wipe ((wipe σ vs).set j (some x)) vs = wipe σ vs)
    (hs : ∀ (i : Nat) (x : V) (H' : Hp) (zs : List V), xs[i]? = some x → Same H1 H' → H' D = some (.lst zs) → ∀ Qt : V → Hp → Prop, (∀ y H'', Same H' H'' → R i y H'' → Qt y H'') → te ((wipe σ vs).set j (some x)) H' Qt)
    (hd : ∀ H' ys, Same H1 H' → H' D = some (.lst ys) → ys.length = xs.length → (∀ (i : Nat) (y : V), ys[i]? = some y → R i y H') → Qd H') :
    ∃ W : Nat → Nat → Hp → Prop, (∃ m, W 0 m (upd H1 D (.lst []))) ∧ ∀ i m H, W i m H →
      ((Itl K a).stop i H ∧ Qd H) ∨ ((Itl K a).go i H ∧ ∃ Nx : Hp → Prop, (∀ H', Nx H' → ∃ m', m' < m ∧ W (i + 1) m' H') ∧ ∀ x H', (Itl K a).yld i H x H' → gName j x (wipe σ vs) H' fun σ2 H2 => wipe σ2 vs = wipe σ vs ∧ tYes σ2 H2 fun b H3 =>
        if b = true then te σ2 H3 fun y H4 => ∃ acc, H4 D = some (.lst acc) ∧ acc.length < sizeLine ∧ Nx (upd H4 D (.lst (acc ++ [y]))) else Nx H3) := by
  refine lc_list (K := K) (a := a) (xs := xs) (RelPv R H1 D) ⟨[], same_upd nD, upd_same, rfl, fun k y h => by simp at h⟩ (fun i H _ ⟨_, s, _⟩ => s.seq hS) ?_ ?_
  · rintro i x H hx ⟨ys, s, hD, hl, hR⟩
    have hi : i < xs.length := (List.getElem?_eq_some_iff.mp hx).1
    refine ⟨hw _, ?_⟩
    unfold tYes
    dsimp only
    rw [if_pos (show true = true from rfl)]
    refine hs i x H ys hx s hD _ fun y H4 s4 r4 => ?_
    refine ⟨ys, s4 _ _ hD, by omega, ys ++ [y], same_over nD (s.trans s4), upd_same, by rw [List.length_append, hl]; rfl, fun k z hz => ?_⟩
    have off : Pre.Off D H4 (upd H4 D (.lst (ys ++ [y]))) := fun b o nb h => by rw [upd_ne nb]; exact h
    by_cases hk : k < ys.length
    · rw [List.getElem?_append_left hk] at hz
      exact mono k z H _ (fun b o nb h => off b o nb (s4 b o h)) (hR k z hz)
    · rw [List.getElem?_append_right (by omega)] at hz
      have hk2 : k - ys.length = 0 := by
        have h2 := (List.getElem?_eq_some_iff.mp hz).1
        rw [List.length_singleton] at h2
        omega
      rw [hk2] at hz
      cases hz
      have ek : k = i := by omega
      rw [ek]
      exact mono i y H4 _ off r4
  · rintro H ⟨ys, s, hD, hl, hR⟩
    exact hd H ys s hD hl hR
/-- a list of lists of whole numbers -/
def RowsIn (H : Hp) (p : Addr) (rows : List (List Int)) : Prop := ∃ as : List Addr, H p = some (.lst (as.map V.ref)) ∧ as.length = rows.length ∧ ∀ (i : Nat) (a : Addr) (r : List Int), as[i]? = some a → rows[i]? = some r → H a = some (.lst (r.map V.int))
theorem RowsIn.same {H H' : Hp} {p : Addr} {rows : List (List Int)} (h : RowsIn H p rows) (s : Same H H') : RowsIn H' p rows := by
  obtain ⟨as, h1, h2, h3⟩ := h
  exact ⟨as, s _ _ h1, h2, fun i a r ha hr => s _ _ (h3 i a r ha hr)⟩
section
variable {X : Cx}
theorem huD {k : Nat} {A : Around} (r : Room k A) : A.units + 65 < cLine := by have := r.un; omega
theorem k_inD (K : PySem.W.Frag) (h : X.K = K) (hu : X.A.units + 65 < cLine) : OpR X (compareOp .In) (rInD K) := by subst h; exact op_inD hu
theorem k_notInD (K : PySem.W.Frag) (h : X.K = K) (hu : X.A.units + 65 < cLine) : OpR X (compareOp .NotIn) (rNotInD K) := by subst h; exact op_notInD hu
theorem k_indexD (K : PySem.W.Frag) (h : X.K = K) (hu : X.A.units + 65 < cLine) : MtR X "list.index" (rIndexD K) := by subst h; exact mt_indexD hu
end
/-- rows as data -/
def rowD (r : List Int) : PyData := .list (r.map PyData.int)
theorem rows_dp {K : PySem.W.Frag} {H : Hp} : ∀ {as : List Addr} {rows : List (List Int)}, as.length = rows.length → (∀ (i : Nat) (a : Addr) (r : List Int), as[i]? = some a → rows[i]? = some r → H a = some (.lst (r.map V.int))) → DpAll K H (as.map V.ref) (rows.map rowD)
  | [], [], _, _ => .nil
  | [], _ :: _, h, _ => by simp at h
  | _ :: _, [], h, _ => by simp at h
  | a :: as, r :: rows, h, k => .cons (.lst (.inl (.inl (k 0 a r rfl rfl))) (Pre.dp_ints r)) (rows_dp (by simpa using h) fun i t q ht hq => k (i + 1) t q (by simpa using ht) (by simpa using hq))
theorem rowD_eqv (r q : List Int) : PyData.eqv (rowD r) (rowD q) = decide (r = q) := by
  unfold rowD
  rw [PyData.eqv, eqv_ints]
theorem rows_shaped (rows : List (List Int)) : SeqAt.shaped (.list (rows.map rowD)) = true := by
  have h1 : ∀ l : List (List Int), PyData.canLayAll0 (l.map rowD) = true := fun l => by
    induction l with
    | nil => rfl
    | cons r l ih =>
      show (PyData.canLay0 (rowD r) && PyData.canLayAll0 (l.map rowD)) = true
      rw [ih]
      unfold rowD
      rw [PyData.canLay0, lay_ints]
      rfl
  have h2 : ∀ l : List (List Int), PyData.depthAll (l.map rowD) ≤ 1 := fun l => by
    induction l with
    | nil => simp [PyData.depthAll]
    | cons r l ih =>
      show PyData.depthAll (rowD r :: l.map rowD) ≤ 1
      rw [PyData.depthAll]
      unfold rowD at *
      rw [PyData.depth, depth_ints]
      omega
  show (PyData.canLay0 (.list (rows.map rowD)) && decide (PyData.depth (.list (rows.map rowD)) ≤ 64)) = true
  rw [Bool.and_eq_true]
  have := h2 rows
  exact ⟨by rw [PyData.canLay0]; exact h1 rows, decide_eq_true (by rw [PyData.depth]; omega)⟩
end My

namespace My
open PySem PySem.Spec PyProof.Rows L2 Pre
/-! ### min and max of a list of pairs of whole numbers -/
def pairD (p : Int × Int) : PyData := .tuple [.int p.1, .int p.2]
def ltP2 (p q : Int × Int) : Prop := p.1 < q.1 ∨ (p.1 = q.1 ∧ p.2 < q.2)
instance (p q : Int × Int) : Decidable (ltP2 p q) := by unfold ltP2; infer_instance
theorem pair_lt (p q : Int × Int) : PySem.W.dataLt (pairD p) (pairD q) = decide (ltP2 p q) := PySem.W.dataLt_ii p.1 p.2 q.1 q.2
theorem ltP2_trans {p q r : Int × Int} (h : ¬ ltP2 q p) (k : ¬ ltP2 r q) : ¬ ltP2 r p := by
  unfold ltP2 at *
  omega
def minP (p : Int × Int) (ps : List (Int × Int)) : Int × Int := ps.foldl (fun a y => if ltP2 y a then y else a) p
def maxP (p : Int × Int) (ps : List (Int × Int)) : Int × Int := ps.foldl (fun a y => if ltP2 a y then y else a) p
theorem minP_data : ∀ (ps : List (Int × Int)) (p : Int × Int), PySem.W.minD (pairD p) (ps.map pairD) = pairD (minP p ps)
  | [], _ => rfl
  | q :: ps, p => by
    show PySem.W.minD (if PySem.W.dataLt (pairD q) (pairD p) = true then pairD q else pairD p) (ps.map pairD) = pairD (minP (if ltP2 q p then q else p) ps)
    rw [pair_lt]
    by_cases h : ltP2 q p
    · rw [decide_eq_true h, if_pos rfl, if_pos h, minP_data ps q]
    · rw [decide_eq_false h, if_neg (by decide), if_neg h, minP_data ps p]
theorem maxP_data : ∀ (ps : List (Int × Int)) (p : Int × Int), PySem.W.maxD (pairD p) (ps.map pairD) = pairD (maxP p ps)
  | [], _ => rfl
  | q :: ps, p => by
    show PySem.W.maxD (if PySem.W.dataLt (pairD p) (pairD q) = true then pairD q else pairD p) (ps.map pairD) = pairD (maxP (if ltP2 p q then q else p) ps)
    rw [pair_lt]
    by_cases h : ltP2 p q
    · rw [decide_eq_true h, if_pos rfl, if_pos h, maxP_data ps q]
    · rw [decide_eq_false h, if_neg (by decide), if_neg h, maxP_data ps p]
theorem minP_spec : ∀ (ps : List (Int × Int)) (p : Int × Int), minP p ps ∈ p :: ps ∧ ∀ q ∈ p :: ps, ¬ ltP2 q (minP p ps)
  | [], p => ⟨List.mem_cons_self, fun q hq => by
      rw [List.mem_singleton.mp hq]
      show ¬ ltP2 p p
      unfold ltP2
      omega⟩
  | r :: ps, p => by
    show minP (if ltP2 r p then r else p) ps ∈ _ ∧ ∀ q ∈ p :: r :: ps, ¬ ltP2 q (minP (if ltP2 r p then r else p) ps)
    by_cases h : ltP2 r p
    · rw [if_pos h]
      obtain ⟨h1, h2⟩ := minP_spec ps r
      refine ⟨List.mem_cons_of_mem _ h1, fun q hq => ?_⟩
      rcases List.mem_cons.mp hq with rfl | hq
      · have := h2 r List.mem_cons_self
        exact fun z => this (by unfold ltP2 at *; omega)
      · exact h2 q hq
    · rw [if_neg h]
      obtain ⟨h1, h2⟩ := minP_spec ps p
      refine ⟨?_, fun q hq => ?_⟩
      · rcases List.mem_cons.mp h1 with e | e
        · rw [e]; exact List.mem_cons_self
        · exact List.mem_cons_of_mem _ (List.mem_cons_of_mem _ e)
      · rcases List.mem_cons.mp hq with rfl | hq
        · exact h2 q List.mem_cons_self
        · rcases List.mem_cons.mp hq with rfl | hq
          · have := h2 p List.mem_cons_self
            exact fun z => this (by unfold ltP2 at *; omega)
          · exact h2 q (List.mem_cons_of_mem _ hq)
theorem maxP_spec : ∀ (ps : List (Int × Int)) (p : Int × Int), maxP p ps ∈ p :: ps ∧ ∀ q ∈ p :: ps, ¬ ltP2 (maxP p ps) q
  | [], p => ⟨List.mem_cons_self, fun q hq => by
      rw [List.mem_singleton.mp hq]
      show ¬ ltP2 p p
      unfold ltP2
      omega⟩
  | r :: ps, p => by
    show maxP (if ltP2 p r then r else p) ps ∈ _ ∧ ∀ q ∈ p :: r :: ps, ¬ ltP2 (maxP (if ltP2 p r then r else p) ps) q
    by_cases h : ltP2 p r
    · rw [if_pos h]
      obtain ⟨h1, h2⟩ := maxP_spec ps r
      refine ⟨List.mem_cons_of_mem _ h1, fun q hq => ?_⟩
      rcases List.mem_cons.mp hq with rfl | hq
      · have := h2 r List.mem_cons_self
        exact fun z => this (by unfold ltP2 at *; omega)
      · exact h2 q hq
    · rw [if_neg h]
      obtain ⟨h1, h2⟩ := maxP_spec ps p
      refine ⟨?_, fun q hq => ?_⟩
      · rcases List.mem_cons.mp h1 with e | e
        · rw [e]; exact List.mem_cons_self
        · exact List.mem_cons_of_mem _ (List.mem_cons_of_mem _ e)
      · rcases List.mem_cons.mp hq with rfl | hq
        · exact h2 q List.mem_cons_self
        · rcases List.mem_cons.mp hq with rfl | hq
          · have := h2 p List.mem_cons_self
            exact fun z => this (by unfold ltP2 at *; omega)
          · exact h2 q (List.mem_cons_of_mem _ hq)
theorem pairs_alike (ps : List (Int × Int)) : PySem.W.AlikeAll (ps.map pairD) := by
  refine ⟨fun x hx y hy => ?_, fun x hx => ?_⟩
  · obtain ⟨p, _, rfl⟩ := List.mem_map.mp hx
    obtain ⟨q, _, rfl⟩ := List.mem_map.mp hy
    rfl
  · obtain ⟨p, _, rfl⟩ := List.mem_map.mp hx
    exact fun z => nomatch z
theorem pairs_lay : ∀ ps : List (Int × Int), PyData.canLayAll0 (ps.map pairD) = true
  | [] => rfl
  | p :: ps => by simp [PyData.canLayAll0, PyData.canLay0, pairD, pairs_lay ps]
theorem pairs_depth : ∀ ps : List (Int × Int), PyData.depthAll (ps.map pairD) ≤ 2
  | [] => by simp [PyData.depthAll]
  | p :: ps => by
    have := pairs_depth ps
    simp only [List.map_cons, PyData.depthAll, pairD, PyData.depth]
    omega
/-- a list of pairs, at a -/
def PairsAt (K : PySem.W.Frag) (H : Hp) (a : Addr) (ps : List (Int × Int)) : Prop := ∃ as : List Addr, SqL K H a (as.map V.ref) ∧ as.length = ps.length ∧ ∀ (i : Nat) (t : Addr) (p : Int × Int), as[i]? = some t → ps[i]? = some p → SqT K H t [.int p.1, .int p.2]
theorem pairs_dp {K : PySem.W.Frag} {H : Hp} : ∀ {as : List Addr} {ps : List (Int × Int)}, as.length = ps.length → (∀ (i : Nat) (t : Addr) (p : Int × Int), as[i]? = some t → ps[i]? = some p → SqT K H t [.int p.1, .int p.2]) → DpAll K H (as.map V.ref) (ps.map pairD)
  | [], [], _, _ => .nil
  | [], _ :: _, h, _ => by simp at h
  | _ :: _, [], h, _ => by simp at h
  | a :: as, p :: ps, h, k => .cons (.tup (k 0 a p rfl rfl) (.cons (.int _) (.cons (.int _) .nil))) (pairs_dp (by simpa using h) fun i t q ht hq => k (i + 1) t q (by simpa using ht) (by simpa using hq))
def rMnP (K : PySem.W.Frag) (best : Int × Int → List (Int × Int) → Int × Int) : List V → Hp → VK → Prop := fun xs H Q => ∃ (a : Addr) (p : Int × Int) (ps : List (Int × Int)), xs = [.ref a] ∧ PairsAt K H a (p :: ps) ∧ ∀ t, SqT K H t [.int (best p ps).1, .int (best p ps).2] → Q (.ref t) H
section
variable {X : Cx} {K : PySem.W.Frag}
theorem pick {H : Hp} {s : Shared} {as : List Addr} {ps : List (Int × Int)} {its : List Value} {i : Nat} {v : Value} {h' : Heap} {bs cs : List Addr} {b : Int × Int} (hl : as.length = ps.length)
    (hT : ∀ (i : Nat) (t : Addr) (p : Int × Int), as[i]? = some t → ps[i]? = some p → SqT K H t [.int p.1, .int p.2]) (rv : Vals (as.map V.ref) its) (hr : ReadsAll s.heap its (ps.map pairD) cs) (hv : its.toArray[i]? = some v) (rd : Reads h' v (pairD b) bs)
    (hk : ∀ b o, s.heap.get? b = some o → h'.get? b = some o) : ∃ t, v = .ref t ∧ SqT K H t [.int b.1, .int b.2] := by
  have hv' : its[i]? = some v := by simpa using hv
  have hil : i < its.length := (List.getElem?_eq_some_iff.mp hv').1
  have hvl := rv.length
  rw [List.length_map] at hvl
  obtain ⟨u, hu, ru⟩ := rv.get (show (as.map V.ref)[i]? = some (.ref (as[i]'(by omega))) by rw [List.getElem?_map, List.getElem?_eq_getElem (by omega)]; rfl)
  rw [hv'] at hu
  cases hu
  have hp : ps[i]? = some (ps[i]'(by omega)) := List.getElem?_eq_getElem (by omega)
  obtain ⟨ds, r1, _, _, _⟩ := PySem.W.readsAll_at hr i v hv'
  have e1 : (ps.map pairD).getD i .none = pairD (ps[i]'(by omega)) := by
    rw [List.getD_eq_getElem?_getD, List.getElem?_map, hp]
    rfl
  rw [e1] at r1
  have e2 := PySem.SeqAt.Reads.unique (pairD b) _ v _ _ (by simp [pairD, PyData.canLay0, PyData.canLayAll0]) rd (Reads.keeps hk r1)
  have e3 : b = ps[i]'(by omega) := by
    unfold pairD at e2
    injection e2 with e2
    injection e2 with e4 e5
    injection e5 with e5 _
    injection e4 with e4
    injection e5 with e5
    exact Prod.ext e4 e5
  refine ⟨as[i]'(by omega), ru, ?_⟩
  rw [e3]
  exact hT i _ _ (List.getElem?_eq_getElem (by omega)) hp
theorem k_minP (K : PySem.W.Frag) (h : X.K = K) (hc : X.calm = true) (hu : X.A.units + 65 < cLine) : CallR X (.builtin "min") (rMnP K minP) := by
  subst h
  intro pins s σ H xs us Q I r h
  obtain ⟨a, p, ps, rfl, ⟨as, hS, hl, hT⟩, q⟩ := h
  obtain ⟨its, rv, hL, _⟩ := I.list hS
  rw [Vals.ref1 r]
  obtain ⟨cs, hr⟩ := Dp.readsAll I _ _ its (pairs_dp hl hT) rv
  have hd := pairs_depth (p :: ps)
  refine PySem.W.min_list_data (I.ok.hd hc) hL.isList (show ReadsAll s.heap its.toArray.toList (pairD p :: ps.map pairD) cs by simpa using hr) (pairs_alike (p :: ps)) (by rw [List.map_cons] at hd; omega) fun i v h' tk bs hv rd hk => ?_
  rw [minP_data] at rd
  obtain ⟨t, rfl, ht⟩ := pick hl hT rv hr hv rd hk
  exact ⟨.ref t, H, I.kept hk, rfl, q t ht⟩
theorem k_maxP (K : PySem.W.Frag) (h : X.K = K) (hc : X.calm = true) (hu : X.A.units + 65 < cLine) : CallR X (.builtin "max") (rMnP K maxP) := by
  subst h
  intro pins s σ H xs us Q I r h
  obtain ⟨a, p, ps, rfl, ⟨as, hS, hl, hT⟩, q⟩ := h
  obtain ⟨its, rv, hL, _⟩ := I.list hS
  rw [Vals.ref1 r]
  obtain ⟨cs, hr⟩ := Dp.readsAll I _ _ its (pairs_dp hl hT) rv
  have hd := pairs_depth (p :: ps)
  refine PySem.W.max_list_data (I.ok.hd hc) hL.isList (show ReadsAll s.heap its.toArray.toList (pairD p :: ps.map pairD) cs by simpa using hr) (pairs_alike (p :: ps)) (by rw [List.map_cons] at hd; omega) fun i v h' tk bs hv rd hk => ?_
  rw [maxP_data] at rd
  obtain ⟨t, rfl, ht⟩ := pick hl hT rv hr hv rd hk
  exact ⟨.ref t, H, I.kept hk, rfl, q t ht⟩
theorem huM {k : Nat} {A : Around} (r : Room k A) : A.units + 65 < cLine := by have := r.un; omega
end
end My

namespace My
open PySem PySem.Spec PyProof.Rows L2 Pre
/-! ### data in a heap: what is told of a value by lists and tuples that stand there (none of them frozen) -/
mutual
inductive Dt (H : Hp) : V → PyData → Prop
  | non : Dt H .non .none
  | bl (b : Bool) : Dt H (.bl b) (.bool b)
  | int (n : Int) : Dt H (.int n) (.int n)
  | str (x : Str) : Dt H (.str x) (.str x)
  | lst {a : Addr} {xs : List V} {ds : List PyData} : H a = some (.lst xs) → DtA H xs ds → Dt H (.ref a) (.list ds)
  | tup {a : Addr} {xs : List V} {ds : List PyData} : H a = some (.tup xs) → DtA H xs ds → Dt H (.ref a) (.tuple ds)
inductive DtA (H : Hp) : List V → List PyData → Prop
  | nil : DtA H [] []
  | cons {v : V} {vs : List V} {d : PyData} {ds : List PyData} : Dt H v d → DtA H vs ds → DtA H (v :: vs) (d :: ds)
end
mutual
theorem Dt.same {H H' : Hp} (s : Same H H') : ∀ {d : PyData} {v : V}, Dt H v d → Dt H' v d
  | .none, _, h => by cases h; exact .non
  | .bool _, _, h => by cases h; exact .bl _
  | .int _, _, h => by cases h; exact .int _
  | .str _, _, h => by cases h; exact .str _
  | .list _, _, h => by cases h with | lst a b => exact .lst (s _ _ a) (DtA.same s b)
  | .tuple _, _, h => by cases h with | tup a b => exact .tup (s _ _ a) (DtA.same s b)
  | .dict _, _, h => nomatch h
theorem DtA.same {H H' : Hp} (s : Same H H') : ∀ {ds : List PyData} {vs : List V}, DtA H vs ds → DtA H' vs ds
  | [], _, h => by cases h; exact .nil
  | _ :: _, _, h => by cases h with | cons a b => exact .cons (Dt.same s a) (DtA.same s b)
end
mutual
theorem Dt.dp {K : PySem.W.Frag} {H : Hp} : ∀ {d : PyData} {v : V}, Dt H v d → Dp K H v d
  | .none, _, h => by cases h; exact .non
  | .bool _, _, h => by cases h; exact .bl _
  | .int _, _, h => by cases h; exact .int _
  | .str _, _, h => by cases h; exact .str _
  | .list _, _, h => by cases h with | lst a b => exact .lst (.inl (.inl a)) (DtA.dp b)
  | .tuple _, _, h => by cases h with | tup a b => exact .tup (.inl (.inl a)) (DtA.dp b)
  | .dict _, _, h => nomatch h
theorem DtA.dp {K : PySem.W.Frag} {H : Hp} : ∀ {ds : List PyData} {vs : List V}, DtA H vs ds → DpAll K H vs ds
  | [], _, h => by cases h; exact .nil
  | _ :: _, _, h => by cases h with | cons a b => exact .cons (Dt.dp a) (DtA.dp b)
end
theorem DtA.len {H : Hp} : ∀ {ds : List PyData} {vs : List V}, DtA H vs ds → vs.length = ds.length
  | [], _, h => by cases h; rfl
  | _ :: _, _, h => by cases h with | cons a b => rw [List.length_cons, List.length_cons, DtA.len b]
theorem DtA.app {H : Hp} : ∀ {ds : List PyData} {vs : List V} {es : List PyData} {us : List V}, DtA H vs ds → DtA H us es → DtA H (vs ++ us) (ds ++ es)
  | [], _, _, _, h, k => by cases h; exact k
  | _ :: _, _, _, _, h, k => by cases h with | cons a b => exact .cons a (DtA.app b k)
theorem DtA.get {H : Hp} : ∀ {ds : List PyData} {vs : List V} {i : Nat} {d : PyData}, DtA H vs ds → ds[i]? = some d → ∃ v, vs[i]? = some v ∧ Dt H v d
  | [], _, _, _, _, k => by simp at k
  | _ :: _, _, 0, _, h, k => by
    cases h with
    | cons a b => rw [List.getElem?_cons_zero] at k; cases k; exact ⟨_, rfl, a⟩
  | _ :: _, _, i + 1, _, h, k => by
    cases h with
    | cons a b => rw [List.getElem?_cons_succ] at k; rw [List.getElem?_cons_succ]; exact DtA.get b k
theorem DtA.got {H : Hp} {ds : List PyData} {vs : List V} {i : Nat} {v : V} (h : DtA H vs ds) (k : vs[i]? = some v) : ∃ d, ds[i]? = some d ∧ Dt H v d := by
  have hi := (List.getElem?_eq_some_iff.mp k).1
  have hl := h.len
  obtain ⟨u, hu, d⟩ := h.get (List.getElem?_eq_getElem (show i < ds.length by omega))
  rw [k] at hu
  cases hu
  exact ⟨_, List.getElem?_eq_getElem (by omega), d⟩
theorem DtA.take {H : Hp} : ∀ {ds : List PyData} {vs : List V} (n : Nat), DtA H vs ds → DtA H (vs.take n) (ds.take n)
  | _, _, 0, _ => .nil
  | [], _, _ + 1, h => by cases h; exact .nil
  | _ :: _, _, n + 1, h => by cases h with | cons a b => exact .cons a (DtA.take n b)
theorem DtA.drop {H : Hp} : ∀ {ds : List PyData} {vs : List V} (n : Nat), DtA H vs ds → DtA H (vs.drop n) (ds.drop n)
  | _, _, 0, h => h
  | [], _, _ + 1, h => by cases h; exact .nil
  | _ :: _, _, n + 1, h => by cases h with | cons a b => exact DtA.drop n b
theorem DtA.rev {H : Hp} : ∀ {ds : List PyData} {vs : List V}, DtA H vs ds → DtA H vs.reverse ds.reverse
  | [], _, h => by cases h; exact .nil
  | _ :: _, _, h => by
    cases h with
    | cons a b => rw [List.reverse_cons, List.reverse_cons]; exact DtA.app (DtA.rev b) (.cons a .nil)
theorem DtA.ints {H : Hp} : ∀ ns : List Int, DtA H (ns.map V.int) (ns.map PyData.int)
  | [] => .nil
  | n :: r => .cons (.int n) (DtA.ints r)
theorem DtA.intsE {H : Hp} : ∀ {ns : List Int} {vs : List V}, DtA H vs (ns.map PyData.int) → vs = ns.map V.int
  | [], _, h => by cases h; rfl
  | n :: r, _, h => by
    cases h with
    | cons a b => cases a; rw [DtA.intsE b]; rfl
/-- a list of whole numbers -/
theorem Dt.ints {H : Hp} {a : Addr} {ns : List Int} (h : H a = some (.lst (ns.map V.int))) : Dt H (.ref a) (rowD ns) := .lst h (DtA.ints ns)
theorem Dt.intsE {H : Hp} {v : V} {ns : List Int} (h : Dt H v (rowD ns)) : ∃ a, v = .ref a ∧ H a = some (.lst (ns.map V.int)) := by
  unfold rowD at h
  cases h with
  | lst a b => rw [DtA.intsE b] at a; exact ⟨_, rfl, a⟩
theorem Dt.listE {H : Hp} {v : V} {ds : List PyData} (h : Dt H v (.list ds)) : ∃ a xs, v = .ref a ∧ H a = some (.lst xs) ∧ DtA H xs ds := by
  cases h with
  | lst a b => exact ⟨_, _, rfl, a, b⟩
theorem Dt.tupE {H : Hp} {v : V} {ds : List PyData} (h : Dt H v (.tuple ds)) : ∃ a xs, v = .ref a ∧ H a = some (.tup xs) ∧ DtA H xs ds := by
  cases h with
  | tup a b => exact ⟨_, _, rfl, a, b⟩
/-! ### what is owned (and changes) is left out -/
def rs (S : List Addr) (H : Hp) : Hp := fun a => if a ∈ S then none else H a
theorem rs_nil (H : Hp) : rs [] H = H := by funext a; simp [rs]
theorem rs_in {S : List Addr} {H : Hp} {a : Addr} (h : a ∈ S) : rs S H a = none := if_pos h
theorem rs_out {S : List Addr} {H : Hp} {a : Addr} (h : a ∉ S) : rs S H a = H a := if_neg h
theorem rs_some {S : List Addr} {H : Hp} {a : Addr} {o : HO} (h : rs S H a = some o) : a ∉ S ∧ H a = some o := by
  by_cases m : a ∈ S
  · rw [rs_in m] at h; cases h
  · rw [rs_out m] at h; exact ⟨m, h⟩
theorem rs_le {S : List Addr} {H : Hp} : Same (rs S H) H := fun _ _ h => (rs_some h).2
theorem rs_same {S : List Addr} {H H' : Hp} (s : Same H H') : Same (rs S H) (rs S H') := fun b o h => by
  obtain ⟨m, e⟩ := rs_some h
  rw [rs_out m]
  exact s b o e
theorem rs_upd {S : List Addr} {H : Hp} {p : Addr} {o : HO} (h : p ∈ S) : rs S (L2.upd H p o) = rs S H := by
  funext a
  by_cases m : a ∈ S
  · rw [rs_in m, rs_in m]
  · rw [rs_out m, rs_out m, upd_ne (fun e => m (by rw [e]; exact h))]
/-- all of them stand -/
def Has (S : List Addr) (H : Hp) : Prop := ∀ a ∈ S, ∃ o, H a = some o
theorem Has.nil {H : Hp} : Has [] H := fun _ h => nomatch h
theorem Has.same {S : List Addr} {H H' : Hp} (h : Has S H) (s : Same H H') : Has S H' := fun a m => by
  obtain ⟨o, e⟩ := h a m
  exact ⟨o, s a o e⟩
theorem Has.cons {S : List Addr} {H : Hp} {p : Addr} {o : HO} (h : Has S H) (e : H p = some o) : Has (p :: S) H := fun a m => by
  rcases List.mem_cons.mp m with rfl | m
  · exact ⟨o, e⟩
  · exact h a m
theorem Has.upd {S : List Addr} {H : Hp} {p : Addr} {o : HO} (h : Has S H) : Has S (L2.upd H p o) := fun a m => by
  by_cases e : a = p
  · subst e; exact ⟨o, upd_same⟩
  · rw [upd_ne e]; exact h a m
theorem Has.out {S : List Addr} {H : Hp} {p : Addr} (h : Has S H) (n : H p = none) : p ∉ S := fun m => by
  obtain ⟨o, e⟩ := h p m
  rw [n] at e
  cases e
theorem GenAt.has {H : Hp} {g : Addr} {n : Nat} (h : GenAt H g n) : Has [g] H := by
  obtain ⟨x, y, z, e, _⟩ := h
  exact Has.nil.cons e
/-- all but what is owned stays -/
def Sta (S : List Addr) (H H' : Hp) : Prop := Same (rs S H) (rs S H')
theorem Sta.of {S : List Addr} {H H' : Hp} (s : Same H H') : Sta S H H' := rs_same s
theorem Sta.trans {S : List Addr} {H H1 H2 : Hp} (a : Sta S H H1) (b : Sta S H1 H2) : Sta S H H2 := fun c o h => b c o (a c o h)
theorem Sta.at_ {S : List Addr} {H H' : Hp} (s : Sta S H H') {a : Addr} {o : HO} (m : a ∉ S) (h : H a = some o) : H' a = some o := (rs_some (s a o (by rw [rs_out m]; exact h))).2
theorem Sta.upd {S : List Addr} {H : Hp} {p : Addr} {o : HO} (h : p ∈ S) : Sta S H (L2.upd H p o) := fun c u e => by rw [rs_upd h]; exact e
theorem Sta.more {S : List Addr} {H H' : Hp} {p : Addr} (s : Sta S H H') : Sta (p :: S) H H' := fun c o h => by
  obtain ⟨m, e⟩ := rs_some h
  have m2 : c ∉ S := fun z => m (List.mem_cons_of_mem _ z)
  rw [rs_out m]
  exact s.at_ m2 e
theorem But.sta {g : Addr} {H H' : Hp} (b : But g H H') : Sta [g] H H' := fun c o h => by
  obtain ⟨m, e⟩ := rs_some h
  rw [rs_out m]
  exact b c o (fun z => m (by rw [z]; exact List.mem_cons_self)) e
/-- what was there ahead of a new thing does not speak of it -/
theorem under {S : List Addr} {H H' : Hp} {p : Addr} (n : H p = none) (s : Same H H') : Same (rs S H) (rs (p :: S) H') := fun c o h => by
  obtain ⟨m, e⟩ := rs_some h
  rw [rs_out (fun z => by
    rcases List.mem_cons.mp z with rfl | z
    · rw [n] at e; cases e
    · exact m z)]
  exact s c o e
theorem over {S : List Addr} {H : Hp} {p : Addr} : Same (rs (p :: S) H) (rs S H) := fun c o h => by
  obtain ⟨m, e⟩ := rs_some h
  rw [rs_out (fun z => m (List.mem_cons_of_mem _ z))]
  exact e
/-! ### a new list, a new tuple, a sum of lists -/
theorem dt_new {S : List Addr} {H : Hp} {p : Addr} {xs : List V} {ds : List PyData} (hS : Has S H) (n : H p = none) (h : DtA (rs S H) xs ds) : Dt (rs S (upd H p (.lst xs))) (.ref p) (.list ds) :=
  .lst (by rw [rs_out (hS.out n)]; exact upd_same) (h.same (rs_same (same_upd n)))
theorem dt_newT {S : List Addr} {H : Hp} {p : Addr} {xs : List V} {ds : List PyData} (hS : Has S H) (n : H p = none) (h : DtA (rs S H) xs ds) : Dt (rs S (upd H p (.tup xs))) (.ref p) (.tuple ds) :=
  .tup (by rw [rs_out (hS.out n)]; exact upd_same) (h.same (rs_same (same_upd n)))
theorem d_lst {S : List Addr} {H : Hp} {xs : List V} {ds : List PyData} {Q : VK} (hS : Has S H) (h : DtA (rs S H) xs ds) (hz : xs.length ≤ sizeLine) (k : ∀ p H', Same H H' → H p = none → H' p = some (.lst xs) → Dt (rs S H') (.ref p) (.list ds) → Q (.ref p) H') : xs.length ≤ sizeLine ∧ ∀ p, H p = none → Q (.ref p) (upd H p (.lst xs)) :=
  ⟨hz, fun p n => k p _ (same_upd n) n upd_same (dt_new hS n h)⟩
theorem d_tup {S : List Addr} {H : Hp} {xs : List V} {ds : List PyData} {Q : VK} (hS : Has S H) (h : DtA (rs S H) xs ds) (hz : xs.length ≤ sizeLine) (k : ∀ p H', Same H H' → H p = none → H' p = some (.tup xs) → Dt (rs S H') (.ref p) (.tuple ds) → Q (.ref p) H') : xs.length ≤ sizeLine ∧ ∀ p, H p = none → Q (.ref p) (upd H p (.tup xs)) :=
  ⟨hz, fun p n => k p _ (same_upd n) n upd_same (dt_newT hS n h)⟩
theorem d_cat {S : List Addr} {H : Hp} {v w : V} {ds es : List PyData} {Q : VK} (hS : Has S H) (hv : Dt (rs S H) v (.list ds)) (hw : Dt (rs S H) w (.list es)) (hz : ds.length + es.length ≤ sizeLine) (k : ∀ p H', Same H H' → H p = none → Dt (rs S H') (.ref p) (.list (ds ++ es)) → Q (.ref p) H') : rCat v w H Q := by
  obtain ⟨a, xs, rfl, ha, hx⟩ := hv.listE
  obtain ⟨b, ys, rfl, hb, hy⟩ := hw.listE
  exact ⟨a, b, xs, ys, rfl, rfl, (rs_some ha).2, (rs_some hb).2, by rw [hx.len, hy.len]; exact hz, fun p n => k p _ (same_upd n) n (dt_new hS n (hx.app hy))⟩
theorem d_eq {K : PySem.W.Frag} {H : Hp} {v w : V} {d e : PyData} {Q : VK} (hv : Dt H v d) (hw : Dt H w e) (sd : SeqAt.shaped d = true) (se : SeqAt.shaped e = true) (q : Q (.bl (PyData.eqv d e)) H) : rEqD K v w H Q := ⟨d, e, hv.dp, hw.dp, sd, se, q⟩
theorem d_ne {K : PySem.W.Frag} {H : Hp} {v w : V} {d e : PyData} {Q : VK} (hv : Dt H v d) (hw : Dt H w e) (sd : SeqAt.shaped d = true) (se : SeqAt.shaped e = true) (q : Q (.bl (!PyData.eqv d e)) H) : rNeD K v w H Q := ⟨d, e, hv.dp, hw.dp, sd, se, q⟩
/-! ### comprehensions -/
/-- what comes of an item: nothing, or data -/
def Out (S : List Addr) (H : Hp) : Option PyData → Option V → Prop
  | some d, some v => Dt (rs S H) v d
  | none, none => True
  | _, _ => False
def accP (S : List Addr) (H1 : Hp) (D : Addr) (ds : List PyData) (H : Hp) : Prop := Same H1 H ∧ ∃ ys, H D = some (.lst ys) ∧ DtA (rs (D :: S) H) ys ds
theorem acc_step {S : List Addr} {H1 : Hp} {D : Addr} {sel : List (Option PyData)} {i : Nat} {o : Option PyData} {H H4 : Hp} (nD : H1 D = none) (ho : sel[i]? = some o) (hz : sel.length < sizeLine) (h : accP S H1 D ((sel.take i).filterMap id) H) (s4 : Same H H4) :
    ∀ y : Option V, Out (D :: S) H4 o y → match y with
      | some v => ∃ acc, H4 D = some (.lst acc) ∧ acc.length < sizeLine ∧ accP S H1 D ((sel.take (i + 1)).filterMap id) (upd H4 D (.lst (acc ++ [v])))
      | none => accP S H1 D ((sel.take (i + 1)).filterMap id) H4 := by
  obtain ⟨s, ys, hD, hy⟩ := h
  intro y hO
  rw [take_fm ho]
  cases o with
  | none =>
    cases y with
    | none => exact ⟨s.trans s4, ys, s4 _ _ hD, by simpa using hy.same (rs_same s4)⟩
    | some v => exact absurd hO (fun z => z)
  | some d =>
    cases y with
    | none => exact absurd hO (fun z => z)
    | some v =>
      refine ⟨ys, s4 _ _ hD, ?_, same_over nD (s.trans s4), ys ++ [v], upd_same, ?_⟩
      · rw [hy.len]
        exact Nat.lt_of_le_of_lt (fm_len sel i) hz
      · rw [rs_upd List.mem_cons_self]
        exact (hy.same (rs_same s4)).app (.cons hO .nil)
theorem acc_end {S : List Addr} {H1 : Hp} {D : Addr} {ds : List PyData} {H : Hp} (hS : Has S H1) (nD : H1 D = none) (h : accP S H1 D ds H) : Dt (rs S H) (.ref D) (.list ds) := by
  obtain ⟨s, ys, hD, hy⟩ := h
  exact .lst (by rw [rs_out (hS.out nD)]; exact hD) (hy.same over)
theorem lc_dR {lo : Int} {n : Nat} {j : Nat} {tt : TT} {te : TE} {vs : List Nat} {σ : L2.St} {H1 : Hp} {D : Addr} {Qd : Hp → Prop} {S : List Addr} (hS : Has S H1) (sel : List (Option PyData)) (nD : H1 D = none) (hlen : sel.length = n) (hz : n < sizeLine)
    (hw : ∀ x, wipe ((wipe σ vs).set j (some x)) vs = wipe σ vs)
    (hs : ∀ (i : Nat) (o : Option PyData) (H' : Hp), i < n → sel[i]? = some o → Same H1 H' → Has (D :: S) H' → ∀ Qt : Option V → Hp → Prop, (∀ y H'', Same H' H'' → Out (D :: S) H'' o y → Qt y H'') →
      tt ((wipe σ vs).set j (some (.int (lo + (i : Int))))) H' fun b H3 => if b = true then te ((wipe σ vs).set j (some (.int (lo + (i : Int))))) H3 fun y H4 => Qt (some y) H4 else Qt none H3)
    (hd : ∀ H', Same H1 H' → H' D ≠ none → Dt (rs S H') (.ref D) (.list (sel.filterMap id)) → Qd H') :
    ∃ W : Nat → Nat → Hp → Prop, (∃ m, W 0 m (upd H1 D (.lst []))) ∧ ∀ i m H, W i m H →
      ((Itr lo n).stop i H ∧ Qd H) ∨ ((Itr lo n).go i H ∧ ∃ Nx : Hp → Prop, (∀ H', Nx H' → ∃ m', m' < m ∧ W (i + 1) m' H') ∧ ∀ x H', (Itr lo n).yld i H x H' → gName j x (wipe σ vs) H' fun σ2 H2 => wipe σ2 vs = wipe σ vs ∧ tt σ2 H2 fun b H3 =>
        if b = true then te σ2 H3 fun y H4 => ∃ acc, H4 D = some (.lst acc) ∧ acc.length < sizeLine ∧ Nx (upd H4 D (.lst (acc ++ [y]))) else Nx H3) := by
  refine lc_range (lo := lo) (n := n) (fun i H => accP S H1 D ((sel.take i).filterMap id) H) ⟨same_upd nD, [], upd_same, .nil⟩ ?_ ?_
  · rintro i H hi h
    refine ⟨hw _, ?_⟩
    have ho : sel[i]? = some (sel[i]'(by omega)) := List.getElem?_eq_getElem (by omega)
    obtain ⟨s, ys, hD, hy⟩ := id h
    exact hs i _ H hi ho s ((hS.same s).cons hD) (fun o H4 => match o with
      | some y => ∃ acc, H4 D = some (.lst acc) ∧ acc.length < sizeLine ∧ accP S H1 D ((sel.take (i + 1)).filterMap id) (upd H4 D (.lst (acc ++ [y])))
      | none => accP S H1 D ((sel.take (i + 1)).filterMap id) H4) fun y H4 s4 hO => acc_step nD ho (by omega) h s4 y hO
  · rintro H h
    rw [← hlen, List.take_length] at h
    refine hd H h.1 ?_ (acc_end hS nD h)
    obtain ⟨_, ys, hD, _⟩ := h
    rw [hD]
    exact fun z => nomatch z
theorem lc_dL {K : PySem.W.Frag} {a : Addr} {xs : List V} {j : Nat} {tt : TT} {te : TE} {vs : List Nat} {σ : L2.St} {H1 : Hp} {D : Addr} {Qd : Hp → Prop} {S : List Addr} (hS : Has S H1) (sel : List (Option PyData)) (nD : H1 D = none) (hA : SqL K H1 a xs) (hlen : sel.length = xs.length) (hz : xs.length < sizeLine)
    (hw : ∀ x, wipe ((wipe σ vs).set j (some x)) vs = wipe σ vs)
    (hs : ∀ (i : Nat) (x : V) (o : Option PyData) (H' : Hp), xs[i]? = some x → sel[i]? = some o → Same H1 H' → Has (D :: S) H' → ∀ Qt : Option V → Hp → Prop, (∀ y H'', Same H' H'' → Out (D :: S) H'' o y → Qt y H'') →
      tt ((wipe σ vs).set j (some x)) H' fun b H3 => if b = true then te ((wipe σ vs).set j (some x)) H3 fun y H4 => Qt (some y) H4 else Qt none H3)
    (hd : ∀ H', Same H1 H' → H' D ≠ none → Dt (rs S H') (.ref D) (.list (sel.filterMap id)) → Qd H') :
    ∃ W : Nat → Nat → Hp → Prop, (∃ m, W 0 m (upd H1 D (.lst []))) ∧ ∀ i m H, W i m H →
      ((Itl K a).stop i H ∧ Qd H) ∨ ((Itl K a).go i H ∧ ∃ Nx : Hp → Prop, (∀ H', Nx H' → ∃ m', m' < m ∧ W (i + 1) m' H') ∧ ∀ x H', (Itl K a).yld i H x H' → gName j x (wipe σ vs) H' fun σ2 H2 => wipe σ2 vs = wipe σ vs ∧ tt σ2 H2 fun b H3 =>
        if b = true then te σ2 H3 fun y H4 => ∃ acc, H4 D = some (.lst acc) ∧ acc.length < sizeLine ∧ Nx (upd H4 D (.lst (acc ++ [y]))) else Nx H3) := by
  refine lc_list (K := K) (a := a) (xs := xs) (fun i H => accP S H1 D ((sel.take i).filterMap id) H) ⟨same_upd nD, [], upd_same, .nil⟩ (fun i H _ p => p.1.seq hA) ?_ ?_
  · rintro i x H hx h
    refine ⟨hw _, ?_⟩
    have hi := (List.getElem?_eq_some_iff.mp hx).1
    have ho : sel[i]? = some (sel[i]'(by omega)) := List.getElem?_eq_getElem (by omega)
    obtain ⟨s, ys, hD, hy⟩ := id h
    exact hs i x _ H hx ho s ((hS.same s).cons hD) (fun o H4 => match o with
      | some y => ∃ acc, H4 D = some (.lst acc) ∧ acc.length < sizeLine ∧ accP S H1 D ((sel.take (i + 1)).filterMap id) (upd H4 D (.lst (acc ++ [y])))
      | none => accP S H1 D ((sel.take (i + 1)).filterMap id) H4) fun y H4 s4 hO => acc_step nD ho (by omega) h s4 y hO
  · rintro H h
    rw [← hlen, List.take_length] at h
    refine hd H h.1 ?_ (acc_end hS nD h)
    obtain ⟨_, ys, hD, _⟩ := h
    rw [hD]
    exact fun z => nomatch z
/-- maps: each item's data -/
theorem sel_map {α : Type} (l : List α) (f : α → PyData) : (l.map fun x => some (f x)).filterMap id = l.map f := by
  induction l with
  | nil => rfl
  | cons x l ih =>
    show f x :: (l.map fun x => some (f x)).filterMap id = _
    rw [ih]
    rfl
/-- over any walk -/
theorem lc_dW {J : It} {n : Nat} {G : Hp → Prop} {Y : Nat → Hp → V → Hp → Prop} (w : Walk J n G Y) {g : TG} {tt : TT} {te : TE} {vs : List Nat} {σ : L2.St} {H1 : Hp} {D : Addr} {Qd : Hp → Prop} {S : List Addr} (hS : Has S H1) (sel : List (Option PyData)) (nD : H1 D = none) (hlen : sel.length = n) (hz : n < sizeLine)
    (hG : ∀ H', Same H1 H' → G H')
    (hs : ∀ (i : Nat) (o : Option PyData) (H0 : Hp) (x : V) (H' : Hp), i < n → sel[i]? = some o → Same H1 H0 → Has (D :: S) H0 → Y i H0 x H' → ∀ Qt : Option V → Hp → Prop, (∀ y H'', Same H0 H'' → Out (D :: S) H'' o y → Qt y H'') →
      g x (wipe σ vs) H' fun σ2 H2 => wipe σ2 vs = wipe σ vs ∧ tt σ2 H2 fun b H3 => if b = true then te σ2 H3 fun y H4 => Qt (some y) H4 else Qt none H3)
    (hd : ∀ H', Same H1 H' → H' D ≠ none → Dt (rs S H') (.ref D) (.list (sel.filterMap id)) → Qd H') :
    ∃ W : Nat → Nat → Hp → Prop, (∃ m, W 0 m (upd H1 D (.lst []))) ∧ ∀ i m H, W i m H →
      (J.stop i H ∧ Qd H) ∨ (J.go i H ∧ ∃ Nx : Hp → Prop, (∀ H', Nx H' → ∃ m', m' < m ∧ W (i + 1) m' H') ∧ ∀ x H', J.yld i H x H' → g x (wipe σ vs) H' fun σ2 H2 => wipe σ2 vs = wipe σ vs ∧ tt σ2 H2 fun b H3 =>
        if b = true then te σ2 H3 fun y H4 => ∃ acc, H4 D = some (.lst acc) ∧ acc.length < sizeLine ∧ Nx (upd H4 D (.lst (acc ++ [y]))) else Nx H3) := by
  refine lc_it w (fun i H => accP S H1 D ((sel.take i).filterMap id) H) ⟨same_upd nD, [], upd_same, .nil⟩ (fun i H _ p => hG H p.1) ?_ ?_
  · rintro i x H H' hi h y
    have ho : sel[i]? = some (sel[i]'(by omega)) := List.getElem?_eq_getElem (by omega)
    obtain ⟨s, ys, hD, hy⟩ := id h
    exact hs i _ H x H' hi ho s ((hS.same s).cons hD) y (fun o H4 => match o with
      | some y => ∃ acc, H4 D = some (.lst acc) ∧ acc.length < sizeLine ∧ accP S H1 D ((sel.take (i + 1)).filterMap id) (upd H4 D (.lst (acc ++ [y])))
      | none => accP S H1 D ((sel.take (i + 1)).filterMap id) H4) fun y H4 s4 hO => acc_step nD ho (by omega) h s4 y hO
  · rintro H h
    rw [← hlen, List.take_length] at h
    refine hd H h.1 ?_ (acc_end hS nD h)
    obtain ⟨_, ys, hD, _⟩ := h
    rw [hD]
    exact fun z => nomatch z
theorem dt_pairs {K : PySem.W.Frag} {H : Hp} {a : Addr} {ps : List (Int × Int)} (h : Dt H (.ref a) (.list (ps.map pairD))) : PairsAt K H a ps := by
  cases h with
  | lst ha hx =>
    rename_i xs
    have key : ∀ (ps : List (Int × Int)) (xs : List V), DtA H xs (ps.map pairD) → ∃ as : List Addr, xs = as.map V.ref ∧ as.length = ps.length ∧ ∀ (i : Nat) (t : Addr) (p : Int × Int), as[i]? = some t → ps[i]? = some p → SqT K H t [.int p.1, .int p.2] := fun ps => by
      induction ps with
      | nil => intro xs h; cases h; exact ⟨[], rfl, rfl, fun i t p ht => by simp at ht⟩
      | cons p ps ih =>
        intro xs h
        cases h with
        | cons b c =>
          obtain ⟨as, rfl, hl, k⟩ := ih _ c
          obtain ⟨t, ys, rfl, ht, hy⟩ := (show Dt H _ (.tuple [.int p.1, .int p.2]) from b).tupE
          rw [DtA.intsE (ns := [p.1, p.2]) hy] at ht
          refine ⟨t :: as, rfl, by rw [List.length_cons, List.length_cons, hl], fun i u q hu hq => ?_⟩
          cases i with
          | zero =>
            rw [List.getElem?_cons_zero] at hu hq
            cases hu
            cases hq
            exact .inl (.inl ht)
          | succ i =>
            rw [List.getElem?_cons_succ] at hu hq
            exact k i u q hu hq
    obtain ⟨as, rfl, hl, k⟩ := key ps xs hx
    exact ⟨as, .inl (.inl ha), hl, k⟩
end My

namespace My
theorem getD_of {l : List Int} {i : Nat} (h : i < l.length) : l.getD i 0 = l[i] := by
  rw [List.getD_eq_getElem?_getD, List.getElem?_eq_getElem h]
  rfl
/-! ### guesses, rests, in plain terms -/
def dot : List Int → List Int → Int
  | w :: ws, b :: bs => w * b + dot ws bs
  | _, _ => 0
theorem dot_nil (ws : List Int) : dot ws [] = 0 := by cases ws <;> rfl
theorem dot_take : ∀ (i : Nat) (ws bs : List Int), i < ws.length → i < bs.length → dot (ws.take (i + 1)) bs = dot (ws.take i) bs + ws.getD i 0 * bs.getD i 0
  | 0, w :: ws, b :: bs, _, _ => by simp [dot]
  | i + 1, w :: ws, b :: bs, h1, h2 => by
    have ih := dot_take i ws bs (by simpa using h1) (by simpa using h2)
    show w * b + dot (ws.take (i + 1)) bs = w * b + dot (ws.take i) bs + ws.getD i 0 * bs.getD i 0
    rw [ih]
    omega
  | _, [], _, h, _ => by simp at h
  | _, _ :: _, [], _, h => by simp at h
/-- only as many items as there are weights count -/
theorem dot_long : ∀ (ws bs cs : List Int), ws.length ≤ bs.length → dot ws (bs ++ cs) = dot ws bs
  | [], _, _, _ => rfl
  | w :: ws, b :: bs, cs, h => by
    show w * b + dot ws (bs ++ cs) = w * b + dot ws bs
    rw [dot_long ws bs cs (by simpa using h)]
  | _ :: _, [], _, h => by simp at h
def guessF (ws : List Int) (sh : Nat) (pre : List Int) : Int := dot ws pre.reverse / 2 ^ sh
theorem guess_end (ws : List Int) (sh : Nat) (pre : List Int) (k : Nat) (h : k + ws.length ≤ pre.length) : guessF ws sh (pre.drop k) = guessF ws sh pre := by
  unfold guessF
  have e : pre.reverse = (pre.drop k).reverse ++ (pre.take k).reverse := by rw [← List.reverse_append, List.take_append_drop]
  rw [e, dot_long]
  rw [List.length_reverse, List.length_drop]
  omega
/-- the rest at a place -/
def restAt (ws : List Int) (sh : Nat) (row : List Int) (p : Nat) : Int := row.getD p 0 - (if p < ws.length then 0 else guessF ws sh (row.take p))
def toldR (ws : List Int) (sh : Nat) (row : List Int) : List Int := (List.range row.length).map (restAt ws sh row)
theorem toldR_len (ws : List Int) (sh : Nat) (row : List Int) : (toldR ws sh row).length = row.length := by
  unfold toldR
  rw [List.length_map, List.length_range]
theorem toldR_firsts (ws : List Int) (sh : Nat) (row : List Int) (k : Nat) (hk : k ≤ ws.length) : (toldR ws sh row).take k = row.take k := by
  apply List.ext_getElem?
  intro i
  rw [List.getElem?_take, List.getElem?_take]
  by_cases h : i < k
  · rw [if_pos h, if_pos h]
    unfold toldR
    rw [List.getElem?_map]
    by_cases h2 : i < row.length
    · rw [List.getElem?_range h2]
      show some (row.getD i 0 - if i < ws.length then 0 else _) = row[i]?
      rw [if_pos (by omega), Int.sub_zero, List.getElem?_eq_getElem h2, getD_of h2]
    · rw [List.getElem?_eq_none (by rw [List.length_range]; omega), List.getElem?_eq_none (by omega)]
      rfl
  · rw [if_neg h, if_neg h]
theorem toldR_next (ws : List Int) (sh : Nat) (row : List Int) (p : Nat) (h1 : ws.length ≤ p) (h2 : p < row.length) : (toldR ws sh row).take (p + 1) = (toldR ws sh row).take p ++ [row.getD p 0 - guessF ws sh (row.take p)] := by
  rw [List.take_add_one]
  congr 1
  unfold toldR
  rw [List.getElem?_map, List.getElem?_range h2]
  show [restAt ws sh row p] = _
  unfold restAt
  rw [if_neg (by omega)]
def wrapI (n : Int) (d : Nat) : Int := (n + 2 ^ (d - 1)) % (2 * 2 ^ (d - 1)) - 2 ^ (d - 1)
def restsF (ws : List Int) (sh : Nat) (d : Nat) (row : List Int) : List Int := (toldR ws sh row).map fun n => wrapI n d
def Samples (d : Nat) (row : List Int) : Prop := ∀ n ∈ row, -(2 ^ (d - 1)) ≤ n ∧ n ≤ 2 ^ (d - 1) - 1
def Weights (ws : List Int) : Prop := ws.length ≤ 8 ∧ ∀ n ∈ ws, -32768 ≤ n ∧ n ≤ 32768
end My

namespace My
open PySem PySem.Spec PyProof.Rows L2 Pre
/-- an instance: isinstance of its class -/
theorem tyx_ins {K : PySem.W.Frag} {H : Hp} {a C dx : Addr} {fs : List (Str × V)} (c : C8.InsC K C) (h : H a = some (.ins C dx fs)) : TyX K H (.ref a) (.ref C) := .base (.ins h c.cl c.ha c.hn c.htk c.hm)
theorem rd_list {K : PySem.W.Frag} {H : Hp} {a : Addr} {xs : List V} (h : Rd H a (.lst xs)) : TyX K H (.ref a) (.type "list") := by
  rcases h with h | ⟨o, h⟩
  · exact .base (.lst h)
  · exact .base (.frz h)
theorem Rd.same {H H' : Hp} {a : Addr} {u : HO} (h : Rd H a u) (s : Same H H') : Rd H' a u := by
  rcases h with h | ⟨o, h⟩
  · exact .inl (s _ _ h)
  · exact .inr ⟨o, s _ _ h⟩
theorem small_row {ns : List Int} (h : ns.length ≤ 1000) : (ns.map V.int).length < sizeLine := by
  rw [List.length_map]
  exact small1000 h
section
variable {P : Program} {w : World} {K : PySem.W.Frag} {mg : Str → Option Value} {base : Heap}
/-! ### checks -/
def sp_check_depth : Sp := fun vs H Q _ => ∃ d m : Int, vs = [.int d, .int m] ∧ 1 ≤ d ∧ d ≤ m ∧ Q .non H
def sp_is_sample : Sp := fun vs H Q _ => ∃ (n : Int) (d : Nat), vs = [.int n, .int d] ∧ 1 ≤ d ∧ d ≤ 1000 ∧ Q (.bl (decide (-(2 ^ (d - 1)) ≤ n ∧ n ≤ 2 ^ (d - 1) - 1))) H
theorem pred_toNat {d : Nat} (h : 1 ≤ d) : ((d : Int) - 1).toNat = d - 1 := by omega
/-- a list of samples of a depth -/
def sp_are_samples (K : PySem.W.Frag) : Sp := fun vs H Q _ => ∃ (a : Addr) (ns : List Int) (d : Nat), vs = [.ref a, .int d] ∧ Rd H a (.lst (ns.map V.int)) ∧ Samples d ns ∧ ns.length ≤ 1000 ∧ 1 ≤ d ∧ d ≤ 1000 ∧ ∀ H', Same H H' → Q (.bl true) H'
theorem fm_none {α β : Type} (l : List α) : (l.map fun _ => (none : Option β)).filterMap id = [] := by
  induction l with
  | nil => rfl
  | cons n r ih => simp
def sp_wrapped : Sp := fun vs H Q _ => ∃ (n : Int) (d : Nat), vs = [.int n, .int d] ∧ 1 ≤ d ∧ d ≤ 64 ∧ Q (.int (wrapI n d)) H
/-! ### guessers -/
/-- a guesser of the weights ws and the shift sh -/
def GuesserAt (C : Addr) (H : Hp) (a : Addr) (ws : List Int) (sh : Nat) : Prop := Weights ws ∧ sh ≤ 15 ∧ ∃ dx p, H a = some (.ins C dx [("parts", .ref p), ("down", .int sh)]) ∧ H p = some (.lst (ws.map V.int))
theorem GuesserAt.same {C : Addr} {H H' : Hp} {a : Addr} {ws : List Int} {sh : Nat} (h : GuesserAt C H a ws sh) (s : Same H H') : GuesserAt C H' a ws sh := by
  obtain ⟨h1, h2, dx, p, h3, h4⟩ := h
  exact ⟨h1, h2, dx, p, s _ _ h3, s _ _ h4⟩
def sp_Guesser___init__ (C : Addr) (K : PySem.W.Frag) : Sp := fun vs H Q _ => ∃ (x a dx : Addr) (ws : List Int) (sh : Nat), vs = [.ref x, .ref a, .int sh] ∧ H x = some (.ins C dx []) ∧ Rd H a (.lst (ws.map V.int)) ∧ Weights ws ∧ sh ≤ 15 ∧
  ∀ H', (∀ b o, b ≠ x → H b = some o → H' b = some o) → GuesserAt C H' x ws sh → (∃ dx p, H' x = some (.ins C dx [("parts", .ref p), ("down", .int sh)]) ∧ H p = none) → Q .non H'
theorem G_Guesser___init__ (T : Top K mg) : FnOk P w K mg base CX0 3 T.f_Guesser___init__ T.fd_Guesser___init__ ["self", "weights", "shift"] (sp_Guesser___init__ T.C_Guesser K) := by
  refine T.F_Guesser___init__.ok sc_Guesser___init__ (fun vs H Q E h => by obtain ⟨x, a, dx, ws, sh, rfl, _⟩ := h; rfl) (fun cdv A outer s H vs Q E hr h => ?_)
  obtain ⟨x, a, dx, ws, sh, rfl, hx, hA, hW, hsh, q⟩ := h
  refine ⟨_, PSs.nox (pss_cons (ps_if (PW.pt (pw_or (pt_not (pt_val (pe_callB (k_isi K rfl) (by rfl) T.n_isinstance (by decide +kernel) (pa_cons (pv 1) (pa_cons (pe_bltn (v := .ty "list") (by rfl) T.n_list (by decide +kernel) rfl) pa_nil))))) (pw_or1 (pt_cmpR op_gt (pe_callB (k_len K rfl) (by rfl) T.n_len (by decide +kernel) (pa_cons (pv 1) pa_nil)) (pe_glob (v := .int 8) rfl T.m_MOST_ORDER ⟨_, rfl⟩) (nomark _)))))
    (pss_one ps_never)
    pss_nil)
  (pss_cons (ps_for PassesOwn.never rfl (k_piL K rfl (pv 1)) (pg_name (i := 3) sc_Guesser___init__.nd rfl (by first | exact Or.inl rfl | exact Or.inr rfl))
    (pss_one (ps_if (pt_not (pt_val (pe_call (G_is_between T) (hr.mono (by decide)) (by rfl) T.g_is_between T.F_is_between.kp T.b_is_between .nil pass0 (pa_cons (pv 3) (pa_cons (pe_un un_neg (pe_glob (v := .int 32768) rfl T.m_MOST_WEIGHT ⟨_, rfl⟩)) (pa_cons (pe_glob (v := .int 32768) rfl T.m_MOST_WEIGHT ⟨_, rfl⟩) pa_nil))))))
    (pss_one ps_never)
    pss_nil)))
  (pss_cons (ps_if (pt_not (pt_val (pe_call (G_is_between T) (hr.mono (by decide)) (by rfl) T.g_is_between T.F_is_between.kp T.b_is_between .nil pass0 (pa_cons (pv 2) (pa_cons pe_int (pa_cons (pe_glob (v := .int 15) rfl T.m_MOST_SHIFT ⟨_, rfl⟩) pa_nil))))))
    (pss_one ps_never)
    pss_nil)
  (pss_cons (ps_fld (pv 0) (pe_callTy (k_listOf K rfl) (by rfl) T.n_list (by decide +kernel) (pa_cons (pv 1) pa_nil)) rfl)
  (pss_one (ps_fld (pv 0) (pv 2) rfl)))))), ?_⟩
  have hS : SqL K H a (ws.map V.int) := .inl hA
  refine ⟨_, rfl, _, _, _, _, true, rfl, .ty _, rd_list hA, kit_ty (by decide +kernel), true, rfl, iteF ?_⟩
  refine ⟨_, rfl, a, _, rfl, .inl hS, _, _, rfl, rfl, _, rfl, ?_⟩
  rw [List.length_map, decide_eq_false (show ¬ (ws.length : Int) > 8 by have := hW.1; omega)]
  refine iteF ?_
  -- for weight in weights
  refine ⟨_, rfl, a, rfl, ⟨_, hS⟩, for_list (K := K) (a := a) (xs := ws.map V.int) (fun i σ H1 => ∃ v, σ = [some (.ref x), some (.ref a), some (.int sh), v] ∧ H1 = H) ⟨none, rfl, rfl⟩ (fun i σ H1 _ ⟨_, _, e⟩ => by rw [e]; exact hS) ?_ ?_⟩
  · rintro i v σ H1 hv ⟨v3, rfl, rfl⟩
    obtain ⟨n, hn, rfl⟩ := int_at hv
    have hb := hW.2 n (List.mem_of_getElem? hn)
    refine ⟨_, rfl, _, rfl, n, -32768, some 32768, rfl, _, rfl, ?_⟩
    rw [decide_eq_true ⟨hb.1, fun j h => by cases h; exact hb.2⟩]
    exact iteF ⟨_, rfl, rfl⟩
  · rintro σ H1 ⟨v3, rfl, rfl⟩
    refine ⟨_, rfl, (sh : Int), 0, some 15, rfl, _, rfl, ?_⟩
    rw [decide_eq_true ⟨by omega, fun j h => by cases h; omega⟩]
    refine iteF ?_
    -- self.parts = list(weights)
    refine ⟨_, rfl, a, _, rfl, .inl hS, fun p np => ?_⟩
    have npx : p ≠ x := (ne_of_none hx np).symm
    have hx1 : (upd H1 p (.lst (ws.map V.int))) x = some (.ins T.C_Guesser dx []) := same_upd np _ _ hx
    refine ⟨_, rfl, x, T.C_Guesser, dx, [], rfl, hx1, T.cl_Guesser, T.na_Guesser_parts, by decide, ?_⟩
    refine ⟨_, rfl, _, rfl, x, T.C_Guesser, dx, _, rfl, upd_same, T.cl_Guesser, T.na_Guesser_down, (by show 1 < 1000; decide), ?_⟩
    refine q _ (fun b o nb hb => ?_) ⟨hW, hsh, dx, p, ?_, ?_⟩ ⟨dx, p, ?_, np⟩
    · rw [upd_ne nb, upd_ne nb]
      exact same_upd np _ _ hb
    · rw [upd_same]
      rfl
    · rw [upd_ne npx, upd_ne npx, upd_same]
    · rw [upd_same]
      rfl
/-- a guesser that no change of g touches -/
def GuesserBut (C g : Addr) (H : Hp) (a : Addr) (ws : List Int) (sh : Nat) : Prop := ∀ H', But g H H' → GuesserAt C H' a ws sh
theorem GuesserBut.of {C g x : Addr} {H H' : Hp} {ws : List Int} {sh n : Nat} (hG : GenAt H g n) (nx : x ≠ g) (h : GuesserAt C H' x ws sh) (k : ∃ dx p, H' x = some (.ins C dx [("parts", .ref p), ("down", .int sh)]) ∧ H p = none) : GuesserBut C g H' x ws sh := by
  obtain ⟨hW, hs, dx, p, h1, h2⟩ := h
  obtain ⟨dx', p', h3, h4⟩ := k
  rw [h1] at h3
  cases h3
  exact fun H2 b => ⟨hW, hs, dx, p, b _ _ nx h1, b _ _ (hG.ne h4) h2⟩
theorem GuesserBut.but {C g x : Addr} {H H' : Hp} {ws : List Int} {sh : Nat} (h : GuesserBut C g H x ws sh) (b : But g H H') : GuesserBut C g H' x ws sh := fun H2 b2 => h H2 (b.trans b2)
def sp_check_guesser (C : Addr) : Sp := fun vs H Q _ => ∃ (a : Addr) (ws : List Int) (sh : Nat), vs = [.ref a] ∧ GuesserAt C H a ws sh ∧ Q .non H
theorem G_check_guesser (T : Top K mg) : FnOk P w K mg base CX0 1 T.f_check_guesser T.fd_check_guesser ["value"] (sp_check_guesser T.C_Guesser) := by
  refine T.F_check_guesser.ok sc_check_guesser (fun vs H Q E h => by obtain ⟨a, ws, sh, rfl, _⟩ := h; rfl) (fun cdv A outer s H vs Q E hr h => ?_)
  obtain ⟨a, ws, sh, rfl, hG, q⟩ := h
  refine ⟨_, PSs.nox (pss_one (ps_if (pt_not (pt_val (pe_callB (k_isi K rfl) (by rfl) T.n_isinstance (by decide +kernel) (pa_cons (pv 0) (pa_cons (pe_glob (v := .ref T.C_Guesser) rfl T.gc_Guesser rfl) pa_nil)))))
    (pss_one ps_never)
    pss_nil)), ?_⟩
  obtain ⟨_, _, dx, p, ha, _⟩ := hG
  refine ⟨_, rfl, _, _, _, _, true, rfl, .own _, tyx_ins T.ic_Guesser ha, T.ic_Guesser.me, true, rfl, iteF ?_⟩
  exact q
def sp_check_row (K : PySem.W.Frag) : Sp := fun vs H Q _ => ∃ (a : Addr) (ns : List Int) (d : Nat), vs = [.int d, .ref a] ∧ Rd H a (.lst (ns.map V.int)) ∧ Samples d ns ∧ ns.length ≤ 1000 ∧ 1 ≤ d ∧ d ≤ 1000 ∧ ∀ H', Same H H' → Q .non H'
theorem cut_get {bs : List Int} {i n : Nat} (h : i < n) (hn : n = bs.length) : (bs.map V.int)[n - 1 - i]? = some (.int (bs.reverse.getD i 0)) := by
  subst hn
  rw [List.getElem?_map, List.getElem?_eq_getElem (show bs.length - 1 - i < bs.length by omega)]
  have h2 : i < bs.reverse.length := by rw [List.length_reverse]; exact h
  rw [getD_of h2, List.getElem_reverse]
  rfl
def sp_sum_before (C : Addr) (K : PySem.W.Frag) : Sp := fun vs H Q _ => ∃ (a b : Addr) (ws : List Int) (sh : Nat) (bs : List Int), vs = [.ref a, .ref b] ∧ GuesserAt C H a ws sh ∧ SqL K H b (bs.map V.int) ∧ ws.length ≤ bs.length ∧ ∀ H', Same H H' → Q (.int (dot ws bs.reverse)) H'
theorem G_sum_before (T : Top K mg) : FnOk P w K mg base CX0 1 T.f_sum_before T.fd_sum_before ["guesser", "before"] (sp_sum_before T.C_Guesser K) := by
  refine T.F_sum_before.ok sc_sum_before (fun vs H Q E h => by obtain ⟨a, b, ws, sh, bs, rfl, _⟩ := h; rfl) (fun cdv A outer s H vs Q E hr h => ?_)
  obtain ⟨a, b, ws, sh, bs, rfl, hG, hB, hl, q⟩ := h
  refine ⟨_, PSs.nox (pss_cons (ps_set (i := 2) sc_sum_before.nd rfl (by first | exact Or.inl rfl | exact Or.inr rfl) pe_int)
  (pss_cons (ps_for PassesOwn.never rfl (k_piE K rfl (by rfl) T.n_enumerate (pa_cons (pe_fld (pv 0) rfl) pa_nil)) (k_pgT K rfl (by rfl) (pgs_cons (pg_name (i := 3) sc_sum_before.nd rfl (by first | exact Or.inl rfl | exact Or.inr rfl)) (pgs_cons (pg_name (i := 4) sc_sum_before.nd rfl (by first | exact Or.inl rfl | exact Or.inr rfl)) pgs_nil)))
    (pss_one (ps_set (i := 2) sc_sum_before.nd rfl (by first | exact Or.inl rfl | exact Or.inr rfl) (pe_op op_add (pv 2) (pe_op op_mul (pv 4) (pe_ix (k_ixL K rfl) (pv 1) (pe_op op_sub (pe_op op_sub (pe_callB (k_len K rfl) (by rfl) T.n_len (by decide +kernel) (pa_cons (pv 1) pa_nil)) pe_int) (pv 3)) (fun _ _ => rfl)))))))
  (pss_one (ps_ret (pv 2))))), ?_⟩
  obtain ⟨hW, _, dx, p, ha, hp⟩ := id hG
  have hP : SqL K H p (ws.map V.int) := .inl (.inl hp)
  refine ⟨_, rfl, a, T.C_Guesser, dx, _, _, rfl, ha, T.cl_Guesser, T.na_Guesser_parts, rfl, p, _, rfl, hP, ?_⟩
  refine for_it (walk_enum (K := K) (a := p) (xs := ws.map V.int)) (fun i σ H1 => ∃ v3 v4, σ = [some (.ref a), some (.ref b), some (.int (dot (ws.take i) bs.reverse)), v3, v4] ∧ Same H H1) ⟨none, none, ?_, Same.refl _⟩ (fun i σ H1 _ ⟨_, _, _, s⟩ => s.seq hP) ?_ ?_
  · show _ = [some (V.ref a), some (V.ref b), some (V.int (dot [] bs.reverse)), none, none]
    rfl
  · rintro i x σ H1 H2 hi ⟨v3, v4, rfl, s1⟩ ⟨t, y, z, rfl, nt, rfl, ey, ez⟩
    cases ey
    obtain ⟨n, hn, rfl⟩ := int_at ez
    rw [List.length_map] at hi
    have s2 : Same H1 (upd H1 t (.tup [.int (i : Nat), .int n])) := same_upd nt
    have hB2 := (s1.trans s2).seq hB
    refine ⟨t, _, rfl, .inl (.inl upd_same), rfl, _, _, rfl, _, _, rfl, rfl, ?_⟩
    have hb := hW.2 n (List.mem_of_getElem? hn)
    have en : n = ws.getD i 0 := by rw [List.getD_eq_getElem?_getD, hn]; rfl
    refine ⟨_, rfl, _, rfl, _, rfl, _, rfl, b, _, rfl, .inl hB2, _, _, rfl, rfl, _, rfl, _, _, rfl, rfl, b, _, _, .int (bs.reverse.getD i 0), rfl, rfl, hB2, at_of (j := bs.length - 1 - i) (by rw [List.length_map]; omega) (cut_get (show i < bs.length by omega) rfl), _, _, rfl, rfl, .inl ⟨by omega, by omega⟩, _, _, rfl, rfl, ?_⟩
    refine ⟨some (.int (i : Nat)), some (.int n), ?_, s1.trans s2⟩
    rw [dot_take i ws bs.reverse hi (by rw [List.length_reverse]; omega), ← en]
    rfl
  · rintro σ H1 ⟨v3, v4, rfl, s1⟩
    rw [List.length_map, List.take_length]
    exact ⟨_, rfl, q _ s1⟩
def sp_guess_behind (C : Addr) (K : PySem.W.Frag) : Sp := fun vs H Q _ => ∃ (a b : Addr) (ws : List Int) (sh : Nat) (bs : List Int), vs = [.ref a, .ref b] ∧ GuesserAt C H a ws sh ∧ SqL K H b (bs.map V.int) ∧ ws.length ≤ bs.length ∧ ∀ H', Same H H' → Q (.int (guessF ws sh bs)) H'
theorem G_guess_behind (T : Top K mg) : FnOk P w K mg base CX0 2 T.f_guess_behind T.fd_guess_behind ["guesser", "before"] (sp_guess_behind T.C_Guesser K) := by
  refine T.F_guess_behind.ok sc_guess_behind (fun vs H Q E h => by obtain ⟨a, b, ws, sh, bs, rfl, _⟩ := h; rfl) (fun cdv A outer s H vs Q E hr h => ?_)
  obtain ⟨a, b, ws, sh, bs, rfl, hG, hB, hl, q⟩ := h
  refine ⟨_, PSs.nox (pss_one (ps_ret (pe_op op_shr (pe_call (G_sum_before T) (hr.mono (by decide)) (by rfl) T.g_sum_before T.F_sum_before.kp T.b_sum_before .nil pass0 (pa_cons (pv 0) (pa_cons (pv 1) pa_nil))) (pe_fld (pv 0) rfl)))), ?_⟩
  refine ⟨_, rfl, _, rfl, a, b, ws, sh, bs, rfl, hG, hB, hl, fun H1 s1 => ?_⟩
  obtain ⟨hW, _, dx, p, ha, hp⟩ := hG.same s1
  refine ⟨_, rfl, a, T.C_Guesser, dx, _, _, rfl, ha, T.cl_Guesser, T.na_Guesser_down, rfl, _, _, rfl, rfl, by omega, ?_⟩
  dsimp only
  rw [Int.toNat_natCast]
  exact q _ s1
theorem cut_mid (xs : List V) (i j : Nat) (h1 : i ≤ j) (h2 : j ≤ xs.length) : cutV xs (some (i : Int)) (some (j : Int)) = (xs.take j).drop i := by
  unfold cutV
  rw [HT.sIx_nat, HT.sIx_nat, Nat.min_eq_left h2, Nat.min_eq_left (Nat.le_trans h1 h2), List.drop_take]
def sp_told_rests (C : Addr) (K : PySem.W.Frag) : Sp := fun vs H Q _ => ∃ (a b : Addr) (ws : List Int) (sh : Nat) (row : List Int), vs = [.ref a, .ref b] ∧ GuesserAt C H a ws sh ∧ SqL K H b (row.map V.int) ∧ row.length ≤ 1000 ∧
  ∀ H' p, Same H H' → H p = none → H' p = some (.lst ((toldR ws sh row).map V.int)) → Q (.ref p) H'
def sp_rests (C : Addr) (K : PySem.W.Frag) : Sp := fun vs H Q _ => ∃ (a b : Addr) (ws : List Int) (sh : Nat) (row : List Int) (d : Nat), vs = [.ref a, .int d, .ref b] ∧ GuesserAt C H a ws sh ∧ Rd H b (.lst (row.map V.int)) ∧ row.length ≤ 1000 ∧ Samples d row ∧ 1 ≤ d ∧ d ≤ 32 ∧
  ∀ H' p, Same H H' → H p = none → H' p = some (.lst ((restsF ws sh d row).map V.int)) → Q (.ref p) H'
end
end My

namespace My
open PySem PySem.Spec PyProof.Rows L2 Pre
local macro_rules | `(tactic| walk_at "go") => `(tactic| repeat (first | (with_reducible first | refine iteT ?_ | refine iteF ?_ | refine iteNtt ?_ | refine iteNff ?_ | refine iteET (by omega) ?_ | refine iteEF (by omega) ?_ | refine iteENT (by omega) ?_ | refine iteENF (by omega) ?_ | refine iteDT (by omega) ?_ | refine iteDF (by omega) ?_ | refine iteNT (by omega) ?_ | refine iteNF (by omega) ?_) | refine ⟨_, rfl, ?_⟩ | refine ⟨_, _, rfl, rfl, ?_⟩ | refine ⟨_, _, rfl, ?_⟩ | refine ⟨rfl, ?_⟩ | refine .inl ⟨_, rfl, ?_⟩ | refine .inr ⟨_, rfl, ?_⟩))
local macro_rules | `(tactic| walk_at "b") => `(tactic| try dsimp (config := { proj := false, iota := false, eta := false, zeta := false }) only)
section
variable {P : Program} {w : World} {K : PySem.W.Frag} {mg : Str → Option Value} {base : Heap}
/-! ### common divisors and fractions, of whole numbers of either sign -/
def sp_common_divisor : Sp := fun vs H Q _ => ∃ a b : Int, vs = [.int a, .int b] ∧ Q (.int (Int.gcd a b : Nat)) H
theorem abs_int (a : Int) : (if a < 0 then -a else a) = (a.natAbs : Int) := by split <;> omega
theorem G_common_divisor (T : Top K mg) : FnOk P w K mg base CX0 1 T.f_common_divisor T.fd_common_divisor ["one", "other"] sp_common_divisor := by
  refine T.F_common_divisor.ok sc_common_divisor (fun vs H Q E h => by obtain ⟨a, b, rfl, _⟩ := h; rfl) (fun cdv A outer s H vs Q E hr h => ?_)
  obtain ⟨a, b, rfl, q⟩ := h
  refine ⟨_, PSs.nox (pss_cons (ps_par (by rfl) sc_common_divisor.nd (i := 0) (j := 1) rfl rfl (by decide) rfl rfl (pa_cons (pe_callB call_abs (by rfl) T.n_abs (by decide +kernel) (pa_cons (pv 0) pa_nil)) (pa_cons (pe_callB call_abs (by rfl) T.n_abs (by decide +kernel) (pa_cons (pv 1) pa_nil)) pa_nil)) (by rfl))
  (pss_cons (ps_while PassesOwn.never (pt_cmpR op_ne (pv 1) pe_int (nomark _))
    (pss_one (ps_par (by rfl) sc_common_divisor.nd (i := 0) (j := 1) rfl rfl (by decide) rfl rfl (pa_cons (pv 1) (pa_cons (pe_op op_mod (pv 0) (pv 1)) pa_nil)) (by rfl))))
  (pss_one (ps_ret (pv 0))))), ?_⟩
  refine ⟨_, rfl, _, rfl, _, rfl, _, rfl, _, _, rfl, ?_⟩
  rw [abs_int, abs_int]
  refine ⟨fun m σ H2 => ∃ x y : Nat, σ = [some (.int x), some (.int y)] ∧ y = m ∧ Nat.gcd x y = Int.gcd a b ∧ H2 = H, ⟨b.natAbs, a.natAbs, b.natAbs, rfl, rfl, rfl, rfl⟩, ?_⟩
  rintro m σ H2 ⟨x, y, rfl, rfl, hg, rfl⟩
  refine ⟨_, rfl, rfl, _, rfl, ?_⟩
  by_cases hy : y = 0
  · subst hy
    refine iteENF rfl ⟨_, rfl, ?_⟩
    rw [← hg, Nat.gcd_zero_right] at q
    exact q
  · refine iteENT (by omega) ?_
    refine ⟨fun σ' H' => ∃ x' y' : Nat, σ' = [some (.int x'), some (.int y')] ∧ y' < y ∧ Nat.gcd x' y' = Int.gcd a b ∧ H' = H2, fun σ' H' ⟨x', y', e1, e2, e3, e4⟩ => ⟨y', e2, x', y', e1, rfl, e3, e4⟩, ?_⟩
    refine ⟨_, rfl, _, rfl, _, rfl, _, _, rfl, rfl, (by show (0 : Int) < _; omega), _, _, rfl, y, x % y, ?_, Nat.mod_lt _ (by omega), ?_, rfl⟩
    · show [some (V.int (y : Int)), some (.int ((x : Int) % (y : Int)))] = _
      rw [Int.natCast_emod]
    · rw [← hg, Nat.gcd_comm y, ← Nat.gcd_rec, Nat.gcd_comm]
/-- a fraction in lowest terms -/
def lowF (t u : Int) : Int × Int := (t / (Int.gcd t u : Nat), u / (Int.gcd t u : Nat))
def sp_fraction : Sp := fun vs H Q _ => ∃ t u : Int, vs = [.int t, .int u] ∧ 0 < u ∧ u < 2 ^ 1000 ∧ ∀ H' p, Same H H' → H p = none → H' p = some (.tup ([(lowF t u).1, (lowF t u).2].map V.int)) → Q (.ref p) H'
theorem G_fraction (T : Top K mg) : FnOk P w K mg base CX0 2 T.f_fraction T.fd_fraction ["top", "under"] sp_fraction := by
  refine T.F_fraction.ok sc_fraction (fun vs H Q E h => by obtain ⟨t, u, rfl, _⟩ := h; rfl) (fun cdv A outer s H vs Q E hr h => ?_)
  obtain ⟨t, u, rfl, hu, hz, q⟩ := h
  refine ⟨_, PSs.nox (pss_cons (ps_set (i := 2) sc_fraction.nd rfl (by first | exact Or.inl rfl | exact Or.inr rfl) (pe_call (G_common_divisor T) (hr.mono (by decide)) (by rfl) T.g_common_divisor T.F_common_divisor.kp T.b_common_divisor .nil pass0 (pa_cons (pv 0) (pa_cons (pv 1) pa_nil))))
  (pss_cons (ps_if (pt_cmpR op_lt (pv 1) pe_int (nomark _))
    (pss_one (ps_set (i := 2) sc_fraction.nd rfl (by first | exact Or.inl rfl | exact Or.inr rfl) (pe_op op_sub pe_int (pv 2))))
    pss_nil)
  (pss_one (ps_ret (pe_tup (pa_cons (pe_op op_fdivW (pv 0) (pv 2)) (pa_cons (pe_op op_fdivW (pv 1) (pv 2)) pa_nil))))))), ?_⟩
  have h1 : 0 < Int.gcd t u := Int.gcd_pos_of_ne_zero_right _ (by omega)
  have h2 : (Int.gcd t u : Int) ≤ u := Int.le_of_dvd hu (Int.gcd_dvd_right ..)
  have hw : ∀ x, CDivW x ((Int.gcd t u : Nat) : Int) := fun x => wide_div (b := 1000) (by omega) (by rw [Int.natAbs_natCast]; omega) (by decide) (by decide)
  walk_at "go"
  refine ⟨hw _, ?_⟩
  walk_at "go"
  refine ⟨hw _, (show 2 ≤ sizeLine by decide), fun p np => ?_⟩
  exact q _ p (same_upd np) np upd_same
theorem lowF_ok {t u : Int} (hu : 0 < u) : ∃ g : Int, 0 < g ∧ t = g * (lowF t u).1 ∧ u = g * (lowF t u).2 ∧ 0 < (lowF t u).2 := by
  have h1 : 0 < Int.gcd t u := Int.gcd_pos_of_ne_zero_right _ (by omega)
  have e1 := Int.mul_ediv_cancel' (Int.gcd_dvd_left (a := t) (b := u))
  have e2 := Int.mul_ediv_cancel' (Int.gcd_dvd_right (a := t) (b := u))
  refine ⟨(Int.gcd t u : Nat), by omega, e1.symm, e2.symm, ?_⟩
  show 0 < u / (Int.gcd t u : Nat)
  by_cases h : 0 < u / (Int.gcd t u : Nat)
  · exact h
  · have h3 : ((Int.gcd t u : Nat) : Int) * (u / (Int.gcd t u : Nat)) ≤ 0 := Int.mul_nonpos_of_nonneg_of_nonpos (by omega) (by omega)
    omega
theorem lowF_scale (t u : Int) {s : Int} (hs : 0 < s) : lowF (t * s) (u * s) = lowF t u := by
  unfold lowF
  rw [Int.gcd_mul_right]
  have e : ((t.gcd u * s.natAbs : Nat) : Int) = (t.gcd u : Nat) * s := by rw [Int.natCast_mul]; congr 1; omega
  rw [e, Int.mul_ediv_mul_of_pos_left _ _ hs, Int.mul_ediv_mul_of_pos_left _ _ hs]
/-- alike just if the products are -/
theorem lowF_eq {t u t' u' : Int} (hu : 0 < u) (hu' : 0 < u') : lowF t u = lowF t' u' ↔ t * u' = t' * u := by
  constructor
  · intro h
    obtain ⟨g, _, e1, e2, _⟩ := lowF_ok (t := t) hu
    obtain ⟨g', _, e1', e2', _⟩ := lowF_ok (t := t') hu'
    rw [h] at e1 e2
    generalize (lowF t' u').1 = x at *
    generalize (lowF t' u').2 = y at *
    rw [e1, e2, e1', e2']
    rw [Int.mul_assoc, Int.mul_assoc, Int.mul_left_comm x g' y, Int.mul_left_comm g g' , Int.mul_left_comm x g y]
  · intro h
    rw [← lowF_scale t u hu', ← lowF_scale t' u' hu, h, Int.mul_comm u u']
end
end My

namespace My
/-! ### the simplest fraction of an interval -/
/-- k / n lies between a / b and c / d (b, d, n above 0) -/
def Inn (a b c d k n : Int) : Prop := a * n ≤ k * b ∧ k * d ≤ c * n
/-- up to so many steps; low is a / b, high is c / d -/
def simp : Nat → Int → Int → Int → Int → Option (Int × Int)
  | 0, _, _, _, _ => none
  | f + 1, a, b, c, d =>
    if -((-a) / b) * d ≤ c then some (-((-a) / b), 1)
    else match simp f d (c - a / b * d) b (a - a / b * b) with
      | some (x, y) => some (a / b * x + y, x)
      | none => none
/-- scaled ends are the same ends -/
structure Good (a b c d : Int) (k n : Int) : Prop where
  pos : 1 ≤ n
  inn : Inn a b c d k n
  den : ∀ k' n', 1 ≤ n' → Inn a b c d k' n' → n ≤ n'
  num : 0 < a → ∀ k' n', 1 ≤ n' → Inn a b c d k' n' → k ≤ k'
theorem ceil_le {a b k : Int} (hb : 0 < b) (h : a ≤ k * b) : -((-a) / b) ≤ k := by
  have : -k ≤ (-a) / b := (Int.le_ediv_iff_mul_le hb).mpr (by rw [Int.neg_mul]; omega)
  omega
theorem ceil_ge {a b : Int} (hb : 0 < b) : a ≤ -((-a) / b) * b := by
  have := Int.mul_ediv_self_le (x := -a) (k := b) (by omega)
  rw [Int.neg_mul, Int.mul_comm]
  omega
theorem simp_good : ∀ (f : Nat) (a b c d : Int), 0 < b → 0 < d → a * d ≤ c * b → ∀ r, simp f a b c d = some r → Good a b c d r.1 r.2
  | 0, a, b, c, d, _, _, _, r, h => by cases h
  | f + 1, a, b, c, d, hb, hd, hle, r, h => by
    unfold simp at h
    have hfl1 := Int.mul_ediv_self_le (x := a) (k := b) (by omega)
    have hfl2 := Int.lt_ediv_add_one_mul_self a hb
    by_cases cc : -((-a) / b) * d ≤ c
    · rw [if_pos cc] at h
      cases h
      refine ⟨(show (1 : Int) ≤ 1 by decide), ⟨?_, ?_⟩, fun k' n' hn _ => hn, fun ha k' n' hn hi => ?_⟩
      · show a * 1 ≤ -((-a) / b) * b
        have := ceil_ge (a := a) hb
        omega
      · show -((-a) / b) * d ≤ c * 1
        omega
      · refine ceil_le hb ?_
        have h1 := hi.1
        have h2 : a * 1 ≤ a * n' := Int.mul_le_mul_of_nonneg_left hn (by omega)
        omega
    · rw [if_neg cc] at h
      generalize hm : a / b = m at h hfl1 hfl2
      rw [Int.mul_comm] at hfl1
      have hnz : a - m * b ≠ 0 := fun z => by
        refine cc ?_
        have e : a = m * b := by omega
        have e2 : -((-a) / b) = m := by
          rw [e, ← Int.neg_mul, Int.mul_ediv_cancel _ (by omega)]
          omega
        rw [e2]
        rw [e] at hle
        have : m * d * b ≤ c * b := by
          have e3 : m * b * d = m * d * b := by rw [Int.mul_assoc, Int.mul_comm b d, Int.mul_assoc]
          omega
        exact Int.le_of_mul_le_mul_right this hb
      have hcd : m * d < c := by
        -- a / b > m, c / d at least a / b
        have h1 : m * b + 1 ≤ a := by omega
        have h2 : (m * b + 1) * d ≤ a * d := Int.mul_le_mul_of_nonneg_right h1 (by omega)
        have h3 : m * d * b < c * b := by
          have e3 : (m * b + 1) * d = m * d * b + d := by rw [Int.add_mul, Int.mul_assoc, Int.mul_comm b d, ← Int.mul_assoc, Int.one_mul]
          omega
        exact Int.lt_of_mul_lt_mul_right h3 (by omega)
      have hp1 : 0 < a - m * b := by omega
      have hp2 : 0 < c - m * d := by omega
      cases hs : simp f d (c - m * d) b (a - m * b) with
      | none => rw [hs] at h; cases h
      | some xy =>
        obtain ⟨x, y⟩ := xy
        rw [hs] at h
        cases h
        have hle2 : d * (a - m * b) ≤ b * (c - m * d) := by
          rw [Int.mul_sub, Int.mul_sub]
          have e1 : d * (m * b) = b * (m * d) := by rw [Int.mul_left_comm, Int.mul_comm d b, Int.mul_left_comm b m d]
          have e2 : d * a = a * d := Int.mul_comm ..
          have e3 : b * c = c * b := Int.mul_comm ..
          omega
        have G := simp_good f d (c - m * d) b (a - m * b) hp2 hp1 hle2 (x, y) hs
        -- an inner fraction: y / x is between
        have tr : ∀ k n : Int, Inn a b c d k n ↔ Inn d (c - m * d) b (a - m * b) n (k - m * n) := fun k n => by
          unfold Inn
          have e1 : d * (k - m * n) = k * d - m * d * n := by rw [Int.mul_sub, Int.mul_comm d k, ← Int.mul_assoc, Int.mul_comm d m]
          have e2 : n * (c - m * d) = c * n - m * d * n := by rw [Int.mul_sub, Int.mul_comm n c, Int.mul_comm n (m * d)]
          have e3 : n * (a - m * b) = a * n - m * b * n := by rw [Int.mul_sub, Int.mul_comm n a, Int.mul_comm n (m * b)]
          have e4 : b * (k - m * n) = k * b - m * b * n := by rw [Int.mul_sub, Int.mul_comm b k, ← Int.mul_assoc, Int.mul_comm b m]
          rw [e1, e2, e3, e4]
          omega
        have hx1 : 1 ≤ x := by
          have h1 := G.inn.1
          have h2 := G.pos
          have h3 : d * 1 ≤ d * y := Int.mul_le_mul_of_nonneg_left h2 (by omega)
          by_cases h : 1 ≤ x
          · exact h
          · have h4 : x * (c - m * d) ≤ 0 := Int.mul_nonpos_of_nonpos_of_nonneg (by omega) (by omega)
            have h5 : d * y ≤ x * (c - m * d) := h1
            omega
        have back : ∀ k n : Int, 1 ≤ n → Inn a b c d k n → 1 ≤ k - m * n := fun k n hn hi => by
          have h1 := hi.1
          -- k * b at least a * n, above m * b * n
          have h2 : (m * b + 1) * n ≤ a * n := Int.mul_le_mul_of_nonneg_right (by omega) (by omega)
          have h3 : m * n * b < k * b := by
            have e3 : (m * b + 1) * n = m * n * b + n := by rw [Int.add_mul, Int.mul_assoc, Int.mul_comm b n, ← Int.mul_assoc, Int.one_mul]
            omega
          have := Int.lt_of_mul_lt_mul_right h3 (by omega)
          omega
        refine ⟨hx1, ?_, fun k' n' hn hi => ?_, fun ha k' n' hn hi => ?_⟩
        · refine (tr _ _).mpr ?_
          show Inn d (c - m * d) b (a - m * b) x (m * x + y - m * x)
          rw [show m * x + y - m * x = y by omega]
          exact G.inn
        · exact G.num hd _ _ (back k' n' hn hi) ((tr k' n').mp hi)
        · have h1 := G.num hd _ _ (back k' n' hn hi) ((tr k' n').mp hi)
          have h2 := G.den _ _ (back k' n' hn hi) ((tr k' n').mp hi)
          have hm0 : 0 ≤ m := by rw [← hm]; exact Int.ediv_nonneg (by omega) (by omega)
          have h3 : m * x ≤ m * n' := Int.mul_le_mul_of_nonneg_left h1 hm0
          show m * x + y ≤ k'
          have h4 : y ≤ k' - m * n' := h2
          omega
/-- it ends -/
theorem simp_ends : ∀ (f : Nat) (a b c d : Int), 0 < b → 0 < d → a * d ≤ c * b → b + d ≤ f → ∃ r, simp f a b c d = some r
  | 0, a, b, c, d, hb, hd, _, hf => by omega
  | f + 1, a, b, c, d, hb, hd, hle, hf => by
    unfold simp
    have hfl1 := Int.mul_ediv_self_le (x := a) (k := b) (by omega)
    have hfl2 := Int.lt_ediv_add_one_mul_self a hb
    by_cases cc : -((-a) / b) * d ≤ c
    · rw [if_pos cc]
      exact ⟨_, rfl⟩
    · rw [if_neg cc]
      generalize hm : a / b = m at hfl1 hfl2
      rw [Int.mul_comm] at hfl1
      rw [Int.add_mul, Int.one_mul] at hfl2
      have hnz : a - m * b ≠ 0 := fun z => by
        refine cc ?_
        have e : a = m * b := by omega
        have e2 : -((-a) / b) = m := by
          rw [e, ← Int.neg_mul, Int.mul_ediv_cancel _ (by omega)]
          omega
        rw [e2]
        rw [e] at hle
        have : m * d * b ≤ c * b := by
          have e3 : m * b * d = m * d * b := by rw [Int.mul_assoc, Int.mul_comm b d, Int.mul_assoc]
          omega
        exact Int.le_of_mul_le_mul_right this hb
      have hcd : m * d < c := by
        have h1 : m * b + 1 ≤ a := by omega
        have h2 : (m * b + 1) * d ≤ a * d := Int.mul_le_mul_of_nonneg_right h1 (by omega)
        have h3 : m * d * b < c * b := by
          have e3 : (m * b + 1) * d = m * d * b + d := by rw [Int.add_mul, Int.mul_assoc, Int.mul_comm b d, ← Int.mul_assoc, Int.one_mul]
          omega
        exact Int.lt_of_mul_lt_mul_right h3 (by omega)
      -- c / d is below m + 1, else the ceiling would do
      have hc2 : c < (m + 1) * d := by
        by_cases h : c < (m + 1) * d
        · exact h
        · refine absurd ?_ cc
          have : -((-a) / b) ≤ m + 1 := ceil_le hb (by rw [Int.add_mul, Int.one_mul]; omega)
          have h2 : -((-a) / b) * d ≤ (m + 1) * d := Int.mul_le_mul_of_nonneg_right this (by omega)
          omega
      rw [Int.add_mul, Int.one_mul] at hc2
      have hle2 : d * (a - m * b) ≤ b * (c - m * d) := by
        rw [Int.mul_sub, Int.mul_sub]
        have e1 : d * (m * b) = b * (m * d) := by rw [Int.mul_left_comm, Int.mul_comm d b, Int.mul_left_comm b m d]
        have e2 : d * a = a * d := Int.mul_comm ..
        have e3 : b * c = c * b := Int.mul_comm ..
        omega
      obtain ⟨r, hr⟩ := simp_ends f d (c - m * d) b (a - m * b) (by omega) (by omega) hle2 (by omega)
      rw [hr]
      exact ⟨_, rfl⟩
end My

namespace My
theorem ediv_scale {s a b : Int} (hs : 0 < s) : s * a / (s * b) = a / b := Int.mul_ediv_mul_of_pos a b hs
theorem simp_scale : ∀ (f : Nat) (a b c d s t : Int), 0 < s → 0 < t → simp f (s * a) (s * b) (t * c) (t * d) = simp f a b c d
  | 0, _, _, _, _, _, _, _, _ => rfl
  | f + 1, a, b, c, d, s, t, hs, ht => by
    unfold simp
    rw [← Int.mul_neg, ediv_scale hs, ediv_scale hs]
    have e1 : -((-a) / b) * (t * d) ≤ t * c ↔ -((-a) / b) * d ≤ c := by
      rw [Int.mul_left_comm]
      exact ⟨fun h => Int.le_of_mul_le_mul_left h ht, fun h => Int.mul_le_mul_of_nonneg_left h (by omega)⟩
    by_cases h : -((-a) / b) * d ≤ c
    · rw [if_pos h, if_pos (e1.mpr h)]
    · rw [if_neg h, if_neg (fun z => h (e1.mp z))]
      have e2 : t * c - a / b * (t * d) = t * (c - a / b * d) := by rw [Int.mul_left_comm, ← Int.mul_sub]
      have e3 : s * a - a / b * (s * b) = s * (a - a / b * b) := by rw [Int.mul_left_comm, ← Int.mul_sub]
      rw [e2, e3, simp_scale f _ _ _ _ t s ht hs]
/-- unlike at n -/
def Unl (a b c d n : Int) : Prop := a * n / b ≠ c * n / d
theorem Unl.symm {a b c d n : Int} (h : Unl a b c d n) : Unl c d a b n := fun z => h z.symm
theorem unl_iff {a b c d n : Int} (hb : 0 < b) (hd : 0 < d) (hlt : a * d < c * b) (hn : 1 ≤ n) : (Unl a b c d n ∨ Unl a b c d (-n)) ↔ ∃ k, Inn a b c d k n := by
  have hbd : ∀ x y : Int, x * d ≤ y * b → x / b ≤ y / d := fun x y h => by
    rw [Int.le_ediv_iff_mul_le hd]
    have h1 := Int.mul_ediv_self_le (x := x) (k := b) (by omega)
    have h2 : b * (x / b) * d ≤ x * d := Int.mul_le_mul_of_nonneg_right h1 (by omega)
    have h3 : x / b * d * b ≤ y * b := by
      have e : b * (x / b) * d = x / b * d * b := by rw [Int.mul_comm b, Int.mul_assoc, Int.mul_comm b d, ← Int.mul_assoc]
      omega
    exact Int.le_of_mul_le_mul_right h3 hb
  have hn2 : a * n * d ≤ c * n * b := by
    have h : a * d * n ≤ c * b * n := Int.mul_le_mul_of_nonneg_right (by omega) (by omega)
    have e1 : a * n * d = a * d * n := by rw [Int.mul_assoc, Int.mul_comm n d, Int.mul_assoc]
    have e2 : c * n * b = c * b * n := by rw [Int.mul_assoc, Int.mul_comm n b, Int.mul_assoc]
    omega
  constructor
  · rintro (h | h)
    · have h1 := hbd (a * n) (c * n) hn2
      have h2 : a * n / b < c * n / d := by have : a * n / b ≠ c * n / d := h; omega
      refine ⟨c * n / d, ?_, ?_⟩
      · have h3 := Int.lt_ediv_add_one_mul_self (a * n) hb
        have h4 : (a * n / b + 1) * b ≤ c * n / d * b := Int.mul_le_mul_of_nonneg_right (by omega) (by omega)
        omega
      · have := Int.mul_ediv_self_le (x := c * n) (k := d) (by omega)
        rw [Int.mul_comm] at this
        exact this
    · have h0 : a * -n / b ≠ c * -n / d := h
      rw [Int.mul_neg, Int.mul_neg] at h0
      have h1 : -(c * n) / d ≤ -(a * n) / b := by
        rw [Int.le_ediv_iff_mul_le hb]
        have g1 := Int.mul_ediv_self_le (x := -(c * n)) (k := d) (by omega)
        have g2 : d * (-(c * n) / d) * b ≤ -(c * n) * b := Int.mul_le_mul_of_nonneg_right g1 (by omega)
        have g3 : -(c * n) / d * b * d ≤ -(a * n) * d := by
          have e : d * (-(c * n) / d) * b = -(c * n) / d * b * d := by rw [Int.mul_comm d, Int.mul_assoc, Int.mul_comm d b, ← Int.mul_assoc]
          rw [Int.neg_mul] at g2
          rw [Int.neg_mul (a * n) d]
          omega
        exact Int.le_of_mul_le_mul_right g3 hd
      have h2 : -(c * n) / d < -(a * n) / b := by omega
      refine ⟨-(-(a * n) / b), ?_, ?_⟩
      · have := Int.mul_ediv_self_le (x := -(a * n)) (k := b) (by omega)
        rw [Int.mul_comm] at this
        rw [Int.neg_mul]
        omega
      · have h3 := Int.lt_ediv_add_one_mul_self (-(c * n)) hd
        have h4 : (-(c * n) / d + 1) * d ≤ -(a * n) / b * d := Int.mul_le_mul_of_nonneg_right (by omega) (by omega)
        rw [Int.neg_mul]
        omega
  · rintro ⟨k, h1, h2⟩
    by_cases e : k * b = a * n
    · right
      intro z
      have z' : a * -n / b = c * -n / d := z
      rw [Int.mul_neg, Int.mul_neg, ← e, ← Int.neg_mul, Int.mul_ediv_cancel _ (by omega)] at z'
      have g1 := Int.mul_ediv_self_le (x := -(c * n)) (k := d) (by omega)
      rw [← z', Int.mul_comm, Int.neg_mul] at g1
      -- k d at least c n, so equal: then a d = c b
      have g2 : k * d = c * n := by omega
      have g3 : a * d * n = c * b * n := by
        have e1 : a * d * n = a * n * d := by rw [Int.mul_assoc, Int.mul_comm d n, ← Int.mul_assoc]
        have e2 : c * b * n = c * n * b := by rw [Int.mul_assoc, Int.mul_comm b n, ← Int.mul_assoc]
        rw [e1, e2, ← e, ← g2, Int.mul_assoc, Int.mul_comm b d, ← Int.mul_assoc]
      have := Int.eq_of_mul_eq_mul_right (by omega) g3
      omega
    · left
      intro z
      have z' : a * n / b = c * n / d := z
      have g1 : k ≤ c * n / d := (Int.le_ediv_iff_mul_le hd).mpr h2
      have g2 := Int.mul_ediv_self_le (x := a * n) (k := b) (by omega)
      rw [z', Int.mul_comm] at g2
      have g3 : k * b ≤ c * n / d * b := Int.mul_le_mul_of_nonneg_right g1 (by omega)
      omega
/-- the least sample that parts two unlike quotients -/
def IsSample (a b c d x : Int) : Prop := ∃ m : Nat, 1 ≤ m ∧ (m : Int) ≤ b * d ∧ ((x = m ∧ Unl a b c d m) ∨ (x = -m ∧ ¬ Unl a b c d m ∧ Unl a b c d (-m))) ∧ ∀ n : Nat, 1 ≤ n → n < m → ¬ Unl a b c d n ∧ ¬ Unl a b c d (-n)
end My

namespace My
open PySem PySem.Spec PyProof.Rows L2 Pre
section
variable {P : Program} {w : World} {K : PySem.W.Frag} {mg : Str → Option Value} {base : Heap}
/-! ### the guesser's own words -/
def sp_Guesser_weights (C : Addr) : Sp := fun vs H Q _ => ∃ (a : Addr) (ws : List Int) (sh : Nat), vs = [.ref a] ∧ GuesserAt C H a ws sh ∧ ∀ p H', H p = none → Same H H' → H' p = some (.lst (ws.map V.int)) → Q (.ref p) H'
theorem G_Guesser_weights (T : Top K mg) : FnOk P w K mg base CX0 1 T.f_Guesser_weights T.fd_Guesser_weights ["self"] (sp_Guesser_weights T.C_Guesser) := by
  refine T.F_Guesser_weights.ok sc_Guesser_weights (fun vs H Q E h => by obtain ⟨a, ws, sh, rfl, _⟩ := h; rfl) (fun cdv A outer s H vs Q E hr h => ?_)
  obtain ⟨a, ws, sh, rfl, hG, q⟩ := h
  refine ⟨_, PSs.nox (pss_one (ps_ret (pe_callTy (k_listOf K rfl) (by rfl) T.n_list (by decide +kernel) (pa_cons (pe_fld (pv 0) rfl) pa_nil)))), ?_⟩
  obtain ⟨hW, _, dx, p, ha, hp⟩ := id hG
  refine ⟨_, rfl, a, T.C_Guesser, dx, _, _, rfl, ha, T.cl_Guesser, T.na_Guesser_parts, rfl, p, _, rfl, .inl (.inl (.inl hp)), fun l nl => ?_⟩
  exact q l _ nl (same_upd nl) upd_same
def sp_Guesser_shift (C : Addr) : Sp := fun vs H Q _ => ∃ (a : Addr) (ws : List Int) (sh : Nat), vs = [.ref a] ∧ GuesserAt C H a ws sh ∧ Q (.int sh) H
theorem G_Guesser_shift (T : Top K mg) : FnOk P w K mg base CX0 1 T.f_Guesser_shift T.fd_Guesser_shift ["self"] (sp_Guesser_shift T.C_Guesser) := by
  refine T.F_Guesser_shift.ok sc_Guesser_shift (fun vs H Q E h => by obtain ⟨a, ws, sh, rfl, _⟩ := h; rfl) (fun cdv A outer s H vs Q E hr h => ?_)
  obtain ⟨a, ws, sh, rfl, hG, q⟩ := h
  refine ⟨_, PSs.nox (pss_one (ps_ret (pe_fld (pv 0) rfl))), ?_⟩
  obtain ⟨hW, _, dx, p, ha, hp⟩ := id hG
  exact ⟨_, rfl, a, T.C_Guesser, dx, _, _, rfl, ha, T.cl_Guesser, T.na_Guesser_down, rfl, q⟩
def sp_Guesser_order (C : Addr) : Sp := fun vs H Q _ => ∃ (a : Addr) (ws : List Int) (sh : Nat), vs = [.ref a] ∧ GuesserAt C H a ws sh ∧ Q (.int ws.length) H
/-- == of two guessers, or of a guesser and a list -/
def sp_Guesser___eq__ (C : Addr) (K : PySem.W.Frag) : Sp := fun vs H Q _ => ∃ (a b : Addr) (ws : List Int) (sh : Nat) (c : Bool), vs = [.ref a, .ref b] ∧ GuesserAt C H a ws sh ∧
  ((∃ (us : List Int) (th : Nat), GuesserAt C H b us th ∧ c = decide (ws = us ∧ sh = th)) ∨ (c = false ∧ ∃ xs, Rd H b (.lst xs))) ∧ Q (.bl c) H
theorem G_Guesser___eq__ (T : Top K mg) : FnOk P w K mg base CX0 1 T.f_Guesser___eq__ T.fd_Guesser___eq__ ["self", "other"] (sp_Guesser___eq__ T.C_Guesser K) := by
  refine T.F_Guesser___eq__.ok sc_Guesser___eq__ (fun vs H Q E h => by obtain ⟨a, b, ws, sh, c, rfl, _⟩ := h; rfl) (fun cdv A outer s H vs Q E hr h => ?_)
  obtain ⟨a, b, ws, sh, c, rfl, hG, hb, q⟩ := h
  refine ⟨_, PSs.nox (pss_cons (ps_if (pt_not (pt_val (pe_callB (k_isi K rfl) (by rfl) T.n_isinstance (by decide +kernel) (pa_cons (pv 1) (pa_cons (pe_glob (v := .ref T.C_Guesser) rfl T.gc_Guesser rfl) pa_nil)))))
    (pss_one (ps_ret pe_bl))
    pss_nil)
  (pss_one (ps_ret (pe_and (pe_cmpR (k_eqD K rfl hr.units) (pe_fld (pv 0) rfl) (pe_fld (pv 1) rfl) (nomark _)) (pe_one (pe_cmpR op_eq (pe_fld (pv 0) rfl) (pe_fld (pv 1) rfl) (nomark _))))))), ?_⟩
  obtain ⟨hW, _, dx, p, ha, hp⟩ := id hG
  rcases hb with ⟨us, th, hB, rfl⟩ | ⟨rfl, xs, hB⟩
  · obtain ⟨hW2, _, dy, p2, hb, hp2⟩ := id hB
    refine ⟨_, rfl, _, _, _, _, true, rfl, .own _, tyx_ins T.ic_Guesser hb, T.ic_Guesser.me, true, rfl, iteF ?_⟩
    refine ⟨_, rfl, a, T.C_Guesser, dx, _, _, rfl, ha, T.cl_Guesser, T.na_Guesser_parts, rfl, _, rfl, b, T.C_Guesser, dy, _, _, rfl, hb, T.cl_Guesser, T.na_Guesser_parts, rfl, ?_⟩
    refine eqD_lst (.inl (.inl hp)) (.inl (.inl hp2)) ⟨_, rfl, ?_⟩
    by_cases h : ws = us
    · rw [decide_eq_true h]
      refine iteT ⟨_, rfl, a, T.C_Guesser, dx, _, _, rfl, ha, T.cl_Guesser, T.na_Guesser_down, rfl, _, rfl, b, T.C_Guesser, dy, _, _, rfl, hb, T.cl_Guesser, T.na_Guesser_down, rfl, rfl, ?_⟩
      by_cases h2 : sh = th
      · rw [decide_eq_true (show V.int (sh : Int) = V.int th by rw [h2])]
        rw [decide_eq_true ⟨h, h2⟩] at q
        exact q
      · rw [decide_eq_false (show ¬ V.int (sh : Int) = V.int th from fun z => h2 (by have := V.int.inj z; omega))]
        rw [decide_eq_false (fun z => h2 z.2)] at q
        exact q
    · rw [decide_eq_false h]
      rw [decide_eq_false (fun z => h z.1)] at q
      exact iteF q
  · exact ⟨_, rfl, _, _, _, _, false, rfl, .own _, rd_list hB, T.ec_Guesser.ki, false, rfl, iteT q⟩
/-! ### are_wholes, guess, plain_rests -/
def sp_are_wholes (K : PySem.W.Frag) : Sp := fun vs H Q _ => ∃ (a : Addr) (ns : List Int), vs = [.ref a] ∧ Rd H a (.lst (ns.map V.int)) ∧ ns.length ≤ 1000 ∧ ∀ H', Same H H' → Q (.bl true) H'
theorem G_are_wholes (T : Top K mg) : FnOk P w K mg base CX0 2 T.f_are_wholes T.fd_are_wholes ["value"] (sp_are_wholes K) := by
  refine T.F_are_wholes.ok sc_are_wholes (fun vs H Q E h => by obtain ⟨a, ns, rfl, _⟩ := h; rfl) (fun cdv A outer s H vs Q E hr h => ?_)
  obtain ⟨a, ns, rfl, hA, hl, q⟩ := h
  refine ⟨_, PSs.nox (pss_one (ps_ret (pe_and (pe_callB (k_isi K rfl) (by rfl) T.n_isinstance (by decide +kernel) (pa_cons (pv 0) (pa_cons (pe_bltn (v := .ty "list") (by rfl) T.n_list (by decide +kernel) rfl) pa_nil))) (pe_one (pe_cmpR (k_eqD K rfl hr.units) (pe_lc (own := [("item", 1)]) (g := gName 1) (by rfl) sc_are_wholes.nd (k_piL K rfl (pv 0)) (blkOk_by (own := [("item", 1)]) (N := N_are_wholes) (sc := defScope s_are_wholes) (by decide +kernel)) (fun _ _ _ _ _ => (pg_name (i := 1) sc_are_wholes.nd rfl (by first | exact Or.inl rfl | exact Or.inr rfl))) (fun _ _ _ _ _ => (pts_one (pt_not (pt_val (pe_call (G_is_whole T) (hr.mono (by decide)) (by rfl) T.g_is_whole T.F_is_whole.kp T.b_is_whole .nil pass0 (pa_cons (pv 1) pa_nil)))))) (fun _ _ _ _ _ => (pv 1))) (pe_lst pa_nil) (nomark _)))))), ?_⟩
  have hS : SqL K H a (ns.map V.int) := .inl hA
  refine ⟨_, rfl, _, _, _, _, true, rfl, .ty _, rd_list hA, kit_ty (by decide +kernel), true, rfl, iteT ?_⟩
  refine ⟨_, rfl, a, rfl, ⟨_, hS⟩, fun D nD => ?_⟩
  refine lc_selL (K := K) (xs := ns.map V.int) (ns.map fun _ => none) nD hS (by rw [List.length_map, List.length_map]) (small_row hl) (fun x => rfl) ?_ ?_
  · intro i x o H' hx ho s Qt qt
    obtain ⟨n, hn, rfl⟩ := int_at hx
    rw [List.getElem?_map, hn] at ho
    cases ho
    exact ⟨_, rfl, n, rfl, true, rfl, iteF (qt _ (Same.refl _))⟩
  · intro H' s hD
    rw [fm_none] at hD
    refine ⟨Nat.zero_le _, fun p np => ?_⟩
    refine eq_lst (ns := []) (.inl (.inl (same_upd np _ _ hD))) (.inl (.inl upd_same)) ?_
    exact q _ (s.trans (same_upd np))
def sp_guess (C : Addr) (K : PySem.W.Frag) : Sp := fun vs H Q _ => ∃ (a b : Addr) (ws : List Int) (sh : Nat) (bs : List Int), vs = [.ref a, .ref b] ∧ GuesserAt C H a ws sh ∧ Rd H b (.lst (bs.map V.int)) ∧ bs.length ≤ 1000 ∧ ws.length ≤ bs.length ∧ ∀ H', Same H H' → Q (.int (guessF ws sh bs)) H'
theorem G_guess (T : Top K mg) : FnOk P w K mg base CX0 3 T.f_guess T.fd_guess ["guesser", "before"] (sp_guess T.C_Guesser K) := by
  refine T.F_guess.ok sc_guess (fun vs H Q E h => by obtain ⟨a, b, ws, sh, bs, rfl, _⟩ := h; rfl) (fun cdv A outer s H vs Q E hr h => ?_)
  obtain ⟨a, b, ws, sh, bs, rfl, hG, hB, hl, hw, q⟩ := h
  refine ⟨_, PSs.nox (pss_cons (ps_expr (pe_call (G_check_guesser T) (hr.mono (by decide)) (by rfl) T.g_check_guesser T.F_check_guesser.kp T.b_check_guesser .nil pass0 (pa_cons (pv 0) pa_nil)))
  (pss_cons (ps_if (PW.pt (pw_or (pt_not (pt_val (pe_call (G_are_wholes T) (hr.mono (by decide)) (by rfl) T.g_are_wholes T.F_are_wholes.kp T.b_are_wholes .nil pass0 (pa_cons (pv 1) pa_nil)))) (pw_or1 (pt_cmpR op_lt (pe_callB (k_len K rfl) (by rfl) T.n_len (by decide +kernel) (pa_cons (pv 1) pa_nil)) (pe_callB (k_len K rfl) (by rfl) T.n_len (by decide +kernel) (pa_cons (pe_fld (pv 0) rfl) pa_nil)) (nomark _)))))
    (pss_one ps_never)
    pss_nil)
  (pss_one (ps_ret (pe_call (G_guess_behind T) (hr.mono (by decide)) (by rfl) T.g_guess_behind T.F_guess_behind.kp T.b_guess_behind .nil pass0 (pa_cons (pv 0) (pa_cons (pv 1) pa_nil))))))), ?_⟩
  obtain ⟨hW, _, dx, p, ha, hp⟩ := id hG
  refine ⟨_, rfl, a, ws, sh, rfl, hG, ?_⟩
  refine ⟨_, rfl, b, bs, rfl, hB, hl, fun H1 s1 => ⟨true, rfl, iteF ?_⟩⟩
  have hB1 : SqL K H1 b (bs.map V.int) := s1.seq (.inl hB)
  refine ⟨_, rfl, b, _, rfl, .inl hB1, _, rfl, a, T.C_Guesser, dx, _, _, rfl, s1 _ _ ha, T.cl_Guesser, T.na_Guesser_parts, rfl, p, _, rfl, .inl (.inl (.inl (s1 _ _ hp))), _, _, rfl, rfl, _, rfl, ?_⟩
  rw [List.length_map, List.length_map, decide_eq_false (show ¬ (bs.length : Int) < ws.length by omega)]
  refine iteF ⟨_, rfl, _, rfl, a, b, ws, sh, bs, rfl, hG.same s1, hB1, hw, fun H2 s2 => q _ (s1.trans s2)⟩
def sp_plain_rests (C : Addr) (K : PySem.W.Frag) : Sp := fun vs H Q _ => ∃ (a b : Addr) (ws : List Int) (sh : Nat) (row : List Int), vs = [.ref a, .ref b] ∧ GuesserAt C H a ws sh ∧ Rd H b (.lst (row.map V.int)) ∧ row.length ≤ 1000 ∧
  ∀ H' p, Same H H' → H p = none → H' p = some (.lst ((toldR ws sh row).map V.int)) → Q (.ref p) H'
end
end My

namespace My
open PySem PySem.Spec PyProof.Rows L2 Pre
/-- all quotients are alike -/
def Alike (ws : List Int) (sh : Nat) (us : List Int) (th : Nat) : Prop := ∀ i, i < max ws.length us.length → ws.getD i 0 * 2 ^ th = us.getD i 0 * 2 ^ sh
instance (ws : List Int) (sh : Nat) (us : List Int) (th : Nat) : Decidable (Alike ws sh us th) := by unfold Alike; infer_instance
def unlL (ws : List Int) (sh : Nat) (us : List Int) (th : Nat) : List Nat := (List.range (max ws.length us.length)).filter fun i => decide (lowF (ws.getD i 0) (2 ^ sh) ≠ lowF (us.getD i 0) (2 ^ th))
theorem unlL_nil (ws : List Int) (sh : Nat) (us : List Int) (th : Nat) : unlL ws sh us th = [] ↔ Alike ws sh us th := by
  unfold unlL Alike
  rw [List.filter_eq_nil_iff]
  constructor
  · intro h i hi
    have := h i (List.mem_range.mpr hi)
    simp only [decide_eq_true_eq, Classical.not_not] at this
    exact (lowF_eq (pow_pos' sh) (pow_pos' th)).mp this
  · intro h i hi
    have := (lowF_eq (pow_pos' sh) (pow_pos' th)).mpr (h i (List.mem_range.mp hi))
    rw [decide_eq_false (fun z => z this)]
    decide
theorem sel_nats (L : List Nat) (p : Nat → Prop) [DecidablePred p] : (L.map fun i => if p i then some (V.int (i : Nat)) else none).filterMap id = ((L.filter fun i => decide (p i)).map fun (i : Nat) => (i : Int)).map V.int := by
  induction L with
  | nil => rfl
  | cons n L ih =>
    by_cases c : p n
    · rw [List.map_cons, if_pos c, List.filter_cons_of_pos (by simpa using c)]
      show V.int n :: _ = V.int n :: _
      rw [ih]
    · rw [List.map_cons, if_neg c, List.filterMap_cons_none rfl, List.filter_cons_of_neg (by simpa using c), ih]
local macro_rules | `(tactic| walk_at "go") => `(tactic| repeat (first | (with_reducible first | refine iteT ?_ | refine iteF ?_ | refine iteNtt ?_ | refine iteNff ?_ | refine iteET (by omega) ?_ | refine iteEF (by omega) ?_ | refine iteENT (by omega) ?_ | refine iteENF (by omega) ?_ | refine iteDT (by omega) ?_ | refine iteDF (by omega) ?_ | refine iteNT (by omega) ?_ | refine iteNF (by omega) ?_) | refine ⟨_, rfl, ?_⟩ | refine ⟨_, _, rfl, rfl, ?_⟩ | refine ⟨_, _, rfl, ?_⟩ | refine ⟨rfl, ?_⟩ | refine .inl ⟨_, rfl, ?_⟩ | refine .inr ⟨_, rfl, ?_⟩))
local macro_rules | `(tactic| walk_at "b") => `(tactic| try dsimp (config := { proj := false, iota := false, eta := false, zeta := false }) only)
section
variable {P : Program} {w : World} {K : PySem.W.Frag} {mg : Str → Option Value} {base : Heap}
def sp_quotient (C : Addr) : Sp := fun vs H Q _ => ∃ (a : Addr) (ws : List Int) (sh i : Nat), vs = [.ref a, .int i] ∧ GuesserAt C H a ws sh ∧ ∀ H' p, Same H H' → H p = none → H' p = some (.tup ([(lowF (ws.getD i 0) (2 ^ sh)).1, (lowF (ws.getD i 0) (2 ^ sh)).2].map V.int)) → Q (.ref p) H'
theorem G_quotient (T : Top K mg) : FnOk P w K mg base CX0 3 T.f_quotient T.fd_quotient ["guesser", "number"] (sp_quotient T.C_Guesser) := by
  refine T.F_quotient.ok sc_quotient (fun vs H Q E h => by obtain ⟨a, ws, sh, i, rfl, _⟩ := h; rfl) (fun cdv A outer s H vs Q E hr h => ?_)
  obtain ⟨a, ws, sh, i, rfl, hA, q⟩ := h
  refine ⟨_, PSs.nox (pss_cons (ps_set (i := 2) sc_quotient.nd rfl (by first | exact Or.inl rfl | exact Or.inr rfl) (pe_ifExp (pt_cmpR op_lt (pv 1) (pe_callB (k_len K rfl) (by rfl) T.n_len (by decide +kernel) (pa_cons (pe_fld (pv 0) rfl) pa_nil)) (nomark _)) (pe_ix (k_ixL K rfl) (pe_fld (pv 0) rfl) (pv 1) (fun _ _ => rfl)) pe_int))
  (pss_one (ps_ret (pe_call (G_fraction T) (hr.mono (by decide)) (by rfl) T.g_fraction T.F_fraction.kp T.b_fraction .nil pass0 (pa_cons (pv 2) (pa_cons (pe_op op_shl pe_int (pe_fld (pv 0) rfl)) pa_nil)))))), ?_⟩
  obtain ⟨hW, hsh, dx, p, ha, hp⟩ := id hA
  have hp1 := pow_pos' sh
  have hp2 : (2 : Int) ^ sh ≤ 2 ^ 15 := pow2_le hsh
  walk_at "go"
  refine ⟨a, T.C_Guesser, dx, _, _, rfl, ha, T.cl_Guesser, T.na_Guesser_parts, rfl, ?_⟩
  walk_at "go"
  refine ⟨p, _, rfl, .inl (.inl (.inl hp)), ?_⟩
  rw [List.length_map]
  refine ⟨_, _, rfl, rfl, _, rfl, ?_⟩
  have fin : ∀ (x : Int), x = ws.getD i 0 → ∀ H', Same H H' → ∀ E', sp_fraction [.int x, .int (2 ^ sh)] H' Q E' := fun x ex H' s E' => ⟨x, 2 ^ sh, rfl, hp1, by omega, fun H2 p2 s2 np2 h2 => q _ p2 (s.trans s2) (s.free np2) (by rw [← ex]; exact h2)⟩
  by_cases c : i < ws.length
  · refine iteDT (by omega) ?_
    walk_at "go"
    refine ⟨a, T.C_Guesser, dx, _, _, rfl, ha, T.cl_Guesser, T.na_Guesser_parts, rfl, ?_⟩
    walk_at "go"
    refine ⟨p, _, _, _, rfl, rfl, .inl (.inl hp), at_of (v := .int (ws.getD i 0)) (j := i) (by omega) (by rw [List.getElem?_map, List.getD_eq_getElem?_getD, List.getElem?_eq_getElem c]; rfl), ?_⟩
    walk_at "go"
    refine ⟨a, T.C_Guesser, dx, _, _, rfl, ha, T.cl_Guesser, T.na_Guesser_down, rfl, ?_⟩
    walk_at "go"
    refine ⟨⟨by omega, by omega, by decide⟩, ?_⟩
    walk_at "b"
    rw [Int.toNat_natCast, Int.one_mul]
    exact fin _ rfl _ (Same.refl _) E0
  · refine iteDF (by omega) ?_
    walk_at "go"
    refine ⟨a, T.C_Guesser, dx, _, _, rfl, ha, T.cl_Guesser, T.na_Guesser_down, rfl, ?_⟩
    walk_at "go"
    refine ⟨⟨by omega, by omega, by decide⟩, ?_⟩
    walk_at "b"
    rw [Int.toNat_natCast, Int.one_mul]
    exact fin _ (by rw [List.getD_eq_getElem?_getD, List.getElem?_eq_none (by omega)]; rfl) _ (Same.refl _) E0
def sp_same_guess (C : Addr) : Sp := fun vs H Q _ => ∃ (a b : Addr) (ws : List Int) (sh : Nat) (us : List Int) (th : Nat), vs = [.ref a, .ref b] ∧ GuesserAt C H a ws sh ∧ GuesserAt C H b us th ∧ ∀ H', Same H H' → Q (.bl (decide (Alike ws sh us th))) H'
theorem G_same_guess (T : Top K mg) : FnOk P w K mg base CX0 4 T.f_same_guess T.fd_same_guess ["one", "other"] (sp_same_guess T.C_Guesser) := by
  refine T.F_same_guess.ok sc_same_guess (fun vs H Q E h => by obtain ⟨a, b, ws, sh, us, th, rfl, _⟩ := h; rfl) (fun cdv A outer s H vs Q E hr h => ?_)
  obtain ⟨a, b, ws, sh, us, th, rfl, hA, hB, q⟩ := h
  refine ⟨_, PSs.nox (pss_cons (ps_expr (pe_call (G_check_guesser T) (hr.mono (by decide)) (by rfl) T.g_check_guesser T.F_check_guesser.kp T.b_check_guesser .nil pass0 (pa_cons (pv 0) pa_nil)))
  (pss_cons (ps_expr (pe_call (G_check_guesser T) (hr.mono (by decide)) (by rfl) T.g_check_guesser T.F_check_guesser.kp T.b_check_guesser .nil pass0 (pa_cons (pv 1) pa_nil)))
  (pss_cons (ps_set (i := 2) sc_same_guess.nd rfl (by first | exact Or.inl rfl | exact Or.inr rfl) (pe_callB (call_max2 rfl) (by rfl) T.n_max (by decide +kernel) (pa_cons (pe_callB (k_len K rfl) (by rfl) T.n_len (by decide +kernel) (pa_cons (pe_fld (pv 0) rfl) pa_nil)) (pa_cons (pe_callB (k_len K rfl) (by rfl) T.n_len (by decide +kernel) (pa_cons (pe_fld (pv 1) rfl) pa_nil)) pa_nil))))
  (pss_one (ps_ret (pe_cmpR (k_eqD K rfl hr.units) (pe_lc (own := [("number", 3)]) (g := gName 3) (by rfl) sc_same_guess.nd (pi_range1 (by rfl) T.n_range (pa_cons (pv 2) pa_nil)) (blkOk_by (own := [("number", 3)]) (N := N_same_guess) (sc := defScope s_same_guess) (by decide +kernel)) (fun _ _ _ _ _ => (pg_name (i := 3) sc_same_guess.nd rfl (by first | exact Or.inl rfl | exact Or.inr rfl))) (fun _ _ _ _ _ => (pts_one (pt_cmpR (k_neD K rfl hr.units) (pe_call (G_quotient T) (hr.mono (by decide)) (by rfl) T.g_quotient T.F_quotient.kp T.b_quotient .nil pass0 (pa_cons (pv 0) (pa_cons (pv 3) pa_nil))) (pe_call (G_quotient T) (hr.mono (by decide)) (by rfl) T.g_quotient T.F_quotient.kp T.b_quotient .nil pass0 (pa_cons (pv 1) (pa_cons (pv 3) pa_nil))) (nomark _)))) (fun _ _ _ _ _ => (pv 3))) (pe_lst pa_nil) (nomark _))))))), ?_⟩
  obtain ⟨hW, hsh, dx, p, ha, hp⟩ := id hA
  obtain ⟨hW2, hth, dy, p2, hb, hp2⟩ := id hB
  walk_at "go"
  refine ⟨a, ws, sh, rfl, hA, ?_⟩
  walk_at "go"
  refine ⟨b, us, th, rfl, hB, ?_⟩
  walk_at "go"
  refine ⟨a, T.C_Guesser, dx, _, _, rfl, ha, T.cl_Guesser, T.na_Guesser_parts, rfl, ?_⟩
  walk_at "go"
  refine ⟨p, _, rfl, .inl (.inl (.inl hp)), ?_⟩
  walk_at "go"
  refine ⟨b, T.C_Guesser, dy, _, _, rfl, hb, T.cl_Guesser, T.na_Guesser_parts, rfl, ?_⟩
  walk_at "go"
  refine ⟨p2, _, rfl, .inl (.inl (.inl hp2)), ?_⟩
  rw [List.length_map, List.length_map]
  walk_at "go"
  have hl1 := hW.1
  have hl2 := hW2.1
  have em : (if ((us.length : Nat) : Int) > ((ws.length : Nat) : Int) then ((us.length : Nat) : Int) else ((ws.length : Nat) : Int)) = ((max ws.length us.length : Nat) : Int) := by
    by_cases c : ((us.length : Nat) : Int) > ((ws.length : Nat) : Int)
    · rw [if_pos c]; omega
    · rw [if_neg c]; omega
  rw [em]
  refine ⟨by omega, by omega, fun D nD => ?_⟩
  rw [Int.toNat_natCast]
  refine lc_selR (lo := 0) (n := max ws.length us.length) ((List.range (max ws.length us.length)).map fun i => if lowF (ws.getD i 0) (2 ^ sh) ≠ lowF (us.getD i 0) (2 ^ th) then some (V.int (i : Nat)) else none) nD (by rw [List.length_map, List.length_range]) (small1000 (by omega)) (fun x => rfl) ?_ ?_
  · intro i o H' hi ho s Qt qt
    rw [List.getElem?_map, List.getElem?_range hi] at ho
    cases ho
    dsimp only at qt
    rw [show (0 : Int) + (i : Int) = i by omega]
    walk_at "go"
    refine ⟨a, ws, sh, i, rfl, hA.same s, fun H2 q2 s2 nq2 h2 => ?_⟩
    walk_at "go"
    refine ⟨b, us, th, i, rfl, (hB.same s).same s2, fun H3 q3 s3 nq3 h3 => ?_⟩
    generalize lowF (ws.getD i 0) (2 ^ sh) = x at *
    generalize lowF (us.getD i 0) (2 ^ th) = y at *
    refine ⟨.tuple ([x.1, x.2].map PyData.int), .tuple ([y.1, y.2].map PyData.int), .tup (.inl (.inl (s3 _ _ h2))) (Pre.dp_ints _), .tup (.inl (.inl h3)) (Pre.dp_ints _), shaped_tup _, shaped_tup _, ?_⟩
    rw [PyData.eqv, eqv_ints]
    have ee : ([x.1, x.2] : List Int) = [y.1, y.2] ↔ x = y := by
      constructor
      · intro z; injection z with z1 z2; injection z2 with z2 _; exact Prod.ext z1 z2
      · intro z; rw [z]
    refine ⟨_, rfl, ?_⟩
    by_cases c : x = y
    · rw [if_neg (fun z => z c)] at qt
      refine iteNF (ee.mpr c) ?_
      exact qt _ (s2.trans s3)
    · rw [if_pos c] at qt
      refine iteNT (fun z => c (ee.mp z)) ?_
      walk_at "go"
      exact qt _ (s2.trans s3)
  · intro H2 s2 hD
    rw [sel_nats] at hD
    refine ⟨Nat.zero_le _, fun p5 np5 => ?_⟩
    obtain ⟨H5, e5, s5, h5⟩ := fresh (.lst (([] : List Int).map V.int)) np5
    have e5' : upd H2 p5 (.lst []) = H5 := e5
    rw [e5']
    refine eqD_lst (ns := (unlL ws sh us th).map fun (i : Nat) => (i : Int)) (ms := []) (.inl (.inl (s5 _ _ hD))) (.inl (.inl h5)) ?_
    have e : decide ((unlL ws sh us th).map (fun (i : Nat) => (i : Int)) = []) = decide (Alike ws sh us th) := decide_eq_decide.mpr (by rw [List.map_eq_nil_iff, unlL_nil])
    rw [e]
    exact q _ (s2.trans s5)
end
end My

namespace My
open PySem PySem.Spec PyProof.Rows L2 Pre
local macro_rules | `(tactic| walk_at "go") => `(tactic| repeat (first | (with_reducible first | refine iteT ?_ | refine iteF ?_ | refine iteNtt ?_ | refine iteNff ?_ | refine iteET (by omega) ?_ | refine iteEF (by omega) ?_ | refine iteENT (by omega) ?_ | refine iteENF (by omega) ?_ | refine iteDT (by omega) ?_ | refine iteDF (by omega) ?_ | refine iteNT (by omega) ?_ | refine iteNF (by omega) ?_) | refine ⟨_, rfl, ?_⟩ | refine ⟨_, _, rfl, rfl, ?_⟩ | refine ⟨_, _, rfl, ?_⟩ | refine ⟨rfl, ?_⟩ | refine .inl ⟨_, rfl, ?_⟩ | refine .inr ⟨_, rfl, ?_⟩))
local macro_rules | `(tactic| walk_at "b") => `(tactic| try dsimp (config := { proj := false, iota := false, eta := false, zeta := false }) only)
theorem simp_low (f : Nat) (a b c d : Int) (hb : 0 < b) (hd : 0 < d) : simp f (lowF a b).1 (lowF a b).2 (lowF c d).1 (lowF c d).2 = simp f a b c d := by
  obtain ⟨g, hg, e1, e2, _⟩ := lowF_ok (t := a) hb
  obtain ⟨g', hg', e1', e2', _⟩ := lowF_ok (t := c) hd
  have := simp_scale f (lowF a b).1 (lowF a b).2 (lowF c d).1 (lowF c d).2 g g' hg hg'
  rw [← e1, ← e2, ← e1', ← e2'] at this
  exact this.symm
theorem lowF_le {t u : Int} (hu : 0 < u) : (lowF t u).2 ≤ u := by
  obtain ⟨g, hg, _, e2, h⟩ := lowF_ok (t := t) hu
  have : 1 * (lowF t u).2 ≤ g * (lowF t u).2 := Int.mul_le_mul_of_nonneg_right (by omega) (by omega)
  omega
theorem low_cross {t u t' u' : Int} (hu : 0 < u) (hu' : 0 < u') (h : t * u' ≤ t' * u) : (lowF t u).1 * (lowF t' u').2 ≤ (lowF t' u').1 * (lowF t u).2 := by
  obtain ⟨g, hg, e1, e2, _⟩ := lowF_ok (t := t) hu
  obtain ⟨g', hg', e1', e2', _⟩ := lowF_ok (t := t') hu'
  generalize (lowF t u).1 = x at *
  generalize (lowF t u).2 = y at *
  generalize (lowF t' u').1 = x' at *
  generalize (lowF t' u').2 = y' at *
  rw [e1, e2, e1', e2'] at h
  have h2 : g * g' * (x * y') ≤ g * g' * (x' * y) := by
    have a1 : g * x * (g' * y') = g * g' * (x * y') := by rw [Int.mul_assoc, Int.mul_left_comm x g' y', ← Int.mul_assoc]
    have a2 : g' * x' * (g * y) = g * g' * (x' * y) := by rw [Int.mul_assoc, Int.mul_left_comm x' g y, ← Int.mul_assoc, Int.mul_comm g' g]
    omega
  exact Int.le_of_mul_le_mul_left h2 (Int.mul_pos hg hg')
theorem step_facts {a b c d : Int} (hb : 0 < b) (hd : 0 < d) (hle : a * d ≤ c * b) (cc : ¬ -((-a) / b) * d ≤ c) : 0 < a - a / b * b ∧ a - a / b * b < b ∧ 0 < c - a / b * d ∧ c - a / b * d < d ∧ d * (a - a / b * b) ≤ b * (c - a / b * d) := by
  have hfl1 := Int.mul_ediv_self_le (x := a) (k := b) (by omega)
  have hfl2 := Int.lt_ediv_add_one_mul_self a hb
  generalize hm : a / b = m at *
  rw [Int.mul_comm] at hfl1
  rw [Int.add_mul, Int.one_mul] at hfl2
  have hnz : a - m * b ≠ 0 := fun z => by
    refine cc ?_
    have e : a = m * b := by omega
    have e2 : -((-a) / b) = m := by
      rw [e, ← Int.neg_mul, Int.mul_ediv_cancel _ (by omega)]
      omega
    rw [e2]
    rw [e] at hle
    have : m * d * b ≤ c * b := by
      have e3 : m * b * d = m * d * b := by rw [Int.mul_assoc, Int.mul_comm b d, Int.mul_assoc]
      omega
    exact Int.le_of_mul_le_mul_right this hb
  have hcd : m * d < c := by
    have h1 : m * b + 1 ≤ a := by omega
    have h2 : (m * b + 1) * d ≤ a * d := Int.mul_le_mul_of_nonneg_right h1 (by omega)
    have h3 : m * d * b < c * b := by
      have e3 : (m * b + 1) * d = m * d * b + d := by rw [Int.add_mul, Int.mul_assoc, Int.mul_comm b d, ← Int.mul_assoc, Int.one_mul]
      omega
    exact Int.lt_of_mul_lt_mul_right h3 (by omega)
  have hc2 : c < (m + 1) * d := by
    by_cases h : c < (m + 1) * d
    · exact h
    · refine absurd ?_ cc
      have : -((-a) / b) ≤ m + 1 := ceil_le hb (by rw [Int.add_mul, Int.one_mul]; omega)
      have h2 : -((-a) / b) * d ≤ (m + 1) * d := Int.mul_le_mul_of_nonneg_right this (by omega)
      omega
  rw [Int.add_mul, Int.one_mul] at hc2
  refine ⟨by omega, by omega, by omega, by omega, ?_⟩
  rw [Int.mul_sub, Int.mul_sub]
  have e1 : d * (m * b) = b * (m * d) := by rw [Int.mul_left_comm, Int.mul_comm d b, Int.mul_left_comm b m d]
  have e2 : d * a = a * d := Int.mul_comm ..
  have e3 : b * c = c * b := Int.mul_comm ..
  omega
section
variable {P : Program} {w : World} {K : PySem.W.Frag} {mg : Str → Option Value} {base : Heap}
def sp_simp (k : Nat) : Sp := fun vs H Q _ => ∃ (pl ph : Addr) (a b c d : Int) (f : Nat) (r : Int × Int), vs = [.ref pl, .ref ph] ∧ H pl = some (.tup [.int a, .int b]) ∧ H ph = some (.tup [.int c, .int d]) ∧ f ≤ k ∧ simp f a b c d = some r ∧ a * d ≤ c * b ∧ 0 < b ∧ b < 2 ^ 20 ∧ 0 < d ∧ d < 2 ^ 20 ∧
  ∀ H' p, Same H H' → H' p = some (.tup [.int r.1, .int r.2]) → Q (.ref p) H'
theorem simp_fn (T : Top K mg) : ∀ k, FnOk P w K mg base CX0 (k + 3) T.f_simplest T.fd_simplest ["low", "high"] (sp_simp k)
  | 0 => ⟨fun vs H Q E h => by obtain ⟨_, _, _, _, _, _, _, _, rfl, _⟩ := h; rfl, fun _ _ _ _ _ _ _ _ _ _ _ _ _ h => by obtain ⟨_, _, _, _, _, _, f, _, _, _, _, hf, hs, _⟩ := h; rw [show f = 0 by omega] at hs; cases hs⟩
  | k + 1 => by
    have ih := simp_fn T k
    refine T.F_simplest.ok sc_simplest (fun vs H Q E h => by obtain ⟨_, _, _, _, _, _, _, _, rfl, _⟩ := h; rfl) (fun cdv A outer s H vs Q E hr h => ?_)
    obtain ⟨pl, ph, a, b, c, d, f, r, rfl, hl, hh, hf, hs, hle, hb, hb2, hd, hd2, q⟩ := h
    refine ⟨_, PSs.nox (pss_cons (ps_set (i := 2) sc_simplest.nd rfl (by first | exact Or.inl rfl | exact Or.inr rfl) (pe_un un_neg (pe_op op_fdivW (pe_un un_neg (pe_ix (k_ixT K rfl) (pv 0) pe_int (fun _ _ => rfl))) (pe_ix (k_ixT K rfl) (pv 0) pe_int (fun _ _ => rfl)))))
  (pss_cons (ps_if (pt_cmpR op_le (pe_op op_mul (pv 2) (pe_ix (k_ixT K rfl) (pv 1) pe_int (fun _ _ => rfl))) (pe_ix (k_ixT K rfl) (pv 1) pe_int (fun _ _ => rfl)) (nomark _))
    (pss_one (ps_ret (pe_tup (pa_cons (pv 2) (pa_cons pe_int pa_nil)))))
    pss_nil)
  (pss_cons (ps_set (i := 3) sc_simplest.nd rfl (by first | exact Or.inl rfl | exact Or.inr rfl) (pe_op op_fdivW (pe_ix (k_ixT K rfl) (pv 0) pe_int (fun _ _ => rfl)) (pe_ix (k_ixT K rfl) (pv 0) pe_int (fun _ _ => rfl))))
  (pss_cons (ps_set (i := 4) sc_simplest.nd rfl (by first | exact Or.inl rfl | exact Or.inr rfl) (pe_call (G_fraction T) (hr.mono (by omega)) (by rfl) T.g_fraction T.F_fraction.kp T.b_fraction .nil pass0 (pa_cons (pe_ix (k_ixT K rfl) (pv 1) pe_int (fun _ _ => rfl)) (pa_cons (pe_op op_sub (pe_ix (k_ixT K rfl) (pv 1) pe_int (fun _ _ => rfl)) (pe_op op_mul (pv 3) (pe_ix (k_ixT K rfl) (pv 1) pe_int (fun _ _ => rfl)))) pa_nil))))
  (pss_cons (ps_set (i := 5) sc_simplest.nd rfl (by first | exact Or.inl rfl | exact Or.inr rfl) (pe_call (G_fraction T) (hr.mono (by omega)) (by rfl) T.g_fraction T.F_fraction.kp T.b_fraction .nil pass0 (pa_cons (pe_ix (k_ixT K rfl) (pv 0) pe_int (fun _ _ => rfl)) (pa_cons (pe_op op_sub (pe_ix (k_ixT K rfl) (pv 0) pe_int (fun _ _ => rfl)) (pe_op op_mul (pv 3) (pe_ix (k_ixT K rfl) (pv 0) pe_int (fun _ _ => rfl)))) pa_nil))))
  (pss_cons (ps_set (i := 6) sc_simplest.nd rfl (by first | exact Or.inl rfl | exact Or.inr rfl) (pe_call ih hr (by rfl) T.g_simplest T.F_simplest.kp T.b_simplest .nil pass0 (pa_cons (pv 4) (pa_cons (pv 5) pa_nil))))
  (pss_one (ps_ret (pe_tup (pa_cons (pe_op op_add (pe_op op_mul (pv 3) (pe_ix (k_ixT K rfl) (pv 6) pe_int (fun _ _ => rfl))) (pe_ix (k_ixT K rfl) (pv 6) pe_int (fun _ _ => rfl))) (pa_cons (pe_ix (k_ixT K rfl) (pv 6) pe_int (fun _ _ => rfl)) pa_nil))))))))))), ?_⟩
    have l0 : ∀ x y : Int, atI [V.int x, V.int y] 0 = some (.int x) := fun _ _ => rfl
    have l1 : ∀ x y : Int, atI [V.int x, V.int y] 1 = some (.int y) := fun _ _ => rfl
    have hL : ∀ {H' : Hp}, Same H H' → SqT K H' pl [.int a, .int b] := fun s => .inl (.inl (s _ _ hl))
    have hR : ∀ {H' : Hp}, Same H H' → SqT K H' ph [.int c, .int d] := fun s => .inl (.inl (s _ _ hh))
    have s0 := Same.refl H
    have hw : ∀ x, CDivW x b := fun x => wide_div (b := 60) hb (by omega) (by decide) (by decide)
    cases f with
    | zero => cases hs
    | succ f =>
    have hgood := simp_good (f + 1) a b c d hb hd hle r hs
    have hden := hgood.den a b (by omega) ⟨Int.le_refl _, hle⟩
    have hpos := hgood.pos
    unfold simp at hs
    walk_at "go"
    refine ⟨pl, _, _, _, rfl, rfl, hL s0, l0 _ _, ?_⟩
    walk_at "go"
    refine ⟨pl, _, _, _, rfl, rfl, hL s0, l1 _ _, ?_⟩
    refine ⟨_, _, rfl, rfl, hw _, _, rfl, ?_⟩
    walk_at "go"
    refine ⟨ph, _, _, _, rfl, rfl, hR s0, l1 _ _, ?_⟩
    refine ⟨_, _, rfl, rfl, .inr ⟨by omega, by omega⟩, ?_⟩
    walk_at "go"
    refine ⟨ph, _, _, _, rfl, rfl, hR s0, l0 _ _, ?_⟩
    refine ⟨_, _, rfl, rfl, _, rfl, ?_⟩
    by_cases cc : -((-a) / b) * d ≤ c
    · rw [if_pos cc] at hs
      cases hs
      refine iteDT cc ?_
      walk_at "go"
      refine ⟨(show 2 ≤ sizeLine by decide), fun p np => ?_⟩
      exact q _ p (same_upd np) upd_same
    · rw [if_neg cc] at hs
      refine iteDF cc ?_
      obtain ⟨f1, f2, f3, f4, f5⟩ := step_facts hb hd hle cc
      walk_at "go"
      refine ⟨pl, _, _, _, rfl, rfl, hL s0, l0 _ _, ?_⟩
      walk_at "go"
      refine ⟨pl, _, _, _, rfl, rfl, hL s0, l1 _ _, ?_⟩
      refine ⟨_, _, rfl, rfl, hw _, ?_⟩
      walk_at "go"
      refine ⟨ph, _, _, _, rfl, rfl, hR s0, l1 _ _, ?_⟩
      walk_at "go"
      refine ⟨ph, _, _, _, rfl, rfl, hR s0, l0 _ _, ?_⟩
      walk_at "go"
      refine ⟨ph, _, _, _, rfl, rfl, hR s0, l1 _ _, ?_⟩
      refine ⟨_, _, rfl, rfl, .inr ⟨by omega, by omega⟩, ?_⟩
      walk_at "go"
      refine ⟨f3, by omega, fun H1 p1 s1 np1 h1 => ?_⟩
      walk_at "go"
      refine ⟨pl, _, _, _, rfl, rfl, hL s1, l1 _ _, ?_⟩
      walk_at "go"
      refine ⟨pl, _, _, _, rfl, rfl, hL s1, l0 _ _, ?_⟩
      walk_at "go"
      refine ⟨pl, _, _, _, rfl, rfl, hL s1, l1 _ _, ?_⟩
      refine ⟨_, _, rfl, rfl, .inr ⟨by omega, by omega⟩, ?_⟩
      walk_at "go"
      refine ⟨f1, by omega, fun H2 p2 s2 np2 h2 => ?_⟩
      cases hxy : simp f d (c - a / b * d) b (a - a / b * b) with
      | none => rw [hxy] at hs; cases hs
      | some xy =>
        rw [hxy] at hs
        cases hs
        have g1 := lowF_le (t := d) f3
        have g2 := lowF_le (t := b) f1
        obtain ⟨_, _, _, _, g3⟩ := lowF_ok (t := d) f3
        obtain ⟨_, _, _, _, g4⟩ := lowF_ok (t := b) f1
        walk_at "go"
        refine ⟨p1, p2, _, _, _, _, f, xy, rfl, s2 _ _ h1, h2, by omega, by rw [simp_low f _ _ _ _ f3 f1]; exact hxy, low_cross f3 f1 f5, g3, by omega, g4, by omega, fun H3 p3 s3 h3 => ?_⟩
        have hx : xy.1 ≤ b := hden
        have hx1 : 1 ≤ xy.1 := hpos
        have s03 := (s1.trans s2).trans s3
        walk_at "go"
        refine ⟨p3, _, _, _, rfl, rfl, .inl (.inl h3), l0 _ _, ?_⟩
        refine ⟨_, _, rfl, rfl, .inr ⟨by omega, by omega⟩, ?_⟩
        walk_at "go"
        refine ⟨p3, _, _, _, rfl, rfl, .inl (.inl h3), l1 _ _, ?_⟩
        walk_at "go"
        refine ⟨p3, _, _, _, rfl, rfl, .inl (.inl h3), l0 _ _, ?_⟩
        refine ⟨(show 2 ≤ sizeLine by decide), fun p np => ?_⟩
        exact q _ p (s03.trans (same_upd np)) upd_same
theorem G_simplest (T : Top K mg) : FnOk P w K mg base CX0 67 T.f_simplest T.fd_simplest ["low", "high"] (sp_simp 64) := simp_fn T 64
end
end My

namespace My
open PySem PySem.Spec PyProof.Rows L2 Pre
theorem sample_of {a b c d k m : Int} (hb : 0 < b) (hd : 0 < d) (hlt : a * d < c * b) (G : Good a b c d k m) (x : Int) (hx : (Unl a b c d m ∧ x = m) ∨ (¬ Unl a b c d m ∧ x = -m)) : IsSample a b c d x := by
  have h1 := G.pos
  have hu := (unl_iff hb hd hlt h1).mpr ⟨k, G.inn⟩
  have hmb := G.den a b (by omega) ⟨Int.le_refl _, by omega⟩
  have hbd : b * 1 ≤ b * d := Int.mul_le_mul_of_nonneg_left (by omega) (by omega)
  refine ⟨m.toNat, by omega, by omega, ?_, fun n hn hnm => ?_⟩
  · rw [Int.toNat_of_nonneg (by omega)]
    rcases hx with ⟨u, rfl⟩ | ⟨u, rfl⟩
    · exact .inl ⟨rfl, u⟩
    · exact .inr ⟨rfl, u, hu.resolve_left u⟩
  · have : ¬ (Unl a b c d n ∨ Unl a b c d (-n)) := fun z => by
      obtain ⟨k', hk'⟩ := (unl_iff hb hd hlt (by omega)).mp z
      have := G.den k' n (by omega) hk'
      omega
    exact ⟨fun z => this (.inl z), fun z => this (.inr z)⟩
theorem unl_comm {a b c d n : Int} : Unl a b c d n ↔ Unl c d a b n := ⟨Unl.symm, Unl.symm⟩
theorem IsSample.symm {a b c d x : Int} (h : IsSample a b c d x) : IsSample c d a b x := by
  obtain ⟨m, h1, h2, h3, h4⟩ := h
  refine ⟨m, h1, by rw [Int.mul_comm]; exact h2, ?_, fun n hn hnm => ?_⟩
  · rcases h3 with ⟨e, u⟩ | ⟨e, u, v⟩
    · exact .inl ⟨e, u.symm⟩
    · exact .inr ⟨e, fun z => u z.symm, v.symm⟩
  · exact ⟨fun z => (h4 n hn hnm).1 z.symm, fun z => (h4 n hn hnm).2 z.symm⟩
local macro_rules | `(tactic| walk_at "go") => `(tactic| repeat (first | (with_reducible first | refine iteT ?_ | refine iteF ?_ | refine iteNtt ?_ | refine iteNff ?_ | refine iteET (by omega) ?_ | refine iteEF (by omega) ?_ | refine iteENT (by omega) ?_ | refine iteENF (by omega) ?_ | refine iteDT (by omega) ?_ | refine iteDF (by omega) ?_ | refine iteNT (by omega) ?_ | refine iteNF (by omega) ?_) | refine ⟨_, rfl, ?_⟩ | refine ⟨_, _, rfl, rfl, ?_⟩ | refine ⟨_, _, rfl, ?_⟩ | refine ⟨rfl, ?_⟩ | refine .inl ⟨_, rfl, ?_⟩ | refine .inr ⟨_, rfl, ?_⟩))
local macro_rules | `(tactic| walk_at "b") => `(tactic| try dsimp (config := { proj := false, iota := false, eta := false, zeta := false }) only)
section
variable {P : Program} {w : World} {K : PySem.W.Frag} {mg : Str → Option Value} {base : Heap}
def sp_parting_sample : Sp := fun vs H Q _ => ∃ (p1 p2 : Addr) (a b c d : Int), vs = [.ref p1, .ref p2] ∧ H p1 = some (.tup [.int a, .int b]) ∧ H p2 = some (.tup [.int c, .int d]) ∧ 0 < b ∧ b < 2 ^ 20 ∧ 0 < d ∧ d < 2 ^ 20 ∧ a * d ≠ c * b ∧
  (a * d < c * b → ∃ f r, f ≤ 64 ∧ simp f a b c d = some r) ∧ (c * b < a * d → ∃ f r, f ≤ 64 ∧ simp f c d a b = some r) ∧ ∀ H' x, Same H H' → IsSample a b c d x → Q (.int x) H'
theorem G_parting_sample (T : Top K mg) : FnOk P w K mg base CX0 68 T.f_parting_sample T.fd_parting_sample ["one", "other"] sp_parting_sample := by
  refine T.F_parting_sample.ok sc_parting_sample (fun vs H Q E h => by obtain ⟨p1, p2, a, b, c, d, rfl, _⟩ := h; rfl) (fun cdv A outer s H vs Q E hr h => ?_)
  obtain ⟨p1, p2, a, b, c, d, rfl, h1, h2, hb, hb2, hd, hd2, hne, hE1, hE2, q⟩ := h
  refine ⟨_, PSs.nox (pss_cons (ps_asg (pe_ifExp (pt_cmpR op_lt (pe_op op_mul (pe_ix (k_ixT K rfl) (pv 0) pe_int (fun _ _ => rfl)) (pe_ix (k_ixT K rfl) (pv 1) pe_int (fun _ _ => rfl))) (pe_op op_mul (pe_ix (k_ixT K rfl) (pv 1) pe_int (fun _ _ => rfl)) (pe_ix (k_ixT K rfl) (pv 0) pe_int (fun _ _ => rfl))) (nomark _)) (pe_tup (pa_cons (pv 0) (pa_cons (pv 1) pa_nil))) (pe_tup (pa_cons (pv 1) (pa_cons (pv 0) pa_nil)))) (k_pgT K rfl (by rfl) (pgs_cons (pg_name (i := 3) sc_parting_sample.nd rfl (by first | exact Or.inl rfl | exact Or.inr rfl)) (pgs_cons (pg_name (i := 4) sc_parting_sample.nd rfl (by first | exact Or.inl rfl | exact Or.inr rfl)) pgs_nil))))
  (pss_cons (ps_set (i := 2) sc_parting_sample.nd rfl (by first | exact Or.inl rfl | exact Or.inr rfl) (pe_ix (k_ixT K rfl) (pe_call (G_simplest T) (hr.mono (by decide)) (by rfl) T.g_simplest T.F_simplest.kp T.b_simplest .nil pass0 (pa_cons (pv 3) (pa_cons (pv 4) pa_nil))) pe_int (fun _ _ => rfl)))
  (pss_cons (ps_if (pt_cmpR op_ne (pe_op op_fdivW (pe_op op_mul (pv 2) (pe_ix (k_ixT K rfl) (pv 0) pe_int (fun _ _ => rfl))) (pe_ix (k_ixT K rfl) (pv 0) pe_int (fun _ _ => rfl))) (pe_op op_fdivW (pe_op op_mul (pv 2) (pe_ix (k_ixT K rfl) (pv 1) pe_int (fun _ _ => rfl))) (pe_ix (k_ixT K rfl) (pv 1) pe_int (fun _ _ => rfl))) (nomark _))
    (pss_one (ps_ret (pv 2)))
    pss_nil)
  (pss_one (ps_ret (pe_un un_neg (pv 2))))))), ?_⟩
  have l0 : ∀ x y : Int, atI [V.int x, V.int y] 0 = some (.int x) := fun _ _ => rfl
  have l1 : ∀ x y : Int, atI [V.int x, V.int y] 1 = some (.int y) := fun _ _ => rfl
  have hL : ∀ {H' : Hp}, Same H H' → SqT K H' p1 [.int a, .int b] := fun s => .inl (.inl (s _ _ h1))
  have hR : ∀ {H' : Hp}, Same H H' → SqT K H' p2 [.int c, .int d] := fun s => .inl (.inl (s _ _ h2))
  have s0 := Same.refl H
  have hwb : ∀ x, CDivW x b := fun x => wide_div (b := 60) hb (by omega) (by decide) (by decide)
  have hwd : ∀ x, CDivW x d := fun x => wide_div (b := 60) hd (by omega) (by decide) (by decide)
  walk_at "go"
  refine ⟨p1, _, _, _, rfl, rfl, hL s0, l0 _ _, ?_⟩
  walk_at "go"
  refine ⟨p2, _, _, _, rfl, rfl, hR s0, l1 _ _, ?_⟩
  refine ⟨_, _, rfl, rfl, .inr ⟨by omega, by omega⟩, ?_⟩
  walk_at "go"
  refine ⟨p2, _, _, _, rfl, rfl, hR s0, l0 _ _, ?_⟩
  walk_at "go"
  refine ⟨p1, _, _, _, rfl, rfl, hL s0, l1 _ _, ?_⟩
  refine ⟨_, _, rfl, rfl, .inr ⟨by omega, by omega⟩, ?_⟩
  refine ⟨_, _, rfl, rfl, _, rfl, ?_⟩
  by_cases clt : a * d < c * b
  · refine iteDT clt ?_
    obtain ⟨f, r, hf, hs⟩ := hE1 clt
    have G := simp_good f a b c d hb hd (by omega) r hs
    have hpos := G.pos
    have hmb := G.den a b (by omega) ⟨Int.le_refl _, by omega⟩
    walk_at "go"
    refine ⟨(show 2 ≤ sizeLine by decide), fun t nt => ?_⟩
    obtain ⟨H1, e1, s1, ht⟩ := fresh (.tup [V.ref p1, V.ref p2]) nt
    rw [e1]
    refine ⟨t, _, rfl, .inl (.inl ht), rfl, _, _, rfl, _, _, rfl, rfl, ?_⟩
    walk_at "go"
    refine ⟨p1, p2, a, b, c, d, f, r, rfl, s1 _ _ h1, s1 _ _ h2, hf, hs, by omega, hb, by omega, hd, by omega, fun H2 p3 s2 h3 => ?_⟩
    have s02 := s1.trans s2
    walk_at "go"
    refine ⟨p3, _, _, _, rfl, rfl, .inl (.inl h3), l1 _ _, ?_⟩
    walk_at "go"
    refine ⟨p1, _, _, _, rfl, rfl, hL s02, l0 _ _, ?_⟩
    refine ⟨_, _, rfl, rfl, .inl ⟨by omega, by omega⟩, ?_⟩
    walk_at "go"
    refine ⟨p1, _, _, _, rfl, rfl, hL s02, l1 _ _, ?_⟩
    refine ⟨_, _, rfl, rfl, hwb _, ?_⟩
    walk_at "go"
    refine ⟨p2, _, _, _, rfl, rfl, hR s02, l0 _ _, ?_⟩
    refine ⟨_, _, rfl, rfl, .inl ⟨by omega, by omega⟩, ?_⟩
    walk_at "go"
    refine ⟨p2, _, _, _, rfl, rfl, hR s02, l1 _ _, ?_⟩
    refine ⟨_, _, rfl, rfl, hwd _, ?_⟩
    refine ⟨rfl, _, rfl, ?_⟩
    have eU : Unl a b c d r.2 ↔ ¬ (r.2 * a / b = r.2 * c / d) := by unfold Unl; rw [Int.mul_comm a, Int.mul_comm c]
    by_cases cu : r.2 * a / b = r.2 * c / d
    · refine iteENF cu ?_
      walk_at "go"
      have hS := sample_of hb hd clt G (-r.2) (.inr ⟨fun z => (eU.mp (z)) cu, rfl⟩)
      exact q _ _ s02 hS
    · refine iteENT cu ?_
      walk_at "go"
      have hS := sample_of hb hd clt G r.2 (.inl ⟨eU.mpr cu, rfl⟩)
      exact q _ _ s02 hS
  · have cgt : c * b < a * d := (Int.lt_or_lt_of_ne (fun z => hne z.symm)).resolve_right clt
    clear hE1 hne
    refine iteDF clt ?_
    obtain ⟨f, r, hf, hs⟩ := hE2 cgt
    have G := simp_good f c d a b hd hb (by omega) r hs
    have hpos := G.pos
    have hmb := G.den c d (by omega) ⟨Int.le_refl _, by omega⟩
    walk_at "go"
    refine ⟨(show 2 ≤ sizeLine by decide), fun t nt => ?_⟩
    obtain ⟨H1, e1, s1, ht⟩ := fresh (.tup [V.ref p2, V.ref p1]) nt
    rw [e1]
    refine ⟨t, _, rfl, .inl (.inl ht), rfl, _, _, rfl, _, _, rfl, rfl, ?_⟩
    walk_at "go"
    refine ⟨p2, p1, c, d, a, b, f, r, rfl, s1 _ _ h2, s1 _ _ h1, hf, hs, by omega, hd, by omega, hb, by omega, fun H2 p3 s2 h3 => ?_⟩
    have s02 := s1.trans s2
    walk_at "go"
    refine ⟨p3, _, _, _, rfl, rfl, .inl (.inl h3), l1 _ _, ?_⟩
    walk_at "go"
    refine ⟨p1, _, _, _, rfl, rfl, hL s02, l0 _ _, ?_⟩
    refine ⟨_, _, rfl, rfl, .inl ⟨by omega, by omega⟩, ?_⟩
    walk_at "go"
    refine ⟨p1, _, _, _, rfl, rfl, hL s02, l1 _ _, ?_⟩
    refine ⟨_, _, rfl, rfl, hwb _, ?_⟩
    walk_at "go"
    refine ⟨p2, _, _, _, rfl, rfl, hR s02, l0 _ _, ?_⟩
    refine ⟨_, _, rfl, rfl, .inl ⟨by omega, by omega⟩, ?_⟩
    walk_at "go"
    refine ⟨p2, _, _, _, rfl, rfl, hR s02, l1 _ _, ?_⟩
    refine ⟨_, _, rfl, rfl, hwd _, ?_⟩
    refine ⟨rfl, _, rfl, ?_⟩
    have eU : Unl a b c d r.2 ↔ ¬ (r.2 * a / b = r.2 * c / d) := by unfold Unl; rw [Int.mul_comm a, Int.mul_comm c]
    by_cases cu : r.2 * a / b = r.2 * c / d
    · refine iteENF cu ?_
      walk_at "go"
      have hS := sample_of hd hb cgt G (-r.2) (.inr ⟨fun z => (eU.mp (z.symm)) cu, rfl⟩)
      exact q _ _ s02 hS.symm
    · refine iteENT cu ?_
      walk_at "go"
      have hS := sample_of hd hb cgt G r.2 (.inl ⟨(eU.mpr cu).symm, rfl⟩)
      exact q _ _ s02 hS.symm
end
end My

namespace My
open PySem PySem.Spec PyProof.Rows L2 Pre
theorem unl_scale {a b c d n g h : Int} (hg : 0 < g) (hh : 0 < h) : Unl (g * a) (g * b) (h * c) (h * d) n ↔ Unl a b c d n := by
  unfold Unl
  rw [Int.mul_assoc, Int.mul_assoc, ediv_scale hg, ediv_scale hh]
theorem sample_scale {a b c d x g h : Int} (hg : 0 < g) (hh : 0 < h) (hb : 0 < b) (hd : 0 < d) (hs : IsSample a b c d x) : IsSample (g * a) (g * b) (h * c) (h * d) x := by
  obtain ⟨m, h1, h2, h3, h4⟩ := hs
  refine ⟨m, h1, ?_, ?_, fun n hn hnm => ?_⟩
  · have e : g * b * (h * d) = g * h * (b * d) := by rw [Int.mul_assoc, Int.mul_left_comm b h d, ← Int.mul_assoc]
    have p1 : 1 ≤ g * h := Int.mul_pos hg hh
    have p2 : 0 ≤ b * d := Int.le_of_lt (Int.mul_pos hb hd)
    have : 1 * (b * d) ≤ g * h * (b * d) := Int.mul_le_mul_of_nonneg_right p1 p2
    omega
  · rw [unl_scale hg hh, unl_scale hg hh]
    exact h3
  · rw [unl_scale hg hh, unl_scale hg hh]
    exact h4 n hn hnm
/-- of numbers at place j -/
def SampAt (ws : List Int) (sh : Nat) (us : List Int) (th : Nat) (j : Nat) (x : Int) : Prop := IsSample (ws.getD j 0) (2 ^ sh) (us.getD j 0) (2 ^ th) x
theorem samp_of {ws us : List Int} {sh th j : Nat} {x : Int} (h : IsSample (lowF (ws.getD j 0) (2 ^ sh)).1 (lowF (ws.getD j 0) (2 ^ sh)).2 (lowF (us.getD j 0) (2 ^ th)).1 (lowF (us.getD j 0) (2 ^ th)).2 x) : SampAt ws sh us th j x := by
  obtain ⟨g, hg, e1, e2, p⟩ := lowF_ok (t := ws.getD j 0) (pow_pos' sh)
  obtain ⟨g', hg', e1', e2', p'⟩ := lowF_ok (t := us.getD j 0) (pow_pos' th)
  have := sample_scale hg hg' p p' h
  rw [← e1, ← e2, ← e1', ← e2'] at this
  exact this
/-- what is found among the first i: nothing unlike, or the first of the least -/
def FoundAt (ws : List Int) (sh : Nat) (us : List Int) (th : Nat) (i : Nat) : Option (Nat × Int) → Prop
  | none => ∀ j, j < i → ws.getD j 0 * 2 ^ th = us.getD j 0 * 2 ^ sh
  | some (j, x) => j < i ∧ ws.getD j 0 * 2 ^ th ≠ us.getD j 0 * 2 ^ sh ∧ SampAt ws sh us th j x ∧ ∀ k, k < i → ws.getD k 0 * 2 ^ th ≠ us.getD k 0 * 2 ^ sh → ∃ y, SampAt ws sh us th k y ∧ x.natAbs ≤ y.natAbs ∧ (k < j → x.natAbs < y.natAbs)
theorem samp_uniq {a b c d x y : Int} (hx : IsSample a b c d x) (hy : IsSample a b c d y) : x = y := by
  obtain ⟨m, m1, _, m3, m4⟩ := hx
  obtain ⟨n, n1, _, n3, n4⟩ := hy
  have ux : Unl a b c d m ∨ Unl a b c d (-m) := by
    rcases m3 with ⟨_, u⟩ | ⟨_, _, u⟩
    · exact .inl u
    · exact .inr u
  have uy : Unl a b c d n ∨ Unl a b c d (-n) := by
    rcases n3 with ⟨_, u⟩ | ⟨_, _, u⟩
    · exact .inl u
    · exact .inr u
  have e : m = n := by
    rcases Nat.lt_trichotomy m n with h | h | h
    · have := n4 m m1 h
      rcases ux with u | u
      · exact absurd u this.1
      · exact absurd u this.2
    · exact h
    · have := m4 n n1 h
      rcases uy with u | u
      · exact absurd u this.1
      · exact absurd u this.2
  subst e
  rcases m3 with ⟨e1, u⟩ | ⟨e1, u, _⟩ <;> rcases n3 with ⟨e2, v⟩ | ⟨e2, v, _⟩
  · rw [e1, e2]
  · exact absurd u v
  · exact absurd v u
  · rw [e1, e2]
theorem samp_abs {a b c d x : Int} (hx : IsSample a b c d x) : ∃ m : Nat, x.natAbs = m ∧ 1 ≤ m ∧ (Unl a b c d m ∨ Unl a b c d (-m)) ∧ (x = m ↔ Unl a b c d m) ∧ (x = m ∨ x = -m) ∧ ∀ n : Nat, 1 ≤ n → n < m → ¬ Unl a b c d n ∧ ¬ Unl a b c d (-n) := by
  obtain ⟨m, m1, _, m3, m4⟩ := hx
  refine ⟨m, ?_, m1, ?_, ?_, ?_, m4⟩
  · rcases m3 with ⟨e, _⟩ | ⟨e, _⟩ <;> omega
  · rcases m3 with ⟨_, u⟩ | ⟨_, _, u⟩
    · exact .inl u
    · exact .inr u
  · rcases m3 with ⟨e, u⟩ | ⟨e, u, _⟩
    · exact ⟨fun _ => u, fun _ => e⟩
    · exact ⟨fun z => by omega, fun z => absurd z u⟩
  · rcases m3 with ⟨e, _⟩ | ⟨e, _⟩
    · exact .inl e
    · exact .inr e
end My

namespace My
open PySem PySem.Spec PyProof.Rows L2 Pre
/-- the simplest fraction between the quotients at j is found in time -/
def FuelAt (ws : List Int) (sh : Nat) (us : List Int) (th : Nat) (j : Nat) : Prop :=
  let p := lowF (ws.getD j 0) (2 ^ sh)
  let r := lowF (us.getD j 0) (2 ^ th)
  (p.1 * r.2 < r.1 * p.2 → ∃ f x, f ≤ 64 ∧ simp f p.1 p.2 r.1 r.2 = some x) ∧ (r.1 * p.2 < p.1 * r.2 → ∃ f x, f ≤ 64 ∧ simp f r.1 r.2 p.1 p.2 = some x)
theorem fuel_small {ws us : List Int} {sh th : Nat} (h1 : sh ≤ 5) (h2 : th ≤ 5) (j : Nat) : FuelAt ws sh us th j := by
  obtain ⟨_, _, _, _, p⟩ := lowF_ok (t := ws.getD j 0) (pow_pos' sh)
  obtain ⟨_, _, _, _, p'⟩ := lowF_ok (t := us.getD j 0) (pow_pos' th)
  have l1 := lowF_le (t := ws.getD j 0) (pow_pos' sh)
  have l2 := lowF_le (t := us.getD j 0) (pow_pos' th)
  have q1 : (2 : Int) ^ sh ≤ 2 ^ 5 := pow2_le h1
  have q2 : (2 : Int) ^ th ≤ 2 ^ 5 := pow2_le h2
  refine ⟨fun h => ?_, fun h => ?_⟩
  · obtain ⟨x, hx⟩ := simp_ends 64 _ _ _ _ p p' (Int.le_of_lt h) (by omega)
    exact ⟨64, x, Nat.le_refl _, hx⟩
  · obtain ⟨x, hx⟩ := simp_ends 64 _ _ _ _ p' p (Int.le_of_lt h) (by omega)
    exact ⟨64, x, Nat.le_refl _, hx⟩
def rowP (many j : Nat) (x : Int) : List Int := (List.range many).map fun (p : Nat) => if p = many - 1 - j then x else 0
def FV (H : Hp) : Option (Nat × Int) → V → Prop
  | none, v => v = .non
  | some (j, x), v => ∃ t, v = .ref t ∧ H t = some (.tup [.int j, .int x])
theorem FV.same {H H' : Hp} (s : Same H H') : ∀ {o : Option (Nat × Int)} {v : V}, FV H o v → FV H' o v
  | none, _, h => h
  | some (_, _), _, ⟨t, e, h⟩ => ⟨t, e, s _ _ h⟩
theorem found_next {ws us : List Int} {sh th i : Nat} {o : Option (Nat × Int)} (h : FoundAt ws sh us th i o) (e : ws.getD i 0 * 2 ^ th = us.getD i 0 * 2 ^ sh) : FoundAt ws sh us th (i + 1) o := by
  cases o with
  | none =>
    intro j hj
    by_cases c : j = i
    · rw [c]; exact e
    · exact h j (by omega)
  | some jx =>
    obtain ⟨j, x⟩ := jx
    obtain ⟨h1, h2, h3, h4⟩ := h
    refine ⟨by omega, h2, h3, fun k hk hne => ?_⟩
    by_cases c : k = i
    · rw [c] at hne; exact absurd e hne
    · exact h4 k (by omega) hne
theorem found_keep {ws us : List Int} {sh th i j : Nat} {x y : Int} (h : FoundAt ws sh us th i (some (j, x))) (hy : SampAt ws sh us th i y) (hle : x.natAbs ≤ y.natAbs) : FoundAt ws sh us th (i + 1) (some (j, x)) := by
  obtain ⟨h1, h2, h3, h4⟩ := h
  refine ⟨by omega, h2, h3, fun k hk hne => ?_⟩
  by_cases c : k = i
  · rw [c]; exact ⟨y, hy, hle, fun z => by omega⟩
  · exact h4 k (by omega) hne
theorem found_new {ws us : List Int} {sh th i : Nat} {o : Option (Nat × Int)} {y : Int} (h : FoundAt ws sh us th i o) (hne : ws.getD i 0 * 2 ^ th ≠ us.getD i 0 * 2 ^ sh) (hy : SampAt ws sh us th i y) (hlt : ∀ j x, o = some (j, x) → y.natAbs < x.natAbs) : FoundAt ws sh us th (i + 1) (some (i, y)) := by
  refine ⟨by omega, hne, hy, fun k hk hk2 => ?_⟩
  by_cases c : k = i
  · rw [c]; exact ⟨y, hy, Nat.le_refl _, fun z => by omega⟩
  · cases o with
    | none => exact absurd (h k (by omega)) hk2
    | some jx =>
      obtain ⟨j, x⟩ := jx
      obtain ⟨h1, h2, h3, h4⟩ := h
      obtain ⟨z, z1, z2, _⟩ := h4 k (by omega) hk2
      have := hlt j x rfl
      exact ⟨z, z1, by omega, fun _ => by omega⟩
local macro_rules | `(tactic| walk_at "go") => `(tactic| repeat (first | (with_reducible first | refine iteT ?_ | refine iteF ?_ | refine iteNtt ?_ | refine iteNff ?_ | refine iteET (by omega) ?_ | refine iteEF (by omega) ?_ | refine iteENT (by omega) ?_ | refine iteENF (by omega) ?_ | refine iteDT (by omega) ?_ | refine iteDF (by omega) ?_ | refine iteNT (by omega) ?_ | refine iteNF (by omega) ?_) | refine ⟨_, rfl, ?_⟩ | refine ⟨_, _, rfl, rfl, ?_⟩ | refine ⟨_, _, rfl, ?_⟩ | refine ⟨rfl, ?_⟩ | refine .inl ⟨_, rfl, ?_⟩ | refine .inr ⟨_, rfl, ?_⟩))
local macro_rules | `(tactic| walk_at "b") => `(tactic| try dsimp (config := { proj := false, iota := false, eta := false, zeta := false }) only)
section
variable {P : Program} {w : World} {K : PySem.W.Frag} {mg : Str → Option Value} {base : Heap}
def sp_parting_row (C : Addr) : Sp := fun vs H Q _ => ∃ (a b : Addr) (ws : List Int) (sh : Nat) (us : List Int) (th : Nat), vs = [.ref a, .ref b] ∧ GuesserAt C H a ws sh ∧ GuesserAt C H b us th ∧ (∀ j, j < max ws.length us.length → FuelAt ws sh us th j) ∧
  (FoundAt ws sh us th (max ws.length us.length) none → ∀ H', Same H H' → Q .non H') ∧ (∀ j x, FoundAt ws sh us th (max ws.length us.length) (some (j, x)) → ∀ H' p, Same H H' → H p = none → H' p = some (.lst ((rowP (max ws.length us.length) j x).map V.int)) → Q (.ref p) H')
theorem G_parting_row (T : Top K mg) : FnOk P w K mg base CX0 69 T.f_parting_row T.fd_parting_row ["one", "other"] (sp_parting_row T.C_Guesser) := by
  refine T.F_parting_row.ok sc_parting_row (fun vs H Q E h => by obtain ⟨a, b, ws, sh, us, th, rfl, _⟩ := h; rfl) (fun cdv A outer s H vs Q E hr h => ?_)
  obtain ⟨a, b, ws, sh, us, th, rfl, hA, hB, hE, q1, q2⟩ := h
  refine ⟨_, PSs.nox (pss_cons (ps_expr (pe_call (G_check_guesser T) (hr.mono (by decide)) (by rfl) T.g_check_guesser T.F_check_guesser.kp T.b_check_guesser .nil pass0 (pa_cons (pv 0) pa_nil)))
  (pss_cons (ps_expr (pe_call (G_check_guesser T) (hr.mono (by decide)) (by rfl) T.g_check_guesser T.F_check_guesser.kp T.b_check_guesser .nil pass0 (pa_cons (pv 1) pa_nil)))
  (pss_cons (ps_asg (pe_tup (pa_cons (pe_callB (call_max2 rfl) (by rfl) T.n_max (by decide +kernel) (pa_cons (pe_callB (k_len K rfl) (by rfl) T.n_len (by decide +kernel) (pa_cons (pe_fld (pv 0) rfl) pa_nil)) (pa_cons (pe_callB (k_len K rfl) (by rfl) T.n_len (by decide +kernel) (pa_cons (pe_fld (pv 1) rfl) pa_nil)) pa_nil))) (pa_cons pe_non pa_nil))) (k_pgT K rfl (by rfl) (pgs_cons (pg_name (i := 3) sc_parting_row.nd rfl (by first | exact Or.inl rfl | exact Or.inr rfl)) (pgs_cons (pg_name (i := 4) sc_parting_row.nd rfl (by first | exact Or.inl rfl | exact Or.inr rfl)) pgs_nil))))
  (pss_cons (ps_for PassesOwn.never rfl (pi_range1 (by rfl) T.n_range (pa_cons (pv 3) pa_nil)) (pg_name (i := 2) sc_parting_row.nd rfl (by first | exact Or.inl rfl | exact Or.inr rfl))
    (pss_cons (ps_par (by rfl) sc_parting_row.nd (i := 5) (j := 6) rfl rfl (by decide) rfl rfl (pa_cons (pe_call (G_quotient T) (hr.mono (by decide)) (by rfl) T.g_quotient T.F_quotient.kp T.b_quotient .nil pass0 (pa_cons (pv 0) (pa_cons (pv 2) pa_nil))) (pa_cons (pe_call (G_quotient T) (hr.mono (by decide)) (by rfl) T.g_quotient T.F_quotient.kp T.b_quotient .nil pass0 (pa_cons (pv 1) (pa_cons (pv 2) pa_nil))) pa_nil)) (by rfl))
  (pss_one (ps_if (pt_cmpR (k_neD K rfl hr.units) (pv 5) (pv 6) (nomark _))
    (pss_cons (ps_set (i := 7) sc_parting_row.nd rfl (by first | exact Or.inl rfl | exact Or.inr rfl) (pe_call (G_parting_sample T) (hr.mono (by decide)) (by rfl) T.g_parting_sample T.F_parting_sample.kp T.b_parting_sample .nil pass0 (pa_cons (pv 5) (pa_cons (pv 6) pa_nil))))
  (pss_one (ps_if (PW.pt (pw_or (pt_cmpR op_isN (pv 4) pe_non (nomark _)) (pw_or1 (pt_cmpR op_lt (pe_callB call_abs (by rfl) T.n_abs (by decide +kernel) (pa_cons (pv 7) pa_nil)) (pe_callB call_abs (by rfl) T.n_abs (by decide +kernel) (pa_cons (pe_ix (k_ixT K rfl) (pv 4) pe_int (fun _ _ => rfl)) pa_nil)) (nomark _)))))
    (pss_one (ps_set (i := 4) sc_parting_row.nd rfl (by first | exact Or.inl rfl | exact Or.inr rfl) (pe_tup (pa_cons (pv 2) (pa_cons (pv 7) pa_nil)))))
    pss_nil)))
    pss_nil))))
  (pss_cons (ps_if (pt_cmpR op_isN (pv 4) pe_non (nomark _))
    (pss_one (ps_ret pe_non))
    pss_nil)
  (pss_one (ps_ret (pe_lc (own := [("place", 8)]) (g := gName 8) (tt := tYes) (by rfl) sc_parting_row.nd (pi_range1 (by rfl) T.n_range (pa_cons (pv 3) pa_nil)) (blkOk_by (own := [("place", 8)]) (N := N_parting_row) (sc := defScope s_parting_row) (by decide +kernel)) (fun _ _ _ _ _ => (pg_name (i := 8) sc_parting_row.nd rfl (by first | exact Or.inl rfl | exact Or.inr rfl))) (fun _ _ _ _ _ => pts_nil) (fun _ _ _ _ _ => (pe_ifExp (pt_cmpR op_eq (pv 8) (pe_op op_sub (pe_op op_sub (pv 3) pe_int) (pe_ix (k_ixT K rfl) (pv 4) pe_int (fun _ _ => rfl))) (nomark _)) (pe_ix (k_ixT K rfl) (pv 4) pe_int (fun _ _ => rfl)) pe_int)))))))))), ?_⟩
  obtain ⟨hW, hsh, dx, p, ha, hp⟩ := id hA
  obtain ⟨hW2, hth, dy, p2, hb, hp2⟩ := id hB
  walk_at "go"
  refine ⟨a, ws, sh, rfl, hA, ?_⟩
  walk_at "go"
  refine ⟨b, us, th, rfl, hB, ?_⟩
  walk_at "go"
  refine ⟨a, T.C_Guesser, dx, _, _, rfl, ha, T.cl_Guesser, T.na_Guesser_parts, rfl, ?_⟩
  walk_at "go"
  refine ⟨p, _, rfl, .inl (.inl (.inl hp)), ?_⟩
  walk_at "go"
  refine ⟨b, T.C_Guesser, dy, _, _, rfl, hb, T.cl_Guesser, T.na_Guesser_parts, rfl, ?_⟩
  walk_at "go"
  refine ⟨p2, _, rfl, .inl (.inl (.inl hp2)), ?_⟩
  rw [List.length_map, List.length_map]
  walk_at "go"
  have hl1 := hW.1
  have hl2 := hW2.1
  have em : (if ((us.length : Nat) : Int) > ((ws.length : Nat) : Int) then ((us.length : Nat) : Int) else ((ws.length : Nat) : Int)) = ((max ws.length us.length : Nat) : Int) := by
    by_cases c : ((us.length : Nat) : Int) > ((ws.length : Nat) : Int)
    · rw [if_pos c]; omega
    · rw [if_neg c]; omega
  rw [em]
  obtain ⟨many, hmany⟩ : ∃ m, m = max ws.length us.length := ⟨_, rfl⟩
  rw [← hmany] at q1 q2 hE ⊢
  refine ⟨(show 2 ≤ sizeLine by decide), fun t nt => ?_⟩
  obtain ⟨H1, e1, s1, ht⟩ := fresh (.tup [V.int many, V.non]) nt
  rw [e1]
  refine ⟨t, _, rfl, .inl (.inl ht), rfl, _, _, rfl, _, _, rfl, rfl, ?_⟩
  walk_at "go"
  refine ⟨by omega, by omega, ?_⟩
  rw [Int.toNat_natCast]
  have hp1 := pow_pos' sh
  have hp2' := pow_pos' th
  have hq1 : (2 : Int) ^ sh ≤ 2 ^ 15 := pow2_le hsh
  have hq2 : (2 : Int) ^ th ≤ 2 ^ 15 := pow2_le hth
  have l0 : ∀ x y : Int, atI [V.int x, V.int y] 0 = some (.int x) := fun _ _ => rfl
  have l1 : ∀ x y : Int, atI [V.int x, V.int y] 1 = some (.int y) := fun _ _ => rfl
  have ab : ∀ x : Int, (if x < 0 then -x else x) = (x.natAbs : Int) := fun x => by split <;> omega
  refine for_range (lo := 0) (n := many) (fun i σ H2 => ∃ (v2 v5 v6 v7 : Option V) (o : Option (Nat × Int)) (fv : V), σ = [some (.ref a), some (.ref b), v2, some (.int many), some fv, v5, v6, v7, none] ∧ Same H H2 ∧ FV H2 o fv ∧ FoundAt ws sh us th i o) ⟨none, none, none, none, none, .non, rfl, s1, rfl, fun j hj => absurd hj (Nat.not_lt_zero _)⟩ ?_ ?_
  · rintro i σ H2 hi ⟨v2, v5, v6, v7, o, fv, rfl, s2, hfv, hF⟩
    rw [show (0 : Int) + (i : Int) = i by omega]
    walk_at "go"
    refine ⟨a, ws, sh, i, rfl, hA.same s2, fun H3 q3 s3 nq3 h3 => ?_⟩
    walk_at "go"
    refine ⟨b, us, th, i, rfl, (hB.same s2).same s3, fun H4 q4 s4 nq4 h4 => ?_⟩
    refine ⟨_, _, rfl, ?_⟩
    have hEi := hE i hi
    unfold FuelAt at hEi
    have hiff := lowF_eq (t := ws.getD i 0) (t' := us.getD i 0) hp1 hp2'
    have hsamp := fun z => samp_of (ws := ws) (us := us) (sh := sh) (th := th) (j := i) (x := z)
    obtain ⟨_, _, _, _, px⟩ := lowF_ok (t := ws.getD i 0) hp1
    obtain ⟨_, _, _, _, py⟩ := lowF_ok (t := us.getD i 0) hp2'
    have lx := lowF_le (t := ws.getD i 0) hp1
    have ly := lowF_le (t := us.getD i 0) hp2'
    have hcr : lowF (ws.getD i 0) (2 ^ sh) ≠ lowF (us.getD i 0) (2 ^ th) → (lowF (ws.getD i 0) (2 ^ sh)).1 * (lowF (us.getD i 0) (2 ^ th)).2 ≠ (lowF (us.getD i 0) (2 ^ th)).1 * (lowF (ws.getD i 0) (2 ^ sh)).2 := fun hne z => by
      refine hne (hiff.mpr ?_)
      obtain ⟨g, hg, e1, e2, _⟩ := lowF_ok (t := ws.getD i 0) hp1
      obtain ⟨g', hg', e1', e2', _⟩ := lowF_ok (t := us.getD i 0) hp2'
      generalize (lowF (ws.getD i 0) (2 ^ sh)).1 = x at *
      generalize (lowF (ws.getD i 0) (2 ^ sh)).2 = y at *
      generalize (lowF (us.getD i 0) (2 ^ th)).1 = x' at *
      generalize (lowF (us.getD i 0) (2 ^ th)).2 = y' at *
      rw [e1, e2, e1', e2']
      have a1 : g * x * (g' * y') = g * g' * (x * y') := by rw [Int.mul_assoc, Int.mul_left_comm x g' y', ← Int.mul_assoc]
      have a2 : g' * x' * (g * y) = g * g' * (x' * y) := by rw [Int.mul_assoc, Int.mul_left_comm x' g y, ← Int.mul_assoc, Int.mul_comm g' g]
      rw [a1, a2, z]
    generalize lowF (ws.getD i 0) (2 ^ sh) = x at *
    generalize lowF (us.getD i 0) (2 ^ th) = y at *
    have ee : ([x.1, x.2] : List Int) = [y.1, y.2] ↔ x = y := by
      constructor
      · intro z; injection z with z1 z2; injection z2 with z2 _; exact Prod.ext z1 z2
      · intro z; rw [z]
    have h34 := s4 _ _ h3
    have s24 := s3.trans s4
    walk_at "go"
    refine ⟨.tuple ([x.1, x.2].map PyData.int), .tuple ([y.1, y.2].map PyData.int), .tup (.inl (.inl h34)) (Pre.dp_ints _), .tup (.inl (.inl h4)) (Pre.dp_ints _), shaped_tup _, shaped_tup _, ?_⟩
    rw [PyData.eqv, eqv_ints]
    refine ⟨_, rfl, ?_⟩
    by_cases c : x = y
    · refine iteNF (ee.mpr c) ?_
      exact ⟨_, _, _, _, o, fv, rfl, s2.trans s24, hfv.same s24, found_next hF (hiff.mp c)⟩
    · refine iteNT (fun z => c (ee.mp z)) ?_
      walk_at "go"
      refine ⟨q3, q4, x.1, x.2, y.1, y.2, rfl, h34, h4, px, by omega, py, by omega, hcr c, hEi.1, hEi.2, fun H5 z s5 hz => ?_⟩
      have hzs := hsamp z hz
      have hne : ws.getD i 0 * 2 ^ th ≠ us.getD i 0 * 2 ^ sh := fun z => c (hiff.mpr z)
      have s25 := s24.trans s5
      cases o with
      | none =>
        cases hfv
        refine ⟨_, rfl, rfl, _, rfl, iteDT rfl ?_⟩
        walk_at "go"
        refine ⟨(show 2 ≤ sizeLine by decide), fun t6 nt6 => ?_⟩
        exact ⟨_, _, _, _, some (i, z), .ref t6, rfl, (s2.trans s25).trans (same_upd nt6), ⟨t6, rfl, upd_same⟩, found_new hF hne hzs (fun _ _ e => nomatch e)⟩
      | some jx =>
        obtain ⟨j, xx⟩ := jx
        obtain ⟨t5, rfl, ht5⟩ := hfv
        have ht5' := s25 _ _ ht5
        refine ⟨_, rfl, rfl, _, rfl, iteDF (fun z => nomatch z) ?_⟩
        walk_at "go"
        refine ⟨t5, _, _, _, rfl, rfl, .inl (.inl ht5'), l1 _ _, ?_⟩
        refine ⟨_, rfl, _, _, rfl, rfl, _, rfl, ?_⟩
        rw [ab, ab]
        by_cases clt : z.natAbs < xx.natAbs
        · refine iteDT (by omega) ?_
          walk_at "go"
          refine ⟨(show 2 ≤ sizeLine by decide), fun t6 nt6 => ?_⟩
          exact ⟨_, _, _, _, some (i, z), .ref t6, rfl, (s2.trans s25).trans (same_upd nt6), ⟨t6, rfl, upd_same⟩, found_new hF hne hzs (fun j' x' e => by cases e; exact clt)⟩
        · refine iteDF (by omega) ?_
          exact ⟨_, _, _, _, some (j, xx), .ref t5, rfl, s2.trans s25, ⟨t5, rfl, ht5'⟩, found_keep hF hzs (by omega)⟩
  · rintro σ H2 ⟨v2, v5, v6, v7, o, fv, rfl, s2, hfv, hF⟩
    cases o with
    | none =>
      cases hfv
      refine ⟨_, rfl, rfl, _, rfl, iteDT rfl ?_⟩
      walk_at "go"
      exact q1 hF _ s2
    | some jx =>
      obtain ⟨j, xx⟩ := jx
      obtain ⟨t5, rfl, ht5⟩ := hfv
      have hj : j < many := hF.1
      refine ⟨_, rfl, rfl, _, rfl, iteDF (fun z => nomatch z) ?_⟩
      refine ⟨_, rfl, _, rfl, by omega, by omega, fun D nD => ?_⟩
      rw [Int.toNat_natCast]
      refine lc_mapR (lo := 0) (n := many) ((rowP many j xx).map V.int) nD (by unfold rowP; rw [List.length_map, List.length_map, List.length_range]) (small1000 (by omega)) (fun x => rfl) ?_ ?_
      · intro k y H' hk hy s Qt qt
        unfold rowP at hy
        rw [List.getElem?_map, List.getElem?_map, List.getElem?_range hk] at hy
        cases hy
        have ht' := s _ _ ht5
        rw [show (0 : Int) + (k : Int) = k by omega]
        walk_at "go"
        refine ⟨t5, _, _, _, rfl, rfl, .inl (.inl ht'), l0 _ _, ?_⟩
        refine ⟨_, _, rfl, rfl, rfl, _, rfl, ?_⟩
        by_cases c : k = many - 1 - j
        · refine iteET (by omega) ?_
          dsimp only at qt
          rw [if_pos c] at qt
          walk_at "go"
          refine ⟨t5, _, _, _, rfl, rfl, .inl (.inl ht'), l1 _ _, ?_⟩
          exact qt _ (Same.refl _)
        · refine iteEF (by omega) ?_
          dsimp only at qt
          rw [if_neg c] at qt
          walk_at "go"
          exact qt _ (Same.refl _)
      · intro H3 s3 hD
        exact q2 j xx hF _ D (s2.trans s3) (s2.free nD) hD
end
end My

namespace My
open PySem PySem.Spec PyProof.Rows L2 Pre
/-! ### the normal one -/
theorem getD_len {l : List Int} {i : Nat} (h : l.length ≤ i) : l.getD i 0 = 0 := by rw [List.getD_eq_getElem?_getD, List.getElem?_eq_none h]; rfl
/-- what the first loop leaves of ws -/
def Trim (ws zs : List Int) : Prop := zs.length ≤ ws.length ∧ (∀ n ∈ zs, n ∈ ws) ∧ ∀ i, zs.getD i 0 = ws.getD i 0
theorem Trim.refl (ws : List Int) : Trim ws ws := ⟨Nat.le_refl _, fun _ h => h, fun _ => rfl⟩
theorem Trim.drop {ws zs : List Int} (h : Trim ws zs) (hz : zs ≠ []) (h0 : zs.getD (zs.length - 1) 0 = 0) : Trim ws zs.dropLast := by
  have hl : 0 < zs.length := List.length_pos_iff.mpr hz
  refine ⟨by rw [List.length_dropLast]; have := h.1; omega, fun n hn => h.2.1 n (List.dropLast_subset _ hn), fun i => ?_⟩
  rw [← h.2.2 i]
  by_cases c : i < zs.length - 1
  · rw [List.getD_eq_getElem?_getD, List.getD_eq_getElem?_getD, List.getElem?_dropLast, if_pos c]
  · rw [getD_len (by rw [List.length_dropLast]; omega)]
    by_cases e : i = zs.length - 1
    · rw [e, h0]
    · rw [getD_len (by omega)]
/-- what the second loop leaves: the weights behind d halvings -/
def Halved (zs : List Int) (sh : Nat) (us : List Int) (th : Nat) : Prop := th ≤ sh ∧ us.length = zs.length ∧ (∀ i, us.getD i 0 * 2 ^ (sh - th) = zs.getD i 0)
theorem Halved.refl (zs : List Int) (sh : Nat) : Halved zs sh zs sh := ⟨Nat.le_refl _, rfl, fun i => by rw [Nat.sub_self, Int.pow_zero, Int.mul_one]⟩
def half (us : List Int) : List Int := us.map fun n => n / 2
theorem half_at (us : List Int) (i : Nat) : (half us).getD i 0 = us.getD i 0 / 2 := by
  unfold half
  rw [List.getD_eq_getElem?_getD, List.getElem?_map, List.getD_eq_getElem?_getD]
  cases us[i]? <;> rfl
theorem even_at {us : List Int} (h : ∀ n ∈ us, n % 2 ≠ 1) (i : Nat) : us.getD i 0 % 2 = 0 := by
  by_cases c : i < us.length
  · have := h _ (List.getElem_mem c)
    rw [getD_of c]
    omega
  · rw [getD_len (by omega)]
    decide
theorem Halved.step {zs us : List Int} {sh th : Nat} (h : Halved zs sh us th) (h0 : 0 < th) (he : ∀ n ∈ us, n % 2 ≠ 1) : Halved zs sh (half us) (th - 1) := by
  refine ⟨by have := h.1; omega, by unfold half; rw [List.length_map]; exact h.2.1, fun i => ?_⟩
  have e := even_at he i
  rw [half_at, ← h.2.2 i, show sh - (th - 1) = (sh - th) + 1 by have := h.1; omega, Int.pow_succ, Int.mul_comm (2 ^ (sh - th)) 2, ← Int.mul_assoc]
  congr 1
  omega
/-- the last one is not 0 -/
def LastNot (us : List Int) : Prop := us ≠ [] → us.getD (us.length - 1) 0 ≠ 0
theorem Halved.last {zs us : List Int} {sh th : Nat} (h : Halved zs sh us th) (hz : LastNot zs) : LastNot us := by
  intro hu z
  refine hz (fun e => hu ?_) ?_
  · have := h.2.1
    rw [e] at this
    exact List.length_eq_zero_iff.mp this
  · rw [← h.2.1, ← h.2.2, z, Int.zero_mul]
/-- a normal one -/
structure Norm (us : List Int) (th : Nat) : Prop where
  last : LastNot us
  odd : 0 < th → ∃ n ∈ us, n % 2 = 1
def NormOf (ws : List Int) (sh : Nat) (us : List Int) (th : Nat) : Prop := Norm us th ∧ th ≤ sh ∧ us.length ≤ ws.length ∧ ∀ i, us.getD i 0 * 2 ^ sh = ws.getD i 0 * 2 ^ th
theorem normOf_mk {ws zs us : List Int} {sh th : Nat} (h1 : Trim ws zs) (h2 : LastNot zs) (h3 : Halved zs sh us th) (h4 : 0 < th → ∃ n ∈ us, n % 2 = 1) : NormOf ws sh us th := by
  refine ⟨⟨h3.last h2, h4⟩, h3.1, by rw [h3.2.1]; exact h1.1, fun i => ?_⟩
  rw [← h1.2.2 i, ← h3.2.2 i, Int.mul_assoc, ← Int.pow_add, Nat.sub_add_cancel h3.1]
theorem getD_ext {us vs : List Int} (hl : us.length = vs.length) (h : ∀ i, us.getD i 0 = vs.getD i 0) : us = vs := by
  apply List.ext_getElem hl
  intro i h1 h2
  have := h i
  rwa [getD_of h1, getD_of h2] at this
theorem len_le_of {us vs : List Int} (hl : LastNot us) (h : ∀ i, vs.getD i 0 = 0 → us.getD i 0 = 0) : us.length ≤ vs.length := by
  by_cases c : us.length ≤ vs.length
  · exact c
  · refine absurd (h (us.length - 1) (getD_len (by omega))) (hl (fun e => ?_))
    rw [e] at c
    simp at c
theorem pow_ne (k : Nat) : (2 : Int) ^ k ≠ 0 := by have := pow_pos' k; omega
/-- there is just one -/
theorem norm_uniq {us vs : List Int} {th uh : Nat} (h1 : Norm us th) (h2 : Norm vs uh) (h : ∀ i, us.getD i 0 * 2 ^ uh = vs.getD i 0 * 2 ^ th) : us = vs ∧ th = uh := by
  have key : ∀ {us vs : List Int} {th uh : Nat}, Norm us th → (∀ i, us.getD i 0 * 2 ^ uh = vs.getD i 0 * 2 ^ th) → th ≤ uh := fun {us vs th uh} n1 h => by
    by_cases c : th ≤ uh
    · exact c
    · obtain ⟨n, hn, ho⟩ := n1.odd (by omega)
      obtain ⟨i, hi, e⟩ := List.mem_iff_getElem.mp hn
      have hh := h i
      rw [getD_of hi, e, show th = uh + ((th - uh - 1) + 1) by omega, Int.pow_add, Int.mul_left_comm, Int.mul_comm n] at hh
      have h3 := Int.eq_of_mul_eq_mul_left (pow_ne uh) hh
      rw [Int.pow_succ, ← Int.mul_assoc] at h3
      omega
  have e : th = uh := Nat.le_antisymm (key h1 h) (key h2 fun i => (h i).symm)
  subst e
  have hg : ∀ i, us.getD i 0 = vs.getD i 0 := fun i => Int.eq_of_mul_eq_mul_right (pow_ne th) (h i)
  exact ⟨getD_ext (Nat.le_antisymm (len_le_of h1.last fun i z => by rw [hg, z]) (len_le_of h2.last fun i z => by rw [← hg, z])) hg, rfl⟩
/-! ### what is found is found by trying all -/
theorem alike_unl {a b c d n : Int} (hb : 0 < b) (hd : 0 < d) (h : a * d = c * b) : ¬ Unl a b c d n := by
  intro u
  refine u ?_
  have e1 : a * n / b = (a * n * d) / (b * d) := (Int.mul_ediv_mul_of_pos_left _ _ hd).symm
  have e2 : c * n / d = (c * n * b) / (d * b) := (Int.mul_ediv_mul_of_pos_left _ _ hb).symm
  rw [e1, e2, Int.mul_comm d b]
  congr 1
  rw [Int.mul_assoc, Int.mul_comm n d, ← Int.mul_assoc, h, Int.mul_assoc, Int.mul_comm b n, ← Int.mul_assoc]
def UnlAt (ws : List Int) (sh : Nat) (us : List Int) (th : Nat) (j : Nat) (n : Int) : Prop := Unl (ws.getD j 0) (2 ^ sh) (us.getD j 0) (2 ^ th) n
theorem least_facts {ws us : List Int} {sh th many j : Nat} {x : Int} (h : FoundAt ws sh us th many (some (j, x))) : ∃ m : Nat, 1 ≤ m ∧ j < many ∧ (∀ n k : Nat, 1 ≤ n → k < many → (n < m ∨ (n = m ∧ k < j)) → ¬ UnlAt ws sh us th k n ∧ ¬ UnlAt ws sh us th k (-n)) ∧ ((UnlAt ws sh us th j m ∧ x = m) ∨ (¬ UnlAt ws sh us th j m ∧ UnlAt ws sh us th j (-m) ∧ x = -m)) := by
  obtain ⟨h1, h2, h3, h4⟩ := h
  obtain ⟨m, m1, m2, m3, m4, m5, m6⟩ := samp_abs h3
  refine ⟨m, m2, h1, fun n k hn hk hc => ?_, ?_⟩
  · by_cases e : ws.getD k 0 * 2 ^ th = us.getD k 0 * 2 ^ sh
    · exact ⟨alike_unl (pow_pos' sh) (pow_pos' th) e, alike_unl (pow_pos' sh) (pow_pos' th) e⟩
    · obtain ⟨y, y1, y2, y3⟩ := h4 k hk e
      obtain ⟨l, l1, _, _, _, _, l6⟩ := samp_abs y1
      refine l6 n hn ?_
      rcases hc with hc | ⟨hc, hk2⟩
      · omega
      · have := y3 hk2
        omega
  · by_cases u : UnlAt ws sh us th j m
    · exact .inl ⟨u, m4.mpr u⟩
    · refine .inr ⟨u, m3.resolve_left u, ?_⟩
      rcases m5 with e | e
      · exact absurd (m4.mp e) u
      · exact e
theorem found_symm {ws us : List Int} {sh th many : Nat} {o : Option (Nat × Int)} (h : FoundAt ws sh us th many o) : FoundAt us th ws sh many o := by
  cases o with
  | none => exact fun j hj => (h j hj).symm
  | some jx =>
    obtain ⟨j, x⟩ := jx
    obtain ⟨h1, h2, h3, h4⟩ := h
    refine ⟨h1, fun z => h2 z.symm, IsSample.symm h3, fun k hk hne => ?_⟩
    obtain ⟨y, y1, y2⟩ := h4 k hk (fun z => hne z.symm)
    exact ⟨y, IsSample.symm y1, y2⟩
theorem found_uniq {ws us : List Int} {sh th many j k : Nat} {x y : Int} (h : FoundAt ws sh us th many (some (j, x))) (h' : FoundAt ws sh us th many (some (k, y))) : j = k ∧ x = y := by
  obtain ⟨h1, h2, h3, h4⟩ := h
  obtain ⟨k1, k2, k3, k4⟩ := h'
  obtain ⟨y', a1, a2, a3⟩ := h4 k k1 k2
  obtain ⟨x', b1, b2, b3⟩ := k4 j h1 h2
  rw [samp_uniq a1 k3] at a2 a3
  rw [samp_uniq b1 h3] at b2 b3
  have e : j = k := by
    rcases Nat.lt_trichotomy j k with c | c | c
    · have := b3 c; omega
    · exact c
    · have := a3 c; omega
  subst e
  exact ⟨rfl, samp_uniq h3 k3⟩
/-! ### the told row parts -/
theorem dot_unit (x : Int) : ∀ (ws bs : List Int) (j : Nat), ws.length ≤ bs.length → (∀ i, bs.getD i 0 = if i = j then x else 0) → dot ws bs = ws.getD j 0 * x
  | [], _, j, _, _ => by rw [getD_len (show ([] : List Int).length ≤ j from Nat.zero_le _), Int.zero_mul]; rfl
  | _ :: _, [], _, h, _ => by simp at h
  | w :: ws, b :: bs, 0, hl, h => by
    have hb : b = x := h 0
    show w * b + dot ws bs = w * x
    have key : ∀ (ws bs : List Int), (∀ i, bs.getD i 0 = 0) → dot ws bs = 0 := fun ws => by
      induction ws with
      | nil => intro bs _; rfl
      | cons w ws ih =>
        intro bs hz
        cases bs with
        | nil => rfl
        | cons b bs =>
          have h0 : b = 0 := hz 0
          show w * b + dot ws bs = 0
          rw [h0, ih bs (fun i => hz (i + 1))]
          omega
    rw [key ws bs (fun i => h (i + 1)), hb]
    omega
  | w :: ws, b :: bs, j + 1, hl, h => by
    have hb : b = 0 := h 0
    show w * b + dot ws bs = ws.getD j 0 * x
    rw [dot_unit x ws bs j (by simpa using hl) (fun i => by
      have := h (i + 1)
      rw [show (b :: bs).getD (i + 1) 0 = bs.getD i 0 from rfl] at this
      rw [this]
      by_cases c : i = j
      · rw [if_pos c, if_pos (by omega)]
      · rw [if_neg c, if_neg (by omega)]), hb]
    omega
theorem rowP_len (many j : Nat) (x : Int) : (rowP many j x).length = many := by unfold rowP; rw [List.length_map, List.length_range]
theorem rowP_rev {many j : Nat} (x : Int) (hj : j < many) (i : Nat) : (rowP many j x).reverse.getD i 0 = if i = j then x else 0 := by
  by_cases c : i < many
  · rw [getD_of (by rw [List.length_reverse, rowP_len]; exact c), List.getElem_reverse]
    unfold rowP
    rw [List.getElem_map, List.getElem_range, List.length_map, List.length_range]
    by_cases e : i = j
    · rw [if_pos e, if_pos (by omega)]
    · rw [if_neg e, if_neg (by omega)]
  · rw [getD_len (by rw [List.length_reverse, rowP_len]; omega), if_neg (by omega)]
theorem guess_rowP {ws : List Int} {sh many j : Nat} {x : Int} (hj : j < many) (hl : ws.length ≤ many) : guessF ws sh (rowP many j x) = ws.getD j 0 * x / 2 ^ sh := by
  unfold guessF
  rw [dot_unit x ws _ j (by rw [List.length_reverse, rowP_len]; exact hl) (rowP_rev x hj)]
theorem told_parts {ws us : List Int} {sh th many j : Nat} {x : Int} (h : FoundAt ws sh us th many (some (j, x))) (h1 : ws.length ≤ many) (h2 : us.length ≤ many) : guessF ws sh (rowP many j x) ≠ guessF us th (rowP many j x) := by
  have hj : j < many := h.1
  rw [guess_rowP hj h1, guess_rowP hj h2]
  obtain ⟨m, _, _, _, hm⟩ := least_facts h
  rcases hm with ⟨u, rfl⟩ | ⟨_, u, rfl⟩
  · exact u
  · exact u
theorem found_alike {ws us : List Int} {sh th : Nat} : FoundAt ws sh us th (max ws.length us.length) none ↔ Alike ws sh us th := Iff.rfl
theorem found_some {ws us : List Int} {sh th j : Nat} {x : Int} (h : FoundAt ws sh us th (max ws.length us.length) (some (j, x))) : ¬ Alike ws sh us th := fun z => h.2.1 (z j h.1)
end My

namespace My
open PySem PySem.Spec PyProof.Rows L2 Pre
theorem while_to {c : TT} {tb : TS} {D : Ends} {σ : L2.St} {H : Hp} (Ex : L2.St → Hp → Prop) (hx : ∀ σ H, Ex σ H → D.nx σ H) (h : (∀ σ H, Ex σ H → D.nx σ H) → tWhile c tb D σ H) : tWhile c tb D σ H := h hx
theorem mk_same {H : Hp} {x dx C : Addr} (nx : H x = none) (ndx : H dx = none) : Same H (upd (upd H dx (.own x)) x (.ins C dx [])) := fun b o e => by
  rw [upd_ne (ne_of_none e nx), upd_ne (ne_of_none e ndx)]
  exact e
theorem mk_kept {H H' : Hp} {x dx C : Addr} (nx : H x = none) (ndx : H dx = none) (kp : ∀ b o, b ≠ x → (upd (upd H dx (.own x)) x (.ins C dx [])) b = some o → H' b = some o) : Same H H' := fun b o e => kp b o (ne_of_none e nx) (mk_same nx ndx b o e)
theorem sel_ints (L : List Int) (p : Int → Prop) [DecidablePred p] : (L.map fun n => if p n then some (V.int n) else none).filterMap id = (L.filter fun n => decide (p n)).map V.int := by
  induction L with
  | nil => rfl
  | cons n L ih =>
    by_cases c : p n
    · rw [List.map_cons, if_pos c, List.filter_cons_of_pos (by simpa using c)]
      show V.int n :: _ = V.int n :: _
      rw [ih]
    · rw [List.map_cons, if_neg c, List.filterMap_cons_none rfl, List.filter_cons_of_neg (by simpa using c), ih]
theorem last_at {zs : List Int} (h : zs ≠ []) : atI (zs.map V.int) (-1) = some (.int (zs.getD (zs.length - 1) 0)) := by
  have hl : 0 < zs.length := List.length_pos_iff.mpr h
  unfold atI
  unfold ixN
  rw [List.length_map, if_neg (by omega), if_pos (by omega)]
  rw [show (-1 + (zs.length : Int)).toNat = zs.length - 1 by omega]
  show (zs.map V.int)[zs.length - 1]? = _
  rw [List.getElem?_map, List.getElem?_eq_getElem (by omega), getD_of (by omega)]
  rfl
local macro_rules | `(tactic| walk_at "go") => `(tactic| repeat (first | (with_reducible first | refine iteT ?_ | refine iteF ?_ | refine iteNtt ?_ | refine iteNff ?_ | refine iteET (by omega) ?_ | refine iteEF (by omega) ?_ | refine iteENT (by omega) ?_ | refine iteENF (by omega) ?_ | refine iteDT (by omega) ?_ | refine iteDF (by omega) ?_ | refine iteNT (by omega) ?_ | refine iteNF (by omega) ?_) | refine ⟨_, rfl, ?_⟩ | refine ⟨_, _, rfl, rfl, ?_⟩ | refine ⟨_, _, rfl, ?_⟩ | refine ⟨rfl, ?_⟩ | refine .inl ⟨_, rfl, ?_⟩ | refine .inr ⟨_, rfl, ?_⟩))
local macro_rules | `(tactic| walk_at "b") => `(tactic| try dsimp (config := { proj := false, iota := false, eta := false, zeta := false }) only)
section
variable {P : Program} {w : World} {K : PySem.W.Frag} {mg : Str → Option Value} {base : Heap}
def odds (us : List Int) : List Int := us.filter fun n => decide (n % 2 = 1)
theorem odds_nil {us : List Int} : odds us = [] ↔ ∀ n ∈ us, n % 2 ≠ 1 := by
  unfold odds
  rw [List.filter_eq_nil_iff]
  simp
def sp_normal (C : Addr) : Sp := fun vs H Q _ => ∃ (a : Addr) (ws : List Int) (sh : Nat), vs = [.ref a] ∧ GuesserAt C H a ws sh ∧ ∀ x H' us th, Same H H' → H x = none → NormOf ws sh us th → GuesserAt C H' x us th → Q (.ref x) H'
theorem G_normal (T : Top K mg) : FnOk P w K mg base CX0 5 T.f_normal T.fd_normal ["guesser"] (sp_normal T.C_Guesser) := by
  refine T.F_normal.ok sc_normal (fun vs H Q E h => by obtain ⟨a, ws, sh, rfl, _⟩ := h; rfl) (fun cdv A outer s H vs Q E hr h => ?_)
  obtain ⟨a, ws, sh, rfl, hA, q⟩ := h
  refine ⟨_, PSs.nox (pss_cons (ps_expr (pe_call (G_check_guesser T) (hr.mono (by decide)) (by rfl) T.g_check_guesser T.F_check_guesser.kp T.b_check_guesser .nil pass0 (pa_cons (pv 0) pa_nil)))
  (pss_cons (ps_par (by rfl) sc_normal.nd (i := 1) (j := 2) rfl rfl (by decide) rfl rfl (pa_cons (pe_callTy (k_listOf K rfl) (by rfl) T.n_list (by decide +kernel) (pa_cons (pe_fld (pv 0) rfl) pa_nil)) (pa_cons (pe_fld (pv 0) rfl) pa_nil)) (by rfl))
  (pss_cons (ps_while PassesOwn.never (PW.pt (pw_and (pt_cmpR (k_neD K rfl hr.units) (pv 1) (pe_lst pa_nil) (nomark _)) (pw_and1 (pt_cmpR op_eq (pe_ix (k_ixL K rfl) (pv 1) (pe_un un_neg pe_int) (fun _ _ => rfl)) pe_int (nomark _)))))
    (pss_one (ps_expr (pe_bm0 PySem.F.plainAttrs_list PySem.F.slot_list_pop PySem.F.type_list_pop mt_pop (pv 1)))))
  (pss_cons (ps_while PassesOwn.never (PW.pt (pw_and (pt_cmpR op_gt (pv 2) pe_int (nomark _)) (pw_and1 (pt_cmpR (k_eqD K rfl hr.units) (pe_lc (own := [("weight", 3)]) (g := gName 3) (by rfl) sc_normal.nd (k_piL K rfl (pv 1)) (blkOk_by (own := [("weight", 3)]) (N := N_normal) (sc := defScope s_normal) (by decide +kernel)) (fun _ _ _ _ _ => (pg_name (i := 3) sc_normal.nd rfl (by first | exact Or.inl rfl | exact Or.inr rfl))) (fun _ _ _ _ _ => (pts_one (pt_cmpR op_eq (pe_op op_mod (pv 3) pe_int) pe_int (nomark _)))) (fun _ _ _ _ _ => (pv 3))) (pe_lst pa_nil) (nomark _)))))
    (pss_cons (ps_setLc (i := 1) (own := [("weight", 3)]) (g := gName 3) (tt := tYes) (by rfl) sc_normal.nd rfl rfl (sw_true rfl rfl rfl (by decide +kernel)) (k_piL K rfl (pv 1)) (blkOk_by (own := [("weight", 3)]) (N := N_normal) (sc := defScope s_normal) (by decide +kernel)) (fun _ _ _ _ _ => (pg_name (i := 3) sc_normal.nd rfl (by first | exact Or.inl rfl | exact Or.inr rfl))) (fun _ _ _ _ _ => pts_nil) (fun _ _ _ _ _ => (pe_op op_fdivW (pv 3) pe_int)))
  (pss_one (ps_set (i := 2) sc_normal.nd rfl (by first | exact Or.inl rfl | exact Or.inr rfl) (pe_op op_sub (pv 2) pe_int)))))
  (pss_one (ps_ret (pe_make T.mk_Guesser (G_Guesser___init__ T) (hr.mono (by decide)) (by rfl) T.gc_Guesser T.b_Guesser___init__ .nil pass0 (pa_cons (pv 1) (pa_cons (pv 2) pa_nil))))))))), ?_⟩
  obtain ⟨hW, hsh, dx, p, ha, hp⟩ := id hA
  have hw8 := hW.1
  walk_at "go"
  refine ⟨a, ws, sh, rfl, hA, ?_⟩
  walk_at "go"
  refine ⟨a, T.C_Guesser, dx, _, _, rfl, ha, T.cl_Guesser, T.na_Guesser_parts, rfl, ?_⟩
  refine ⟨p, _, rfl, .inl (.inl (.inl hp)), fun l nl => ?_⟩
  obtain ⟨H1, e1, s1, h1⟩ := fresh (.lst (ws.map V.int)) nl
  rw [e1]
  walk_at "go"
  refine ⟨a, T.C_Guesser, dx, _, _, rfl, s1 _ _ ha, T.cl_Guesser, T.na_Guesser_down, rfl, ?_⟩
  walk_at "go"
  -- while weights != [] and weights[-1] == 0
  refine while_to (fun σ H3 => ∃ zs : List Int, σ = [some (.ref a), some (.ref l), some (.int sh), none] ∧ Same H H3 ∧ H3 l = some (.lst (zs.map V.int)) ∧ Trim ws zs ∧ LastNot zs) ?_ ?_
  · rintro σ H3 ⟨zs, rfl, s3, h3, hT, hL⟩
    have hzl := hT.1
    -- while shift > 0 and ..
    refine while_to (fun σ H4 => ∃ (l2 : Addr) (us : List Int) (th : Nat), σ = [some (.ref a), some (.ref l2), some (.int th), none] ∧ Same H H4 ∧ H4 l2 = some (.lst (us.map V.int)) ∧ Halved zs sh us th ∧ (0 < th → ∃ n ∈ us, n % 2 = 1)) ?_ ?_
    · rintro σ H4 ⟨l2, us, th, rfl, s4, h4, hH, ho⟩
      have hN := normOf_mk hT hL hH ho
      have hWu : Weights us := by
        refine ⟨by have := hN.2.2.1; omega, fun n hn => ?_⟩
        obtain ⟨i, hi, e⟩ := List.mem_iff_getElem.mp hn
        have h1 := hN.2.2.2 i
        rw [getD_of hi, e] at h1
        have h2 : -32768 ≤ ws.getD i 0 ∧ ws.getD i 0 ≤ 32768 := by
          by_cases c : i < ws.length
          · rw [getD_of c]; exact hW.2 _ (List.getElem_mem c)
          · rw [getD_len (by omega)]; omega
        have h3 := hH.2.2 i
        rw [getD_of hi, e, hT.2.2] at h3
        have h4 := pow_pos' (sh - th)
        generalize (2 : Int) ^ (sh - th) = k at *
        rw [← h3] at h2
        by_cases c1 : n < -32768
        · have : n * k ≤ n * 1 := Int.mul_le_mul_of_nonpos_left (by omega) (by omega)
          omega
        · by_cases c2 : 32768 < n
          · have : n * 1 ≤ n * k := Int.mul_le_mul_of_nonneg_left (by omega) (by omega)
            omega
          · omega
      have hth := hH.1
      walk_at "go"
      intro z1 z2 z3 z4 z5
      refine ⟨z1, l2, z2, us, th, rfl, upd_same, .inl (mk_same z3 z4 _ _ h4), hWu, by omega, fun H5 kp hG _ => ⟨rfl, ?_⟩⟩
      exact q z1 H5 us th (s4.trans (mk_kept z3 z4 kp)) (s4.free z3) hN hG
    · intro hx
      refine ⟨fun m σ H4 => ∃ (l2 : Addr) (us : List Int) (th : Nat), σ = [some (.ref a), some (.ref l2), some (.int th), none] ∧ m = th ∧ Same H H4 ∧ H4 l2 = some (.lst (us.map V.int)) ∧ Halved zs sh us th, ⟨sh, l, zs, sh, rfl, rfl, s3, h3, Halved.refl zs sh⟩, ?_⟩
      rintro m σ H4 ⟨l2, us, th, rfl, rfl, s4, h4, hH⟩
      have hul : us.length ≤ 8 := by have := hH.2.1; omega
      walk_at "b"
      refine ⟨_, rfl, _, _, rfl, rfl, _, rfl, ?_⟩
      by_cases c : 0 < m
      · refine iteDT (by omega) ?_
        refine ⟨_, rfl, l2, rfl, ⟨_, .inl (.inl h4)⟩, fun D nD => ?_⟩
        refine lc_selL (K := K) (xs := us.map V.int) (us.map fun n => if n % 2 = 1 then some (V.int n) else none) nD (.inl (.inl h4)) (by rw [List.length_map, List.length_map]) (small_row (by omega)) (fun x => rfl) ?_ ?_
        · intro i x o H' hx ho s Qt qt
          obtain ⟨n, hn, rfl⟩ := int_at hx
          rw [List.getElem?_map, hn] at ho
          cases ho
          dsimp only at qt
          refine ⟨_, rfl, _, _, rfl, rfl, (by show (0 : Int) < 2; decide), rfl, _, rfl, ?_⟩
          by_cases e : n % 2 = 1
          · rw [if_pos e] at qt
            refine iteET e ?_
            exact ⟨_, rfl, qt _ (Same.refl _)⟩
          · rw [if_neg e] at qt
            refine iteEF e ?_
            exact qt _ (Same.refl _)
        · intro H5 s5 hD
          rw [sel_ints] at hD
          refine ⟨Nat.zero_le _, fun p5 np5 => ?_⟩
          obtain ⟨H6, e6, s6, h6⟩ := fresh (.lst (([] : List Int).map V.int)) np5
          have e6' : upd H5 p5 (.lst []) = H6 := e6
          rw [e6']
          refine eqD_lst (ns := odds us) (ms := []) (.inl (.inl (s6 _ _ hD))) (.inl (.inl h6)) ?_
          have h46 := (s5.trans s6) _ _ h4
          have s46 := s4.trans (s5.trans s6)
          refine ⟨_, rfl, ?_⟩
          by_cases ho : odds us = []
          · refine iteDT ho ?_
            refine ⟨fun σ' H' => ∃ (l2 : Addr) (us : List Int), σ' = [some (.ref a), some (.ref l2), some (.int (m - 1 : Nat)), none] ∧ Same H H' ∧ H' l2 = some (.lst (us.map V.int)) ∧ Halved zs sh us (m - 1), fun σ' H' ⟨l2, us, e1, e2, e3, e4⟩ => ⟨m - 1, by omega, l2, us, m - 1, e1, rfl, e2, e3, e4⟩, ?_⟩
            refine ⟨_, rfl, l2, rfl, ⟨_, .inl (.inl h46)⟩, fun D2 nD2 => ?_⟩
            refine lc_mapL (K := K) (xs := us.map V.int) ((half us).map V.int) nD2 (.inl (.inl h46)) (by unfold half; rw [List.length_map, List.length_map, List.length_map]) (small_row (by omega)) (fun x => rfl) ?_ ?_
            · intro i x y H' hx hy s Qt qt
              obtain ⟨n, hn, rfl⟩ := int_at hx
              unfold half at hy
              rw [List.getElem?_map, List.getElem?_map, hn] at hy
              cases hy
              exact ⟨_, rfl, _, _, rfl, rfl, ⟨by decide, by decide +kernel⟩, qt _ (Same.refl _)⟩
            · intro H7 s7 hD2
              refine ⟨_, rfl, _, _, rfl, rfl, D2, half us, ?_, s46.trans s7, hD2, hH.step c (odds_nil.mp ho)⟩
              show [some (V.ref a), some (V.ref D2), some (V.int ((m : Int) - 1)), none] = _
              rw [show ((m - 1 : Nat) : Int) = (m : Int) - 1 by omega]
          · refine iteDF ho ?_
            refine hx _ _ ⟨l2, us, m, rfl, s46, h46, hH, fun _ => ?_⟩
            by_cases h : ∃ n ∈ us, n % 2 = 1
            · exact h
            · exact absurd (odds_nil.mpr fun n hn e => h ⟨n, hn, e⟩) ho
      · refine iteDF (by omega) ?_
        exact hx _ _ ⟨l2, us, m, rfl, s4, h4, hH, fun z => absurd z c⟩
  · intro hx
    refine ⟨fun m σ H3 => ∃ zs : List Int, σ = [some (.ref a), some (.ref l), some (.int sh), none] ∧ m = zs.length ∧ Same H H3 ∧ H3 l = some (.lst (zs.map V.int)) ∧ Trim ws zs, ⟨ws.length, ws, rfl, rfl, s1, h1, Trim.refl ws⟩, ?_⟩
    rintro m σ H3 ⟨zs, rfl, rfl, s3, h3, hT⟩
    have hzl := hT.1
    walk_at "b"
    refine ⟨_, rfl, Nat.zero_le _, fun c nc => ?_⟩
    obtain ⟨H4, e4, s4, h4⟩ := fresh (.lst (([] : List Int).map V.int)) nc
    have e4' : upd H3 c (.lst []) = H4 := e4
    rw [e4']
    have h34 := s4 _ _ h3
    have s04 := s3.trans s4
    refine neD_lst (ns := zs) (ms := []) (.inl (.inl h34)) (.inl (.inl h4)) ?_
    refine ⟨_, rfl, ?_⟩
    by_cases hz : zs = []
    · refine iteNF hz ?_
      exact hx _ _ ⟨zs, rfl, s04, h34, hT, fun z => absurd hz z⟩
    · refine iteNT hz ?_
      have hpos : 0 < zs.length := List.length_pos_iff.mpr hz
      walk_at "go"
      refine ⟨l, _, _, _, rfl, rfl, .inl (.inl h34), last_at hz, ?_⟩
      refine ⟨rfl, _, rfl, ?_⟩
      by_cases h0 : zs.getD (zs.length - 1) 0 = 0
      · refine iteET h0 ?_
        refine ⟨fun σ' H' => ∃ zs' : List Int, σ' = [some (.ref a), some (.ref l), some (.int sh), none] ∧ zs'.length < zs.length ∧ Same H H' ∧ H' l = some (.lst (zs'.map V.int)) ∧ Trim ws zs', fun σ' H' ⟨zs', f1, f2, f3, f4, f5⟩ => ⟨zs'.length, f2, zs', f1, rfl, f3, f4, f5⟩, ?_⟩
        refine ⟨_, rfl, .inl ⟨rfl, _, .inl (.inl h34)⟩, l, _, .int 0, rfl, rfl, h34, ?_, ?_⟩
        · rw [List.length_map, List.getElem?_map, List.getElem?_eq_getElem (by omega), ← getD_of (by omega), h0]
          rfl
        · refine ⟨zs.dropLast, rfl, by rw [List.length_dropLast]; omega, same_over nl s04, ?_, hT.drop hz h0⟩
          rw [upd_same, List.map_dropLast]
      · refine iteEF h0 ?_
        exact hx _ _ ⟨zs, rfl, s04, h34, hT, fun _ => h0⟩
end
end My

namespace My
open PySem PySem.Spec PyProof.Rows L2 Pre
theorem But.off {g : Addr} {H H1 : Hp} {a : Addr} {o' : HO} (b : But g H H1) (n : H a = none) : But g H (L2.upd H1 a o') := fun c u nc h => by
  rw [upd_ne (ne_of_none h n)]
  exact b c u nc h
theorem GenAt.off {H : Hp} {g a : Addr} {n : Nat} {o : HO} (h : GenAt H g n) (na : a ≠ g) : GenAt (L2.upd H a o) g n := by
  obtain ⟨x, y, z, e, r⟩ := h
  exact ⟨x, y, z, by rw [upd_ne na.symm]; exact e, r⟩
theorem at_ints {l : List Int} {k : Nat} (h : k < l.length) : atI (l.map V.int) (k : Int) = some (.int (l.getD k 0)) := by
  refine at_of (j := k) (by omega) ?_
  rw [List.getElem?_map, List.getElem?_eq_getElem h, getD_of h]
  rfl
theorem ix_ints {l : List Int} {k : Nat} (h : k < l.length) : ixN (l.map V.int).length (k : Int) = some k := by
  rw [List.length_map]
  unfold ixN
  rw [if_pos (by omega), Int.toNat_natCast, if_pos (by omega)]
local macro_rules | `(tactic| walk_at "go") => `(tactic| repeat (first | (with_reducible first | refine iteT ?_ | refine iteF ?_ | refine iteNtt ?_ | refine iteNff ?_ | refine iteET (by omega) ?_ | refine iteEF (by omega) ?_ | refine iteENT (by omega) ?_ | refine iteENF (by omega) ?_ | refine iteDT (by omega) ?_ | refine iteDF (by omega) ?_ | refine iteNT (by omega) ?_ | refine iteNF (by omega) ?_) | refine ⟨_, rfl, ?_⟩ | refine ⟨_, _, rfl, rfl, ?_⟩ | refine ⟨_, _, rfl, ?_⟩ | refine ⟨rfl, ?_⟩ | refine .inl ⟨_, rfl, ?_⟩ | refine .inr ⟨_, rfl, ?_⟩))
local macro_rules | `(tactic| walk_at "b") => `(tactic| try dsimp (config := { proj := false, iota := false, eta := false, zeta := false }) only)
section
variable {P : Program} {w : World} {K : PySem.W.Frag} {mg : Str → Option Value} {base : Heap}
def sp_law_weights : Sp := fun vs H Q _ => ∃ (g : Addr) (m n : Nat), vs = [.ref g, .int m] ∧ GenAt H g n ∧ n ≤ 10 ^ 9 ∧ m ≤ 10 ∧ ∀ H' p (ys : List Int), H p = none → But g H H' → GenAt H' g (n + 400 * m) → H' p = some (.lst (ys.map V.int)) → ys.length = m → (∀ y ∈ ys, -32768 ≤ y ∧ y ≤ 32768) → Q (.ref p) H'
theorem G_law_weights (T : Top K mg) : FnOk P w K mg base CX0 3 T.f_law_weights T.fd_law_weights ["_law_generator_here", "_law_many"] sp_law_weights := by
  refine T.F_law_weights.ok sc_law_weights (fun vs H Q E h => by obtain ⟨g, m, n, rfl, _⟩ := h; rfl) (fun cdv A outer s H vs Q E hr h => ?_)
  obtain ⟨g, m, n, rfl, hG, hn, hm, q⟩ := h
  refine ⟨_, PSs.nox (pss_cons (ps_set (i := 2) sc_law_weights.nd rfl (by first | exact Or.inl rfl | exact Or.inr rfl) (pe_lst pa_nil))
  (pss_cons (ps_for PassesOwn.never rfl (pi_range1 (by rfl) T.n_range (pa_cons (pv 1) pa_nil)) (pg_name (i := 3) sc_law_weights.nd rfl (by first | exact Or.inl rfl | exact Or.inr rfl))
    (pss_cons (ps_par (by rfl) sc_law_weights.nd (i := 4) (j := 5) rfl rfl (by decide) rfl rfl (pa_cons (pe_op op_sub (pe_call (G_law_random T) (hr.mono (by decide)) (by rfl) T.g_law_random T.F_law_random.kp T.b_law_random .nil pass0 (pa_cons (pv 0) (pa_cons (pe_op op_add (pe_op op_powW pe_int pe_int) pe_int) pa_nil))) (pe_op op_powW pe_int pe_int)) (pa_cons (pe_call (G_law_random T) (hr.mono (by decide)) (by rfl) T.g_law_random T.F_law_random.kp T.b_law_random .nil pass0 (pa_cons (pv 0) (pa_cons pe_int pa_nil))) pa_nil)) (by rfl))
  (pss_one (ps_expr (pe_bm PySem.F.plainAttrs_list PySem.F.slot_list_append PySem.F.type_list_append mt_append (pv 2) (pa_cons (pe_ix (k_ixL K rfl) (pe_lst (pa_cons (pe_op op_sub (pe_call (G_law_random T) (hr.mono (by decide)) (by rfl) T.g_law_random T.F_law_random.kp T.b_law_random .nil pass0 (pa_cons (pv 0) (pa_cons pe_int pa_nil))) pe_int) (pa_cons (pe_op op_sub (pe_call (G_law_random T) (hr.mono (by decide)) (by rfl) T.g_law_random T.F_law_random.kp T.b_law_random .nil pass0 (pa_cons (pv 0) (pa_cons pe_int pa_nil))) pe_int) (pa_cons pe_int (pa_cons (pv 4) pa_nil))))) (pv 5) (fun _ _ => rfl)) pa_nil))))))
  (pss_one (ps_ret (pv 2))))), ?_⟩
  refine ⟨Nat.zero_le _, fun f nf => ?_⟩
  have nfg := hG.ne nf
  obtain ⟨H1, e1, s1, h1⟩ := fresh (.lst (([] : List Int).map V.int)) nf
  have e1' : upd H f (.lst []) = H1 := e1
  rw [e1']
  refine ⟨_, rfl, _, rfl, by omega, by omega, ?_⟩
  rw [Int.toNat_natCast]
  refine for_range (lo := 0) (n := m) (fun i σ H2 => ∃ (v3 v4 v5 : Option V) (ys : List Int), σ = [some (.ref g), some (.int m), some (.ref f), v3, v4, v5] ∧ But g H H2 ∧ GenAt H2 g (n + 400 * i) ∧ H2 f = some (.lst (ys.map V.int)) ∧ ys.length = i ∧ ∀ y ∈ ys, -32768 ≤ y ∧ y ≤ 32768) ⟨none, none, none, [], rfl, But.of s1, hG.same s1, h1, rfl, fun _ h => nomatch h⟩ ?_ ?_
  · rintro i σ H2 hi ⟨v3, v4, v5, ys, rfl, b2, g2, hf2, hyl, hys⟩
    walk_at "go"
    refine ⟨⟨by decide, by decide +kernel⟩, ?_⟩
    walk_at "go"
    refine ⟨g, _, _, rfl, g2, by omega, by decide, small_2900 (by decide), fun r1 H3 r10 r11 g3 b3 => ?_⟩
    walk_at "go"
    refine ⟨⟨by decide, by decide +kernel⟩, ?_⟩
    walk_at "go"
    refine ⟨g, _, _, rfl, g3, by omega, by decide, small_2900 (by decide), fun kd H4 k0 k1 g4 b4 => ?_⟩
    walk_at "go"
    have hf4 := b4 _ _ nfg (b3 _ _ nfg hf2)
    refine ⟨.inl ⟨rfl, _, .inl (.inl hf4)⟩, ?_⟩
    walk_at "go"
    refine ⟨g, _, _, rfl, g4, by omega, by decide, small_2900 (by decide), fun r2 H5 r20 r21 g5 b5 => ?_⟩
    walk_at "go"
    refine ⟨g, _, _, rfl, g5, by omega, by decide, small_2900 (by decide), fun r3 H6 r30 r31 g6 b6 => ?_⟩
    walk_at "go"
    refine ⟨(show 4 ≤ sizeLine by decide), fun c nc => ?_⟩
    have hf6 := b6 _ _ nfg (b5 _ _ nfg hf4)
    have ncf : f ≠ c := ne_of_none hf6 nc
    obtain ⟨y, hy, hyb⟩ : ∃ y : Int, atI [V.int (r2 - 4), V.int (r3 - 2), V.int 0, V.int (r1 - 2 ^ 15)] kd = some (.int y) ∧ -32768 ≤ y ∧ y ≤ 32768 := by
      have hp16 : (2 : Int) ^ 16 + 1 = 65537 := by decide
      have hp15 : (2 : Int) ^ 15 = 32768 := by decide
      have r11' : r1 < 65537 := r11
      have hk : kd = 0 ∨ kd = 1 ∨ kd = 2 ∨ kd = 3 := by omega
      rcases hk with rfl | rfl | rfl | rfl
      · exact ⟨_, rfl, by omega, by omega⟩
      · exact ⟨_, rfl, by omega, by omega⟩
      · exact ⟨_, rfl, by omega, by omega⟩
      · exact ⟨_, rfl, by omega, by omega⟩
    walk_at "go"
    refine ⟨c, _, _, _, rfl, rfl, .inl (.inl upd_same), hy, ?_⟩
    have s7 := same_upd (o := HO.lst [V.int (r2 - 4), V.int (r3 - 2), V.int 0, V.int (r1 - 2 ^ 15)]) nc
    have b27 : But g H2 _ := (((b3.trans b4).trans b5).trans b6).same s7
    refine ⟨f, _, _, rfl, rfl, b27 _ _ nfg hf2, by rw [List.length_map]; exact small1000 (by omega), ?_⟩
    refine ⟨_, _, _, ys ++ [y], rfl, (b2.trans b27).off nf, ((g6.same s7).off nfg).mono (by omega), ?_, by rw [List.length_append, hyl]; rfl, fun z hz => ?_⟩
    · rw [upd_same, List.map_append]
      rfl
    · rcases List.mem_append.mp hz with hz | hz
      · exact hys z hz
      · rw [List.mem_singleton.mp hz]; exact hyb
  · rintro σ H2 ⟨v3, v4, v5, ys, rfl, b2, g2, hf2, hyl, hys⟩
    walk_at "go"
    exact q _ f ys nf b2 g2 hf2 hyl hys
def clampI (n : Int) : Int := if (-40 : Int) > (if (40 : Int) < n then 40 else n) then -40 else (if (40 : Int) < n then 40 else n)
theorem clampI_ok (n : Int) : -40 ≤ clampI n ∧ clampI n ≤ 40 := by unfold clampI; split <;> split at * <;> omega
def sp_law_small (K : PySem.W.Frag) : Sp := fun vs H Q _ => ∃ (a : Addr) (ns : List Int), vs = [.ref a] ∧ SqL K H a (ns.map V.int) ∧ ns.length ≤ 100 ∧ ∀ H' p, Same H H' → H p = none → H' p = some (.lst ((ns.map clampI).map V.int)) → Q (.ref p) H'
theorem G_law_small (T : Top K mg) : FnOk P w K mg base CX0 1 T.f_law_small T.fd_law_small ["_law_weights_here"] (sp_law_small K) := by
  refine T.F_law_small.ok sc_law_small (fun vs H Q E h => by obtain ⟨a, ns, rfl, _⟩ := h; rfl) (fun cdv A outer s H vs Q E hr h => ?_)
  obtain ⟨a, ns, rfl, hA, hl, q⟩ := h
  refine ⟨_, PSs.nox (pss_one (ps_ret (pe_lc (own := [("_law_weight", 1)]) (g := gName 1) (tt := tYes) (by rfl) sc_law_small.nd (k_piL K rfl (pv 0)) (blkOk_by (own := [("_law_weight", 1)]) (N := N_law_small) (sc := defScope s_law_small) (by decide +kernel)) (fun _ _ _ _ _ => (pg_name (i := 1) sc_law_small.nd rfl (by first | exact Or.inl rfl | exact Or.inr rfl))) (fun _ _ _ _ _ => pts_nil) (fun _ _ _ _ _ => (pe_callB (call_max2 rfl) (by rfl) T.n_max (by decide +kernel) (pa_cons (pe_callB (call_min2 rfl) (by rfl) T.n_min (by decide +kernel) (pa_cons (pv 1) (pa_cons pe_int pa_nil))) (pa_cons (pe_un un_neg pe_int) pa_nil))))))), ?_⟩
  refine ⟨_, rfl, a, rfl, ⟨_, hA⟩, fun D nD => ?_⟩
  refine lc_mapL (K := K) (xs := ns.map V.int) ((ns.map clampI).map V.int) nD hA (by rw [List.length_map, List.length_map, List.length_map]) (small_row (by omega)) (fun x => rfl) ?_ ?_
  · intro i x y H' hx hy s Qt qt
    obtain ⟨n, hn, rfl⟩ := int_at hx
    rw [List.getElem?_map, List.getElem?_map, hn] at hy
    cases hy
    walk_at "go"
    exact qt _ (Same.refl _)
  · intro H' s hD
    exact q _ D s nD hD
def padF (ws : List Int) (many : Nat) : List Int := ws ++ List.replicate (many - ws.length) 0
theorem padF_len {ws : List Int} {many : Nat} (h : ws.length ≤ many) : (padF ws many).length = many := by unfold padF; rw [List.length_append, List.length_replicate]; omega
theorem padF_at (ws : List Int) (many i : Nat) : (padF ws many).getD i 0 = ws.getD i 0 := by
  unfold padF
  rw [List.getD_eq_getElem?_getD, List.getD_eq_getElem?_getD]
  by_cases c : i < ws.length
  · rw [List.getElem?_append_left c]
  · rw [List.getElem?_append_right (by omega), List.getElem?_eq_none (l := ws) (by omega), List.getElem?_replicate]
    split <;> rfl
theorem rep0 (k : Nat) : (List.replicate k [V.int 0]).flatten = (List.replicate k (0 : Int)).map V.int := by
  induction k with
  | zero => rfl
  | succ k ih => rw [List.replicate_succ, List.flatten_cons, ih, List.replicate_succ]; rfl
def sp_law_padded (K : PySem.W.Frag) : Sp := fun vs H Q _ => ∃ (a : Addr) (ws : List Int) (m : Nat), vs = [.ref a, .int m] ∧ H a = some (.lst (ws.map V.int)) ∧ ws.length ≤ m ∧ m ≤ 100 ∧ ∀ H' p, Same H H' → H p = none → H' p = some (.lst ((padF ws m).map V.int)) → Q (.ref p) H'
theorem G_law_padded (T : Top K mg) : FnOk P w K mg base CX0 1 T.f_law_padded T.fd_law_padded ["_law_weights_here", "_law_many"] (sp_law_padded K) := by
  refine T.F_law_padded.ok sc_law_padded (fun vs H Q E h => by obtain ⟨a, ws, m, rfl, _⟩ := h; rfl) (fun cdv A outer s H vs Q E hr h => ?_)
  obtain ⟨a, ws, m, rfl, hA, hl, hm, q⟩ := h
  refine ⟨_, PSs.nox (pss_one (ps_ret (pe_op op_cat (pv 0) (pe_op op_rep (pe_lst (pa_cons pe_int pa_nil)) (pe_op op_sub (pv 1) (pe_callB (k_len K rfl) (by rfl) T.n_len (by decide +kernel) (pa_cons (pv 0) pa_nil))))))), ?_⟩
  walk_at "go"
  refine ⟨(show 1 ≤ sizeLine by decide), fun l nl => ?_⟩
  obtain ⟨H1, e1, s1, h1⟩ := fresh (.lst [V.int 0]) nl
  rw [e1]
  walk_at "go"
  refine ⟨a, _, rfl, .inl (.inl (.inl (s1 _ _ hA))), ?_⟩
  rw [List.length_map]
  refine ⟨_, _, rfl, rfl, ?_⟩
  walk_at "b"
  rw [show (m : Int) - (ws.length : Int) = ((m - ws.length : Nat) : Int) by omega]
  refine ⟨l, _, _, rfl, rfl, h1, by omega, by omega, ?_, fun f nf => ?_⟩
  · rw [Int.toNat_natCast]
    show 1 * _ ≤ sizeLine
    rw [sizeLine_eq]
    omega
  rw [Int.toNat_natCast, rep0]
  obtain ⟨H2, e2, s2, h2⟩ := fresh (.lst ((List.replicate (m - ws.length) (0 : Int)).map V.int)) nf
  rw [e2]
  refine ⟨a, f, _, _, rfl, rfl, (s1.trans s2) _ _ hA, h2, ?_, fun p np => ?_⟩
  · rw [List.length_map, List.length_map, List.length_replicate, sizeLine_eq]
    omega
  · refine q _ p ((s1.trans s2).trans (same_upd np)) ((s1.trans s2).free np) ?_
    rw [upd_same, ← List.map_append]
    rfl
/-- weights and a shift, in a list -/
def WS (H : Hp) (a : Addr) (ws : List Int) (sh : Nat) : Prop := ∃ p, H a = some (.lst [.ref p, .int sh]) ∧ H p = some (.lst (ws.map V.int))
theorem WS.same {H H' : Hp} {a : Addr} {ws : List Int} {sh : Nat} (h : WS H a ws sh) (s : Same H H') : WS H' a ws sh := by
  obtain ⟨p, h1, h2⟩ := h
  exact ⟨p, s _ _ h1, s _ _ h2⟩
theorem at2_0 (a b : V) : atI [a, b] 0 = some a := rfl
theorem at2_1 (a b : V) : atI [a, b] 1 = some b := rfl
def Big (ws : List Int) : Prop := ∀ n ∈ ws, -(2 ^ 60) < n ∧ n < 2 ^ 60
theorem Big.at_ {ws : List Int} (h : Big ws) (i : Nat) : -(2 ^ 60) < ws.getD i 0 ∧ ws.getD i 0 < 2 ^ 60 := by
  by_cases c : i < ws.length
  · rw [getD_of c]; exact h _ (List.getElem_mem c)
  · rw [getD_len (by omega)]; omega
def sp_law_unlike : Sp := fun vs H Q _ => ∃ (a b : Addr) (ws us : List Int) (sh th i : Nat) (n : Int), vs = [.ref a, .ref b, .int i, .int n] ∧ WS H a ws sh ∧ WS H b us th ∧ i < ws.length ∧ i < us.length ∧ Big ws ∧ Big us ∧ sh ≤ 15 ∧ th ≤ 15 ∧ ∀ r : Bool, (r = true ↔ UnlAt ws sh us th i n) → Q (.bl r) H
theorem G_law_unlike (T : Top K mg) : FnOk P w K mg base CX0 1 T.f_law_unlike T.fd_law_unlike ["_law_one", "_law_other", "_law_place", "_law_number"] sp_law_unlike := by
  refine T.F_law_unlike.ok sc_law_unlike (fun vs H Q E h => by obtain ⟨a, b, ws, us, sh, th, i, n, rfl, _⟩ := h; rfl) (fun cdv A outer s H vs Q E hr h => ?_)
  obtain ⟨a, b, ws, us, sh, th, i, n, rfl, ⟨p, hA, hp⟩, ⟨p2, hB, hp2⟩, hi, hi2, hw, hu, hsh, hth, q⟩ := h
  refine ⟨_, PSs.nox (pss_cons (ps_set (i := 4) sc_law_unlike.nd rfl (by first | exact Or.inl rfl | exact Or.inr rfl) (pe_op op_fdivW (pe_op op_mul (pe_ix (k_ixL K rfl) (pe_ix (k_ixL K rfl) (pv 0) pe_int (fun _ _ => rfl)) (pv 2) (fun _ _ => rfl)) (pv 3)) (pe_op op_shl pe_int (pe_ix (k_ixL K rfl) (pv 0) pe_int (fun _ _ => rfl)))))
  (pss_one (ps_ret (pe_cmpR op_ne (pv 4) (pe_op op_fdivW (pe_op op_mul (pe_ix (k_ixL K rfl) (pe_ix (k_ixL K rfl) (pv 1) pe_int (fun _ _ => rfl)) (pv 2) (fun _ _ => rfl)) (pv 3)) (pe_op op_shl pe_int (pe_ix (k_ixL K rfl) (pv 1) pe_int (fun _ _ => rfl)))) (nomark _))))), ?_⟩
  have hq1 := pow_pos' sh
  have hq2 := pow_pos' th
  have hp1 : (2 : Int) ^ sh ≤ 2 ^ 15 := pow2_le hsh
  have hp3 : (2 : Int) ^ th ≤ 2 ^ 15 := pow2_le hth
  have w1 := hw.at_ i
  have w2 := hu.at_ i
  walk_at "go"
  refine ⟨a, _, _, _, rfl, rfl, .inl (.inl hA), at2_0 _ _, ?_⟩
  walk_at "go"
  refine ⟨p, _, _, _, rfl, rfl, .inl (.inl hp), at_ints hi, ?_⟩
  walk_at "go"
  refine ⟨.inl ⟨by omega, by omega⟩, ?_⟩
  walk_at "go"
  refine ⟨a, _, _, _, rfl, rfl, .inl (.inl hA), at2_1 _ _, ?_⟩
  refine ⟨_, _, rfl, rfl, ⟨by omega, by omega, by decide⟩, ?_⟩
  walk_at "b"
  rw [Int.toNat_natCast, Int.one_mul]
  refine ⟨_, _, rfl, rfl, wide_div (b := 60) hq1 (by omega) (by decide) (by decide), ?_⟩
  walk_at "go"
  refine ⟨b, _, _, _, rfl, rfl, .inl (.inl hB), at2_0 _ _, ?_⟩
  walk_at "go"
  refine ⟨p2, _, _, _, rfl, rfl, .inl (.inl hp2), at_ints hi2, ?_⟩
  walk_at "go"
  refine ⟨.inl ⟨by omega, by omega⟩, ?_⟩
  walk_at "go"
  refine ⟨b, _, _, _, rfl, rfl, .inl (.inl hB), at2_1 _ _, ?_⟩
  refine ⟨_, _, rfl, rfl, ⟨by omega, by omega, by decide⟩, ?_⟩
  walk_at "b"
  rw [Int.toNat_natCast, Int.one_mul]
  refine ⟨_, _, rfl, rfl, wide_div (b := 60) hq2 (by omega) (by decide) (by decide), ?_⟩
  walk_at "go"
  refine q _ ?_
  unfold UnlAt Unl
  by_cases c : ws.getD i 0 * n / 2 ^ sh = us.getD i 0 * n / 2 ^ th
  · rw [c]
    simp
  · simp [c]
end
end My

namespace My
open PySem PySem.Spec PyProof.Rows L2 Pre
/-- the ways of a test that come together -/
theorem to_join {t : TT} {σ : L2.St} {H : Hp} {Q : Bool → Hp → Prop} (Ht : Hp → Prop) (ht : ∀ H2, Ht H2 → Q true H2) (h : (∀ H2, Ht H2 → Q true H2) → t σ H Q) : t σ H Q := h ht
local macro_rules | `(tactic| walk_at "go") => `(tactic| repeat (first | (with_reducible first | refine iteT ?_ | refine iteF ?_ | refine iteNtt ?_ | refine iteNff ?_ | refine iteET (by omega) ?_ | refine iteEF (by omega) ?_ | refine iteENT (by omega) ?_ | refine iteENF (by omega) ?_ | refine iteDT (by omega) ?_ | refine iteDF (by omega) ?_ | refine iteNT (by omega) ?_ | refine iteNF (by omega) ?_) | refine ⟨_, rfl, ?_⟩ | refine ⟨_, _, rfl, rfl, ?_⟩ | refine ⟨_, _, rfl, ?_⟩ | refine ⟨rfl, ?_⟩ | refine .inl ⟨_, rfl, ?_⟩ | refine .inr ⟨_, rfl, ?_⟩))
local macro_rules | `(tactic| walk_at "b") => `(tactic| try dsimp (config := { proj := false, iota := false, eta := false, zeta := false }) only)
section
variable {P : Program} {w : World} {K : PySem.W.Frag} {mg : Str → Option Value} {base : Heap}
def sp_law_least : Sp := fun vs H Q _ => ∃ (a b : Addr) (ws us : List Int) (sh th many j : Nat) (x : Int), vs = [.ref a, .ref b, .int many] ∧ WS H a ws sh ∧ WS H b us th ∧ ws.length = many ∧ us.length = many ∧ Big ws ∧ Big us ∧ sh ≤ 15 ∧ th ≤ 15 ∧ many ≤ 100 ∧ FoundAt ws sh us th many (some (j, x)) ∧
  ∀ H' p, Same H H' → H p = none → H' p = some (.lst [.int j, .int x]) → Q (.ref p) H'
theorem G_law_least (T : Top K mg) : FnOk P w K mg base CX0 2 T.f_law_least T.fd_law_least ["_law_one", "_law_other", "_law_many"] sp_law_least := by
  refine T.F_law_least.ok sc_law_least (fun vs H Q E h => by obtain ⟨a, b, ws, us, sh, th, many, j, x, rfl, _⟩ := h; rfl) (fun cdv A outer s H vs Q E hr h => ?_)
  obtain ⟨a, b, ws, us, sh, th, many, j, x, rfl, hA, hB, hwl, hul, hw, hu, hsh, hth, hm, hF, q⟩ := h
  refine ⟨_, PSs.nox (pss_cons (ps_set (i := 3) sc_law_least.nd rfl (by first | exact Or.inl rfl | exact Or.inr rfl) pe_int)
  (pss_one (ps_while PassesOwn.never (pt_val pe_bl)
    (pss_cons (ps_set (i := 3) sc_law_least.nd rfl (by first | exact Or.inl rfl | exact Or.inr rfl) (pe_op op_add (pv 3) pe_int))
  (pss_one (ps_for PassesOwn.never rfl (pi_range1 (by rfl) T.n_range (pa_cons (pv 2) pa_nil)) (pg_name (i := 4) sc_law_least.nd rfl (by first | exact Or.inl rfl | exact Or.inr rfl))
    (pss_one (ps_for PassesOwn.never rfl (k_piL K rfl (pe_lst (pa_cons (pv 3) (pa_cons (pe_op op_sub pe_int (pv 3)) pa_nil)))) (pg_name (i := 5) sc_law_least.nd rfl (by first | exact Or.inl rfl | exact Or.inr rfl))
    (pss_one (ps_if (pt_val (pe_call (G_law_unlike T) (hr.mono (by decide)) (by rfl) T.g_law_unlike T.F_law_unlike.kp T.b_law_unlike .nil pass0 (pa_cons (pv 0) (pa_cons (pv 1) (pa_cons (pv 4) (pa_cons (pv 5) pa_nil))))))
    (pss_one (ps_ret (pe_lst (pa_cons (pv 4) (pa_cons (pv 5) pa_nil)))))
    pss_nil)))))))))), ?_⟩
  obtain ⟨m, m1, hj, hno, hyes⟩ := least_facts hF
  refine ⟨fun k σ H2 => ∃ (n : Nat) (v4 v5 : Option V), σ = [some (.ref a), some (.ref b), some (.int many), some (.int n), v4, v5] ∧ n < m ∧ k = m - n ∧ Same H H2, ⟨m, 0, none, none, rfl, by omega, by omega, Same.refl H⟩, ?_⟩
  rintro k σ H2 ⟨n, v4, v5, rfl, hn, rfl, s2⟩
  walk_at "b"
  refine ⟨true, rfl, iteT ?_⟩
  refine ⟨fun σ' H' => ∃ (v4 v5 : Option V), σ' = [some (.ref a), some (.ref b), some (.int many), some (.int (n + 1 : Nat)), v4, v5] ∧ n + 1 < m ∧ Same H H', fun σ' H' ⟨v4, v5, e1, e2, e3⟩ => ⟨m - (n + 1), by omega, n + 1, v4, v5, e1, e2, rfl, e3⟩, ?_⟩
  walk_at "b"
  refine ⟨_, rfl, _, _, rfl, rfl, ?_⟩
  walk_at "b"
  rw [show (n : Int) + 1 = ((n + 1 : Nat) : Int) by omega]
  refine ⟨_, rfl, _, rfl, by omega, by omega, ?_⟩
  rw [Int.toNat_natCast]
  refine for_range (lo := 0) (n := many) (fun i σ H3 => ∃ (v4 v5 : Option V), σ = [some (.ref a), some (.ref b), some (.int many), some (.int (n + 1 : Nat)), v4, v5] ∧ Same H H3 ∧ (n + 1 = m → i ≤ j)) ⟨_, _, rfl, s2, fun _ => Nat.zero_le _⟩ ?_ ?_
  · rintro i σ H3 hi ⟨v4, v5, rfl, s3, hij⟩
    rw [show (0 : Int) + (i : Int) = i by omega]
    walk_at "go"
    refine ⟨(show 2 ≤ sizeLine by decide), fun l nl => ?_⟩
    obtain ⟨H4, e4, s4, h4⟩ := fresh (.lst ([((n + 1 : Nat) : Int), 0 - ((n + 1 : Nat) : Int)].map V.int)) nl
    have e4' : upd H3 l (.lst [V.int ((n + 1 : Nat) : Int), V.int (0 - ((n + 1 : Nat) : Int))]) = H4 := e4
    rw [e4']
    have s04 := s3.trans s4
    have hL : ∀ {H' : Hp}, Same H4 H' → SqL K H' l ([((n + 1 : Nat) : Int), 0 - ((n + 1 : Nat) : Int)].map V.int) := fun s => .inl (.inl (s _ _ h4))
    -- what this place says
    have hone : ∀ (z : Int) (r : Bool), (z = (n + 1 : Nat) ∨ (z = 0 - ((n + 1 : Nat) : Int) ∧ ¬ UnlAt ws sh us th i (n + 1 : Nat))) → (r = true ↔ UnlAt ws sh us th i z) → (r = true → n + 1 = m ∧ i = j ∧ z = x) := fun z r hz hr e => by
      have u := hr.mp e
      have hcase : n + 1 = m ∧ i = j := by
        by_cases c : n + 1 < m ∨ (n + 1 = m ∧ i < j)
        · have := hno (n + 1) i (by omega) hi c
          rcases hz with rfl | ⟨rfl, _⟩
          · exact absurd u this.1
          · rw [Int.zero_sub] at u
            exact absurd u this.2
        · have h1 : n + 1 = m := by omega
          exact ⟨h1, by have := hij h1; omega⟩
      obtain ⟨c1, c2⟩ := hcase
      refine ⟨c1, c2, ?_⟩
      subst c2
      rw [c1] at hz
      rcases hz with rfl | ⟨rfl, hz⟩
      · rcases hyes with ⟨_, e⟩ | ⟨u2, _, _⟩
        · exact e.symm
        · exact absurd u u2
      · rcases hyes with ⟨u2, _⟩ | ⟨_, _, e⟩
        · exact absurd u2 hz
        · rw [e]; omega
    refine ⟨l, rfl, ⟨_, hL (Same.refl _)⟩, ?_⟩
    refine for_list (K := K) (a := l) (xs := [((n + 1 : Nat) : Int), 0 - ((n + 1 : Nat) : Int)].map V.int) (fun t σ H5 => ∃ v5 : Option V, σ = [some (.ref a), some (.ref b), some (.int many), some (.int (n + 1 : Nat)), some (.int i), v5] ∧ Same H4 H5 ∧ (0 < t → ¬ UnlAt ws sh us th i (n + 1 : Nat)) ∧ (1 < t → ¬ UnlAt ws sh us th i (0 - ((n + 1 : Nat) : Int)))) ⟨_, rfl, Same.refl _, fun z => absurd z (Nat.lt_irrefl 0), fun z => absurd z (Nat.not_lt_zero 1)⟩ (fun t σ H5 _ ⟨_, _, s, _⟩ => hL s) ?_ ?_
    · rintro t y σ H5 hy ⟨v5, rfl, s5, hp0, hp1⟩
      have ht : t < 2 := (List.getElem?_eq_some_iff.mp hy).1
      have s05 := s04.trans s5
      obtain ⟨z, rfl, hz, hnext⟩ : ∃ z : Int, y = .int z ∧ (z = (n + 1 : Nat) ∨ (z = 0 - ((n + 1 : Nat) : Int) ∧ ¬ UnlAt ws sh us th i (n + 1 : Nat))) ∧ (¬ UnlAt ws sh us th i z → (0 < t + 1 → ¬ UnlAt ws sh us th i (n + 1 : Nat)) ∧ (1 < t + 1 → ¬ UnlAt ws sh us th i (0 - ((n + 1 : Nat) : Int)))) := by
        rcases (show t = 0 ∨ t = 1 by omega) with rfl | rfl
        · cases hy
          exact ⟨_, rfl, .inl rfl, fun u => ⟨fun _ => u, fun c => absurd c (Nat.lt_irrefl 1)⟩⟩
        · cases hy
          have := hp0 (by decide)
          exact ⟨_, rfl, .inr ⟨rfl, this⟩, fun u => ⟨fun _ => this, fun _ => u⟩⟩
      walk_at "go"
      refine ⟨a, b, ws, us, sh, th, i, z, rfl, hA.same s05, hB.same s05, by omega, by omega, hw, hu, hsh, hth, fun r hr => ?_⟩
      refine ⟨_, rfl, ?_⟩
      cases r with
      | true =>
        obtain ⟨_, c2, c3⟩ := hone z true hz hr rfl
        refine iteT ?_
        walk_at "go"
        refine ⟨(show 2 ≤ sizeLine by decide), fun p np => ?_⟩
        refine q _ p (s05.trans (same_upd np)) (s05.free np) ?_
        rw [upd_same, c2, c3]
      | false =>
        refine iteF ?_
        have := hnext (fun u => by cases hr.mpr u)
        exact ⟨_, rfl, s5, this.1, this.2⟩
    · rintro σ H5 ⟨v5, rfl, s5, hp0, hp1⟩
      refine ⟨_, _, rfl, s04.trans s5, fun e => ?_⟩
      have h1 := hij e
      have n0 := hp0 (show (0 : Nat) < 2 by decide)
      have n1 := hp1 (show (1 : Nat) < 2 by decide)
      by_cases c : i = j
      · subst c
        rw [e] at n0 n1
        rw [Int.zero_sub] at n1
        rcases hyes with ⟨u, _⟩ | ⟨_, u, _⟩
        · exact absurd u n0
        · exact absurd u n1
      · omega
  · rintro σ H3 ⟨v4, v5, rfl, s3, hij⟩
    refine ⟨v4, v5, rfl, ?_, s3⟩
    by_cases c : n + 1 = m
    · have := hij c
      omega
    · omega
/-- what is drawn for the other one -/
def sp_law_other_drawn : Sp := fun vs H Q _ => ∃ (g b : Addr) (ws : List Int) (sh n : Nat), vs = [.ref g, .ref b, .int sh] ∧ GenAt H g n ∧ n ≤ 10 ^ 8 ∧ H b = some (.lst (ws.map V.int)) ∧ b ≠ g ∧ ws.length ≤ 4 ∧ (∀ y ∈ ws, -40 ≤ y ∧ y ≤ 40) ∧ sh ≤ 4 ∧
  ∀ H' r us th, But g H H' → WS H' r us th → us.length ≤ 8 → th ≤ 5 → Q (.ref r) H'
theorem G_law_other_drawn (T : Top K mg) : FnOk P w K mg base CX0 4 T.f_law_other_drawn T.fd_law_other_drawn ["_law_generator_here", "_law_weights_here", "_law_shift"] sp_law_other_drawn := by
  refine T.F_law_other_drawn.ok sc_law_other_drawn (fun vs H Q E h => by obtain ⟨g, b, ws, sh, n, rfl, _⟩ := h; rfl) (fun cdv A outer s H vs Q E hr h => ?_)
  obtain ⟨g, b, ws, sh, n, rfl, hG, hn, hb, nbg, hwl, hwb, hsh, q⟩ := h
  refine ⟨_, PSs.nox (pss_cons (ps_set (i := 3) sc_law_other_drawn.nd rfl (by first | exact Or.inl rfl | exact Or.inr rfl) (pe_call (G_law_random T) (hr.mono (by decide)) (by rfl) T.g_law_random T.F_law_random.kp T.b_law_random .nil pass0 (pa_cons (pv 0) (pa_cons pe_int pa_nil))))
  (pss_cons (ps_if (pt_cmpR op_eq (pv 3) pe_int (nomark _))
    (pss_one (ps_ret (pe_lst (pa_cons (pe_call (G_law_weights T) (hr.mono (by decide)) (by rfl) T.g_law_weights T.F_law_weights.kp T.b_law_weights .nil pass0 (pa_cons (pv 0) (pa_cons (pe_call (G_law_random T) (hr.mono (by decide)) (by rfl) T.g_law_random T.F_law_random.kp T.b_law_random .nil pass0 (pa_cons (pv 0) (pa_cons pe_int pa_nil))) pa_nil))) (pa_cons (pe_call (G_law_random T) (hr.mono (by decide)) (by rfl) T.g_law_random T.F_law_random.kp T.b_law_random .nil pass0 (pa_cons (pv 0) (pa_cons pe_int pa_nil))) pa_nil)))))
    pss_nil)
  (pss_cons (ps_if (pt_cmpR op_eq (pv 3) pe_int (nomark _))
    (pss_one (ps_ret (pe_lst (pa_cons (pe_lc (own := [("_law_weight", 6)]) (g := gName 6) (tt := tYes) (by rfl) sc_law_other_drawn.nd (k_piL K rfl (pv 1)) (blkOk_by (own := [("_law_weight", 6)]) (N := N_law_other_drawn) (sc := defScope s_law_other_drawn) (by decide +kernel)) (fun _ _ _ _ _ => (pg_name (i := 6) sc_law_other_drawn.nd rfl (by first | exact Or.inl rfl | exact Or.inr rfl))) (fun _ _ _ _ _ => pts_nil) (fun _ _ _ _ _ => (pe_op op_mul pe_int (pv 6)))) (pa_cons (pe_op op_add (pv 2) pe_int) pa_nil)))))
    pss_nil)
  (pss_cons (ps_if (PW.pt (pw_or (pt_cmpR op_eq (pv 3) pe_int (nomark _)) (pw_or1 (pt_cmpR (k_eqD K rfl hr.units) (pv 1) (pe_lst pa_nil) (nomark _)))))
    (pss_one (ps_ret (pe_lst (pa_cons (pe_op op_cat (pv 1) (pe_op op_rep (pe_lst (pa_cons pe_int pa_nil)) (pe_call (G_law_random T) (hr.mono (by decide)) (by rfl) T.g_law_random T.F_law_random.kp T.b_law_random .nil pass0 (pa_cons (pv 0) (pa_cons pe_int pa_nil))))) (pa_cons (pv 2) pa_nil)))))
    pss_nil)
  (pss_cons (ps_set (i := 4) sc_law_other_drawn.nd rfl (by first | exact Or.inl rfl | exact Or.inr rfl) (pe_callTy (k_listOf K rfl) (by rfl) T.n_list (by decide +kernel) (pa_cons (pv 1) pa_nil)))
  (pss_cons (ps_set (i := 5) sc_law_other_drawn.nd rfl (by first | exact Or.inl rfl | exact Or.inr rfl) (pe_call (G_law_random T) (hr.mono (by decide)) (by rfl) T.g_law_random T.F_law_random.kp T.b_law_random .nil pass0 (pa_cons (pv 0) (pa_cons (pe_callB (k_len K rfl) (by rfl) T.n_len (by decide +kernel) (pa_cons (pv 1) pa_nil)) pa_nil))))
  (pss_cons (ps_asg (pe_op op_add (pe_ix (k_ixL K rfl) (pv 4) (pv 5) (fun _ _ => rfl)) (pe_ix (k_ixL K rfl) (pe_lst (pa_cons pe_int (pa_cons (pe_un un_neg pe_int) pa_nil))) (pe_call (G_law_random T) (hr.mono (by decide)) (by rfl) T.g_law_random T.F_law_random.kp T.b_law_random .nil pass0 (pa_cons (pv 0) (pa_cons pe_int pa_nil))) (fun _ _ => rfl))) (pg_sub (pv 4) (pv 5) set_list))
  (pss_one (ps_ret (pe_ifExp (pt_cmpR op_eq (pv 3) pe_int (nomark _)) (pe_lst (pa_cons (pv 4) (pa_cons (pv 2) pa_nil))) (pe_lst (pa_cons (pe_lc (own := [("_law_weight", 6)]) (g := gName 6) (tt := tYes) (by rfl) sc_law_other_drawn.nd (k_piL K rfl (pv 4)) (blkOk_by (own := [("_law_weight", 6)]) (N := N_law_other_drawn) (sc := defScope s_law_other_drawn) (by decide +kernel)) (fun _ _ _ _ _ => (pg_name (i := 6) sc_law_other_drawn.nd rfl (by first | exact Or.inl rfl | exact Or.inr rfl))) (fun _ _ _ _ _ => pts_nil) (fun _ _ _ _ _ => (pe_op op_mul pe_int (pv 6)))) (pa_cons (pe_op op_add (pv 2) pe_int) pa_nil))))))))))))), ?_⟩
  walk_at "go"
  refine ⟨g, _, _, rfl, hG, by omega, by decide, small_2900 (by decide), fun kd H1 k0 k1 g1 b1 => ?_⟩
  have hb1 := b1 _ _ nbg hb
  -- a list and a shift, at the end
  have fin : ∀ (H2 : Hp) (p : Addr) (us : List Int) (th : Nat), But g H H2 → H2 p = some (.lst (us.map V.int)) → us.length ≤ 8 → th ≤ 5 → 2 ≤ sizeLine ∧ ∀ r, H2 r = none → Q (.ref r) (upd H2 r (.lst [.ref p, .int th])) := fun H2 p us th b2 hp hl ht => ⟨by decide, fun r nr => q _ r us th (b2.same (same_upd nr)) ⟨p, upd_same, same_upd nr _ _ hp⟩ hl ht⟩
  refine ⟨_, rfl, rfl, _, rfl, ?_⟩
  by_cases c0 : kd = 0
  · refine iteET c0 ?_
    walk_at "go"
    refine ⟨g, _, _, rfl, g1, by omega, by decide, small_2900 (by decide), fun r1 H2 r10 r11 g2 b2 => ?_⟩
    obtain ⟨m, rfl⟩ : ∃ m : Nat, r1 = (m : Int) := ⟨r1.toNat, by omega⟩
    refine ⟨g, m, _, rfl, g2, by omega, by omega, fun H3 p ys np b3 g3 hp hl hy => ?_⟩
    walk_at "go"
    refine ⟨g, _, _, rfl, g3, by omega, by decide, small_2900 (by decide), fun r2 H4 r20 r21 g4 b4 => ?_⟩
    obtain ⟨th, rfl⟩ : ∃ m : Nat, r2 = (m : Int) := ⟨r2.toNat, by omega⟩
    have npg : p ≠ g := g2.ne np
    exact fin _ p ys th (((b1.trans b2).trans b3).trans b4) (b4 _ _ npg hp) (by omega) (by omega)
  · refine iteEF c0 ?_
    refine ⟨_, rfl, rfl, _, rfl, ?_⟩
    by_cases c1 : kd = 1
    · refine iteET c1 ?_
      refine ⟨_, rfl, b, rfl, ⟨_, .inl (.inl hb1)⟩, fun D nD => ?_⟩
      refine lc_mapL (K := K) (xs := ws.map V.int) ((ws.map fun y => 2 * y).map V.int) nD (.inl (.inl hb1)) (by rw [List.length_map, List.length_map, List.length_map]) (small_row (by omega)) (fun x => rfl) ?_ ?_
      · intro i x y H' hx hy s Qt qt
        obtain ⟨n, hn, rfl⟩ := int_at hx
        rw [List.getElem?_map, List.getElem?_map, hn] at hy
        cases hy
        exact ⟨_, rfl, _, _, rfl, rfl, .inl ⟨by decide, by decide⟩, qt _ (Same.refl _)⟩
      · intro H2 s2 hD
        walk_at "go"
        exact fin _ D (ws.map fun y => 2 * y) (sh + 1) (b1.same s2) hD (by rw [List.length_map]; omega) (by omega)
    · refine iteEF c1 ?_
      have s11 := Same.refl H1
      unfold tNext
      dsimp only
      unfold tSeq tIfS
      refine to_join (t := tOr _ _) (fun H2 => Same H1 H2) ?_ ?_
      · -- the same with noughts behind
        intro H2 s2
        refine iteT ?_
        walk_at "go"
        refine ⟨(show 1 ≤ sizeLine by decide), fun l nl => ?_⟩
        obtain ⟨H3, e3, s3, h3⟩ := fresh (.lst [V.int 0]) nl
        rw [e3]
        walk_at "go"
        have s13 := s2.trans s3
        refine ⟨g, _, _, rfl, g1.same s13, by omega, by decide, small_2900 (by decide), fun r2 H4 r20 r21 g4 b4 => ?_⟩
        obtain ⟨m, rfl⟩ : ∃ m : Nat, r2 = (m : Int) := ⟨r2.toNat, by omega⟩
        have h4 := b4 _ _ ((g1.same s2).ne nl) h3
        refine ⟨l, _, _, rfl, rfl, h4, by omega, by omega, ?_, fun f nf => ?_⟩
        · rw [Int.toNat_natCast]
          show 1 * _ ≤ sizeLine
          rw [sizeLine_eq]
          omega
        rw [Int.toNat_natCast, rep0]
        obtain ⟨H5, e5, s5, h5⟩ := fresh (.lst ((List.replicate m (0 : Int)).map V.int)) nf
        rw [e5]
        have b05 : But g H H5 := ((b1.same s13).trans b4).same s5
        refine ⟨b, f, _, _, rfl, rfl, b05 _ _ nbg hb, h5, ?_, fun p np => ?_⟩
        · rw [List.length_map, List.length_map, List.length_replicate, sizeLine_eq]
          omega
        obtain ⟨H6, e6, s6, h6⟩ := fresh (.lst (ws.map V.int ++ (List.replicate m (0 : Int)).map V.int)) np
        rw [e6]
        rw [← List.map_append] at h6
        walk_at "go"
        exact fin _ p (ws ++ List.replicate m 0) sh (b05.same s6) h6 (by rw [List.length_append, List.length_replicate]; omega) (by omega)
      · intro hT
        refine ⟨_, rfl, rfl, _, rfl, ?_⟩
        by_cases c2 : kd = 2
        · refine iteET c2 ?_
          exact hT _ s11
        · refine iteEF c2 ?_
          refine ⟨_, rfl, Nat.zero_le _, fun l nl => ?_⟩
          obtain ⟨H2, e2, s2, h2⟩ := fresh (.lst (([] : List Int).map V.int)) nl
          have e2' : upd H1 l (.lst []) = H2 := e2
          rw [e2']
          have hb2 := s2 _ _ hb1
          refine eqD_lst (ns := ws) (ms := []) (.inl (.inl hb2)) (.inl (.inl h2)) ?_
          refine ⟨_, rfl, ?_⟩
          by_cases cw : ws = []
          · rw [decide_eq_true cw]
            exact hT _ s2
          · rw [decide_eq_false cw]
            have hpos : 0 < ws.length := List.length_pos_iff.mpr cw
            refine iteF ?_
            walk_at "go"
            refine ⟨b, _, rfl, .inl (.inl (.inl hb2)), fun l2 nl2 => ?_⟩
            obtain ⟨H3, e3, s3, h3⟩ := fresh (.lst (ws.map V.int)) nl2
            rw [e3]
            have s13 := s2.trans s3
            walk_at "go"
            refine ⟨b, _, rfl, .inl (.inl (.inl (s3 _ _ hb2))), ?_⟩
            rw [List.length_map]
            walk_at "go"
            refine ⟨g, _, _, rfl, g1.same s13, by omega, by omega, small_2900 (by omega), fun r1 H4 r10 r11 g4 b4 => ?_⟩
            obtain ⟨at_, rfl⟩ : ∃ m : Nat, r1 = (m : Int) := ⟨r1.toNat, by omega⟩
            have hat : at_ < ws.length := by omega
            have nl2g : l2 ≠ g := (g1.same s2).ne nl2
            have h4 := b4 _ _ nl2g h3
            walk_at "go"
            refine ⟨l2, _, _, _, rfl, rfl, .inl (.inl h4), at_ints hat, ?_⟩
            walk_at "go"
            refine ⟨(show 2 ≤ sizeLine by decide), fun l3 nl3 => ?_⟩
            obtain ⟨H5, e5, s5, h5⟩ := fresh (.lst [V.int 1, V.int (-1)]) nl3
            rw [e5]
            walk_at "go"
            refine ⟨g, _, _, rfl, g4.same s5, by omega, by decide, small_2900 (by decide), fun r2 H6 r20 r21 g6 b6 => ?_⟩
            have h6 := b6 _ _ (g4.ne nl3) h5
            obtain ⟨y, hy⟩ : ∃ y : Int, atI [V.int 1, V.int (-1)] r2 = some (.int y) := by
              rcases (show r2 = 0 ∨ r2 = 1 by omega) with rfl | rfl
              · exact ⟨_, rfl⟩
              · exact ⟨_, rfl⟩
            refine ⟨l3, _, _, _, rfl, rfl, .inl (.inl h6), hy, ?_⟩
            walk_at "go"
            have h46 := b6 _ _ nl2g (s5 _ _ h4)
            refine ⟨l2, _, _, at_, rfl, rfl, h46, ix_ints hat, ?_⟩
            have nHl2 : H l2 = none := b1.free nl2g (s2.free nl2)
            have b07 : But g H (upd H6 l2 (.lst ((ws.map V.int).set at_ (.int (ws.getD at_ 0 + y))))) := ((((b1.same s13).trans b4).same s5).trans b6).off nHl2
            obtain ⟨us, hus, hul⟩ : ∃ us : List Int, (ws.map V.int).set at_ (.int (ws.getD at_ 0 + y)) = us.map V.int ∧ us.length = ws.length := ⟨ws.set at_ (ws.getD at_ 0 + y), by rw [List.map_set], by rw [List.length_set]⟩
            rw [hus] at b07 ⊢
            obtain ⟨H7, e7⟩ : ∃ H7, upd H6 l2 (.lst (us.map V.int)) = H7 := ⟨_, rfl⟩
            have h7 : H7 l2 = some (.lst (us.map V.int)) := by rw [← e7, upd_same]
            rw [e7] at b07 ⊢
            refine ⟨_, rfl, rfl, _, rfl, ?_⟩
            by_cases c3 : kd = 3
            · refine iteET c3 ?_
              walk_at "go"
              exact fin _ l2 us sh b07 h7 (by omega) (by omega)
            · refine iteEF c3 ?_
              refine ⟨_, rfl, l2, rfl, ⟨_, .inl (.inl h7)⟩, fun D nD => ?_⟩
              refine lc_mapL (K := K) (xs := us.map V.int) ((us.map fun y => 2 * y).map V.int) nD (.inl (.inl h7)) (by rw [List.length_map, List.length_map, List.length_map]) (small_row (by omega)) (fun x => rfl) ?_ ?_
              · intro i x y H' hx hy s Qt qt
                obtain ⟨n, hn, rfl⟩ := int_at hx
                rw [List.getElem?_map, List.getElem?_map, hn] at hy
                cases hy
                exact ⟨_, rfl, _, _, rfl, rfl, .inl ⟨by decide, by decide⟩, qt _ (Same.refl _)⟩
              · intro H8 s8 hD
                walk_at "go"
                exact fin _ D (us.map fun y => 2 * y) (sh + 1) (b07.same s8) hD (by rw [List.length_map]; omega) (by omega)
end
end My

namespace My
open PySem PySem.Spec PyProof.Rows L2 Pre
theorem big_of {ws : List Int} (h : Weights ws) : Big ws := fun n hn => by have := h.2 n hn; omega
theorem big_pad {ws : List Int} {m : Nat} (h : Weights ws) : Big (padF ws m) := fun n hn => by
  unfold padF at hn
  rcases List.mem_append.mp hn with hn | hn
  · exact big_of h n hn
  · rw [(List.mem_replicate.mp hn).2]; omega
theorem found_pad {ws us : List Int} {sh th many : Nat} {o : Option (Nat × Int)} (h : FoundAt ws sh us th many o) : FoundAt (padF ws many) sh (padF us many) th many o := by
  cases o with
  | none => intro j hj; rw [padF_at, padF_at]; exact h j hj
  | some jx =>
    obtain ⟨j, x⟩ := jx
    obtain ⟨h1, h2, h3, h4⟩ := h
    refine ⟨h1, by rw [padF_at, padF_at]; exact h2, ?_, fun k hk hne => ?_⟩
    · unfold SampAt; rw [padF_at, padF_at]; exact h3
    · rw [padF_at, padF_at] at hne
      obtain ⟨y, y1, y2⟩ := h4 k hk hne
      refine ⟨y, ?_, y2⟩
      unfold SampAt; rw [padF_at, padF_at]; exact y1
theorem alike_comm {ws us : List Int} {sh th : Nat} : Alike us th ws sh ↔ Alike ws sh us th := by
  unfold Alike
  rw [Nat.max_comm]
  exact ⟨fun h i hi => (h i hi).symm, fun h i hi => (h i hi).symm⟩
def misL (ws : List Int) (sh : Nat) (us : List Int) (th : Nat) (many : Nat) : List Nat := (List.range many).filter fun i => decide ((padF ws many).getD i 0 * 2 ^ th ≠ (padF us many).getD i 0 * 2 ^ sh)
theorem misL_nil {ws us : List Int} {sh th : Nat} : misL ws sh us th (max ws.length us.length) = [] ↔ Alike ws sh us th := by
  unfold misL Alike
  rw [List.filter_eq_nil_iff]
  constructor
  · intro h i hi
    have := h i (List.mem_range.mpr hi)
    simp only [decide_eq_true_eq, Classical.not_not] at this
    rw [padF_at, padF_at] at this
    exact this
  · intro h i hi
    have := h i (List.mem_range.mp hi)
    rw [padF_at, padF_at, decide_eq_false (fun z => z this)]
    decide
local macro_rules | `(tactic| walk_at "go") => `(tactic| repeat (first | (with_reducible first | refine iteT ?_ | refine iteF ?_ | refine iteNtt ?_ | refine iteNff ?_ | refine iteET (by omega) ?_ | refine iteEF (by omega) ?_ | refine iteENT (by omega) ?_ | refine iteENF (by omega) ?_ | refine iteDT (by omega) ?_ | refine iteDF (by omega) ?_ | refine iteNT (by omega) ?_ | refine iteNF (by omega) ?_) | refine ⟨_, rfl, ?_⟩ | refine ⟨_, _, rfl, rfl, ?_⟩ | refine ⟨_, _, rfl, ?_⟩ | refine ⟨rfl, ?_⟩ | refine .inl ⟨_, rfl, ?_⟩ | refine .inr ⟨_, rfl, ?_⟩))
local macro_rules | `(tactic| walk_at "b") => `(tactic| try dsimp (config := { proj := false, iota := false, eta := false, zeta := false }) only)
section
variable {P : Program} {w : World} {K : PySem.W.Frag} {mg : Str → Option Value} {base : Heap}
def sp_law_right (C : Addr) : Sp := fun vs H Q _ => ∃ (a b : Addr) (ws us : List Int) (sh th : Nat), vs = [.ref a, .ref b] ∧ WS H a ws sh ∧ WS H b us th ∧ Weights ws ∧ Weights us ∧ sh ≤ 5 ∧ th ≤ 5 ∧ ∀ H', Same H H' → Q (.bl true) H'
theorem G_law_right (T : Top K mg) : FnOk P w K mg base CX0 70 T.f_law_right T.fd_law_right ["_law_one", "_law_other"] (sp_law_right T.C_Guesser) := by
  refine T.F_law_right.ok sc_law_right (fun vs H Q E h => by obtain ⟨a, b, ws, us, sh, th, rfl, _⟩ := h; rfl) (fun cdv A outer s H vs Q E hr h => ?_)
  obtain ⟨a, b, ws, us, sh, th, rfl, hA, hB, hW, hU, hsh, hth, q⟩ := h
  refine ⟨_, PSs.nox (pss_cons (ps_set (i := 2) sc_law_right.nd rfl (by first | exact Or.inl rfl | exact Or.inr rfl) (pe_callB (call_max2 rfl) (by rfl) T.n_max (by decide +kernel) (pa_cons (pe_callB (k_len K rfl) (by rfl) T.n_len (by decide +kernel) (pa_cons (pe_ix (k_ixL K rfl) (pv 0) pe_int (fun _ _ => rfl)) pa_nil)) (pa_cons (pe_callB (k_len K rfl) (by rfl) T.n_len (by decide +kernel) (pa_cons (pe_ix (k_ixL K rfl) (pv 1) pe_int (fun _ _ => rfl)) pa_nil)) pa_nil))))
  (pss_cons (ps_set (i := 3) sc_law_right.nd rfl (by first | exact Or.inl rfl | exact Or.inr rfl) (pe_lst (pa_cons (pe_lst (pa_cons (pe_call (G_law_padded T) (hr.mono (by decide)) (by rfl) T.g_law_padded T.F_law_padded.kp T.b_law_padded .nil pass0 (pa_cons (pe_ix (k_ixL K rfl) (pv 0) pe_int (fun _ _ => rfl)) (pa_cons (pv 2) pa_nil))) (pa_cons (pe_ix (k_ixL K rfl) (pv 0) pe_int (fun _ _ => rfl)) pa_nil))) (pa_cons (pe_lst (pa_cons (pe_call (G_law_padded T) (hr.mono (by decide)) (by rfl) T.g_law_padded T.F_law_padded.kp T.b_law_padded .nil pass0 (pa_cons (pe_ix (k_ixL K rfl) (pv 1) pe_int (fun _ _ => rfl)) (pa_cons (pv 2) pa_nil))) (pa_cons (pe_ix (k_ixL K rfl) (pv 1) pe_int (fun _ _ => rfl)) pa_nil))) pa_nil))))
  (pss_cons (ps_set (i := 4) sc_law_right.nd rfl (by first | exact Or.inl rfl | exact Or.inr rfl) (pe_cmpR (k_eqD K rfl hr.units) (pe_lc (own := [("_law_at", 8)]) (g := gName 8) (by rfl) sc_law_right.nd (pi_range1 (by rfl) T.n_range (pa_cons (pv 2) pa_nil)) (blkOk_by (own := [("_law_at", 8)]) (N := N_law_right) (sc := defScope s_law_right) (by decide +kernel)) (fun _ _ _ _ _ => (pg_name (i := 8) sc_law_right.nd rfl (by first | exact Or.inl rfl | exact Or.inr rfl))) (fun _ _ _ _ _ => (pts_one (pt_cmpR op_ne (pe_op op_mul (pe_ix (k_ixL K rfl) (pe_ix (k_ixL K rfl) (pe_ix (k_ixL K rfl) (pv 3) pe_int (fun _ _ => rfl)) pe_int (fun _ _ => rfl)) (pv 8) (fun _ _ => rfl)) (pe_op op_shl pe_int (pe_ix (k_ixL K rfl) (pv 1) pe_int (fun _ _ => rfl)))) (pe_op op_mul (pe_ix (k_ixL K rfl) (pe_ix (k_ixL K rfl) (pe_ix (k_ixL K rfl) (pv 3) pe_int (fun _ _ => rfl)) pe_int (fun _ _ => rfl)) (pv 8) (fun _ _ => rfl)) (pe_op op_shl pe_int (pe_ix (k_ixL K rfl) (pv 0) pe_int (fun _ _ => rfl)))) (nomark _)))) (fun _ _ _ _ _ => (pv 8))) (pe_lst pa_nil) (nomark _)))
  (pss_cons (ps_set (i := 5) sc_law_right.nd rfl (by first | exact Or.inl rfl | exact Or.inr rfl) (pe_lst (pa_cons (pe_make T.mk_Guesser (G_Guesser___init__ T) (hr.mono (by decide)) (by rfl) T.gc_Guesser T.b_Guesser___init__ .nil pass0 (pa_cons (pe_callTy (k_listOf K rfl) (by rfl) T.n_list (by decide +kernel) (pa_cons (pe_ix (k_ixL K rfl) (pv 0) pe_int (fun _ _ => rfl)) pa_nil)) (pa_cons (pe_ix (k_ixL K rfl) (pv 0) pe_int (fun _ _ => rfl)) pa_nil))) (pa_cons (pe_make T.mk_Guesser (G_Guesser___init__ T) (hr.mono (by decide)) (by rfl) T.gc_Guesser T.b_Guesser___init__ .nil pass0 (pa_cons (pe_callTy (k_listOf K rfl) (by rfl) T.n_list (by decide +kernel) (pa_cons (pe_ix (k_ixL K rfl) (pv 1) pe_int (fun _ _ => rfl)) pa_nil)) (pa_cons (pe_ix (k_ixL K rfl) (pv 1) pe_int (fun _ _ => rfl)) pa_nil))) pa_nil))))
  (pss_cons (ps_if (PW.pt (pw_or (pt_cmpR op_ne (pe_call (G_same_guess T) (hr.mono (by decide)) (by rfl) T.g_same_guess T.F_same_guess.kp T.b_same_guess .nil pass0 (pa_cons (pe_ix (k_ixL K rfl) (pv 5) pe_int (fun _ _ => rfl)) (pa_cons (pe_ix (k_ixL K rfl) (pv 5) pe_int (fun _ _ => rfl)) pa_nil))) (pv 4) (nomark _)) (pw_or1 (pt_cmpR op_ne (pe_call (G_same_guess T) (hr.mono (by decide)) (by rfl) T.g_same_guess T.F_same_guess.kp T.b_same_guess .nil pass0 (pa_cons (pe_ix (k_ixL K rfl) (pv 5) pe_int (fun _ _ => rfl)) (pa_cons (pe_ix (k_ixL K rfl) (pv 5) pe_int (fun _ _ => rfl)) pa_nil))) (pv 4) (nomark _)))))
    (pss_one (ps_ret pe_bl))
    pss_nil)
  (pss_cons (ps_set (i := 6) sc_law_right.nd rfl (by first | exact Or.inl rfl | exact Or.inr rfl) (pe_call (G_parting_row T) (hr.mono (by decide)) (by rfl) T.g_parting_row T.F_parting_row.kp T.b_parting_row .nil pass0 (pa_cons (pe_ix (k_ixL K rfl) (pv 5) pe_int (fun _ _ => rfl)) (pa_cons (pe_ix (k_ixL K rfl) (pv 5) pe_int (fun _ _ => rfl)) pa_nil))))
  (pss_cons (ps_if (pt_val (pv 4))
    (pss_one (ps_ret (pe_cmpR op_isN (pv 6) pe_non (nomark _))))
    pss_nil)
  (pss_cons (ps_if (PW.pt (pw_or (pt_cmpR (k_neD K rfl hr.units) (pv 6) (pe_call (G_parting_row T) (hr.mono (by decide)) (by rfl) T.g_parting_row T.F_parting_row.kp T.b_parting_row .nil pass0 (pa_cons (pe_ix (k_ixL K rfl) (pv 5) pe_int (fun _ _ => rfl)) (pa_cons (pe_ix (k_ixL K rfl) (pv 5) pe_int (fun _ _ => rfl)) pa_nil))) (nomark _)) (pw_or1 (pt_cmpR op_eq (pe_call (G_guess T) (hr.mono (by decide)) (by rfl) T.g_guess T.F_guess.kp T.b_guess .nil pass0 (pa_cons (pe_ix (k_ixL K rfl) (pv 5) pe_int (fun _ _ => rfl)) (pa_cons (pv 6) pa_nil))) (pe_call (G_guess T) (hr.mono (by decide)) (by rfl) T.g_guess T.F_guess.kp T.b_guess .nil pass0 (pa_cons (pe_ix (k_ixL K rfl) (pv 5) pe_int (fun _ _ => rfl)) (pa_cons (pv 6) pa_nil))) (nomark _)))))
    (pss_one (ps_ret pe_bl))
    pss_nil)
  (pss_cons (ps_set (i := 7) sc_law_right.nd rfl (by first | exact Or.inl rfl | exact Or.inr rfl) (pe_call (G_law_least T) (hr.mono (by decide)) (by rfl) T.g_law_least T.F_law_least.kp T.b_law_least .nil pass0 (pa_cons (pe_ix (k_ixL K rfl) (pv 3) pe_int (fun _ _ => rfl)) (pa_cons (pe_ix (k_ixL K rfl) (pv 3) pe_int (fun _ _ => rfl)) (pa_cons (pv 2) pa_nil)))))
  (pss_one (ps_ret (pe_cmpR (k_eqD K rfl hr.units) (pv 6) (pe_lc (own := [("_law_place", 9)]) (g := gName 9) (tt := tYes) (by rfl) sc_law_right.nd (pi_range1 (by rfl) T.n_range (pa_cons (pv 2) pa_nil)) (blkOk_by (own := [("_law_place", 9)]) (N := N_law_right) (sc := defScope s_law_right) (by decide +kernel)) (fun _ _ _ _ _ => (pg_name (i := 9) sc_law_right.nd rfl (by first | exact Or.inl rfl | exact Or.inr rfl))) (fun _ _ _ _ _ => pts_nil) (fun _ _ _ _ _ => (pe_ifExp (pt_cmpR op_eq (pv 9) (pe_op op_sub (pe_op op_sub (pv 2) pe_int) (pe_ix (k_ixL K rfl) (pv 7) pe_int (fun _ _ => rfl))) (nomark _)) (pe_ix (k_ixL K rfl) (pv 7) pe_int (fun _ _ => rfl)) pe_int))) (nomark _))))))))))))), ?_⟩
  obtain ⟨p, ha, hp⟩ := id hA
  obtain ⟨p2, hb, hp2⟩ := id hB
  have hl1 := hW.1
  have hl2 := hU.1
  have hq1 := pow_pos' sh
  have hq2 := pow_pos' th
  have hr1 : (2 : Int) ^ sh ≤ 2 ^ 5 := pow2_le hsh
  have hr2 : (2 : Int) ^ th ≤ 2 ^ 5 := pow2_le hth
  -- many
  walk_at "go"
  refine ⟨a, _, _, _, rfl, rfl, .inl (.inl ha), at2_0 _ _, ?_⟩
  refine ⟨p, _, rfl, .inl (.inl (.inl hp)), ?_⟩
  walk_at "go"
  refine ⟨b, _, _, _, rfl, rfl, .inl (.inl hb), at2_0 _ _, ?_⟩
  refine ⟨p2, _, rfl, .inl (.inl (.inl hp2)), ?_⟩
  rw [List.length_map, List.length_map]
  refine ⟨_, _, rfl, ?_⟩
  have em : (if ((us.length : Nat) : Int) > ((ws.length : Nat) : Int) then ((us.length : Nat) : Int) else ((ws.length : Nat) : Int)) = ((max ws.length us.length : Nat) : Int) := by
    by_cases c : ((us.length : Nat) : Int) > ((ws.length : Nat) : Int)
    · rw [if_pos c]; omega
    · rw [if_neg c]; omega
  rw [em]
  have hfuel : ∀ j, j < max ws.length us.length → FuelAt ws sh us th j := fun j _ => fuel_small hsh hth j
  have hfuel' : ∀ j, j < max us.length ws.length → FuelAt us th ws sh j := fun j _ => fuel_small hth hsh j
  have emisL := misL_nil (ws := ws) (us := us) (sh := sh) (th := th)
  have efound := found_alike (ws := ws) (us := us) (sh := sh) (th := th)
  have esome := fun j x => found_some (ws := ws) (us := us) (sh := sh) (th := th) (j := j) (x := x)
  have emax : max us.length ws.length = max ws.length us.length := Nat.max_comm _ _
  obtain ⟨many, hmany⟩ : ∃ m, m = max ws.length us.length := ⟨_, rfl⟩
  rw [← hmany] at hfuel emisL efound esome emax ⊢
  rw [emax] at hfuel'
  have hm8 : many ≤ 8 := by omega
  have hwm : ws.length ≤ many := by omega
  have hum : us.length ≤ many := by omega
  have hpl1 := padF_len hwm
  have hpl2 := padF_len hum
  -- full
  walk_at "go"
  refine ⟨a, _, _, _, rfl, rfl, .inl (.inl ha), at2_0 _ _, ?_⟩
  walk_at "go"
  refine ⟨p, ws, many, rfl, hp, hwm, by omega, fun H1 p3 s1 np3 h3 => ?_⟩
  walk_at "go"
  refine ⟨a, _, _, _, rfl, rfl, .inl (.inl (s1 _ _ ha)), at2_1 _ _, ?_⟩
  refine ⟨(show 2 ≤ sizeLine by decide), fun f1 nf1 => ?_⟩
  obtain ⟨H2, e2, s2, hf1⟩ := fresh (.lst [V.ref p3, V.int sh]) nf1
  rw [e2]
  have s02 := s1.trans s2
  walk_at "go"
  refine ⟨b, _, _, _, rfl, rfl, .inl (.inl (s02 _ _ hb)), at2_0 _ _, ?_⟩
  walk_at "go"
  refine ⟨p2, us, many, rfl, s02 _ _ hp2, hum, by omega, fun H3 p4 s3 np4 h4 => ?_⟩
  have s03 := s02.trans s3
  walk_at "go"
  refine ⟨b, _, _, _, rfl, rfl, .inl (.inl (s03 _ _ hb)), at2_1 _ _, ?_⟩
  refine ⟨(show 2 ≤ sizeLine by decide), fun f2 nf2 => ?_⟩
  obtain ⟨H4, e4, s4, hf2⟩ := fresh (.lst [V.ref p4, V.int th]) nf2
  rw [e4]
  refine ⟨(show 2 ≤ sizeLine by decide), fun F nF => ?_⟩
  obtain ⟨H5, e5, s5, hF⟩ := fresh (.lst [V.ref f1, V.ref f2]) nF
  rw [e5]
  have s05 := (s03.trans s4).trans s5
  have wf1 : WS H5 f1 (padF ws many) sh := ⟨p3, ((s3.trans s4).trans s5) _ _ hf1, (((s2.trans s3).trans s4).trans s5) _ _ h3⟩
  have wf2 : WS H5 f2 (padF us many) th := ⟨p4, s5 _ _ hf2, (s4.trans s5) _ _ h4⟩
  -- same
  refine ⟨_, rfl, _, rfl, by omega, by omega, fun D nD => ?_⟩
  rw [Int.toNat_natCast]
  refine lc_selR (lo := 0) (n := many) ((List.range many).map fun i => if (padF ws many).getD i 0 * 2 ^ th ≠ (padF us many).getD i 0 * 2 ^ sh then some (V.int (i : Nat)) else none) nD (by rw [List.length_map, List.length_range]) (small1000 (by omega)) (fun x => rfl) ?_ ?_
  · intro i o H' hi ho s Qt qt
    rw [List.getElem?_map, List.getElem?_range hi] at ho
    cases ho
    dsimp only at qt
    rw [show (0 : Int) + (i : Int) = i by omega]
    obtain ⟨z1, hz1, hz2⟩ := wf1.same s
    obtain ⟨z2, hy1, hy2⟩ := wf2.same s
    have hF' := s _ _ hF
    have ha' := (s05.trans s) _ _ ha
    have hb' := (s05.trans s) _ _ hb
    walk_at "go"
    refine ⟨F, _, _, _, rfl, rfl, .inl (.inl hF'), at2_0 _ _, ?_⟩
    refine ⟨f1, _, _, _, rfl, rfl, .inl (.inl hz1), at2_0 _ _, ?_⟩
    walk_at "go"
    refine ⟨z1, _, _, _, rfl, rfl, .inl (.inl hz2), at_ints (by omega), ?_⟩
    walk_at "go"
    refine ⟨b, _, _, _, rfl, rfl, .inl (.inl hb'), at2_1 _ _, ?_⟩
    refine ⟨_, _, rfl, rfl, ⟨by omega, by omega, by decide⟩, ?_⟩
    walk_at "b"
    rw [Int.toNat_natCast, Int.one_mul]
    refine ⟨_, _, rfl, rfl, .inr ⟨by omega, by omega⟩, ?_⟩
    walk_at "go"
    refine ⟨F, _, _, _, rfl, rfl, .inl (.inl hF'), at2_1 _ _, ?_⟩
    refine ⟨f2, _, _, _, rfl, rfl, .inl (.inl hy1), at2_0 _ _, ?_⟩
    walk_at "go"
    refine ⟨z2, _, _, _, rfl, rfl, .inl (.inl hy2), at_ints (by omega), ?_⟩
    walk_at "go"
    refine ⟨a, _, _, _, rfl, rfl, .inl (.inl ha'), at2_1 _ _, ?_⟩
    refine ⟨_, _, rfl, rfl, ⟨by omega, by omega, by decide⟩, ?_⟩
    walk_at "b"
    rw [Int.toNat_natCast, Int.one_mul]
    refine ⟨_, _, rfl, rfl, .inr ⟨by omega, by omega⟩, ?_⟩
    refine ⟨rfl, _, rfl, ?_⟩
    by_cases c : (padF ws many).getD i 0 * 2 ^ th = (padF us many).getD i 0 * 2 ^ sh
    · rw [if_neg (fun z => z c)] at qt
      refine iteENF c ?_
      exact qt _ (Same.refl _)
    · rw [if_pos c] at qt
      refine iteENT c ?_
      walk_at "go"
      exact qt _ (Same.refl _)
  intro H6 s6 hD
  rw [sel_nats] at hD
  refine ⟨Nat.zero_le _, fun p5 np5 => ?_⟩
  obtain ⟨H7, e7, s7, h7⟩ := fresh (.lst (([] : List Int).map V.int)) np5
  have e7' : upd H6 p5 (.lst []) = H7 := e7
  rw [e7']
  refine eqD_lst (ns := (misL ws sh us th many).map fun (i : Nat) => (i : Int)) (ms := []) (.inl (.inl (s7 _ _ hD))) (.inl (.inl h7)) ?_
  have eS : decide ((misL ws sh us th many).map (fun (i : Nat) => (i : Int)) = []) = decide (Alike ws sh us th) := decide_eq_decide.mpr (by rw [List.map_eq_nil_iff, emisL])
  rw [eS]
  have s57 := s6.trans s7
  have s07 := s05.trans s57
  have hF7 := s57 _ _ hF
  have vf1 := wf1.same s57
  have vf2 := wf2.same s57
  -- made
  walk_at "go"
  refine ⟨a, _, _, _, rfl, rfl, .inl (.inl (s07 _ _ ha)), at2_0 _ _, ?_⟩
  refine ⟨p, _, rfl, .inl (.inl (.inl (s07 _ _ hp))), fun l1 nl1 => ?_⟩
  obtain ⟨H8, e8, s8, hl1'⟩ := fresh (.lst (ws.map V.int)) nl1
  rw [e8]
  have s08 := s07.trans s8
  walk_at "go"
  refine ⟨a, _, _, _, rfl, rfl, .inl (.inl (s08 _ _ ha)), at2_1 _ _, ?_⟩
  intro x1 z2 z3 z4 z5
  refine ⟨x1, l1, z2, ws, sh, rfl, upd_same, .inl (mk_same z3 z4 _ _ hl1'), hW, by omega, fun H9 kp g1 _ => ⟨rfl, ?_⟩⟩
  have s9 := mk_kept z3 z4 kp
  clear kp z3 z4 z5
  have s09 := s08.trans s9
  walk_at "go"
  refine ⟨b, _, _, _, rfl, rfl, .inl (.inl (s09 _ _ hb)), at2_0 _ _, ?_⟩
  refine ⟨p2, _, rfl, .inl (.inl (.inl (s09 _ _ hp2))), fun l2 nl2 => ?_⟩
  obtain ⟨H10, e10, s10, hl2'⟩ := fresh (.lst (us.map V.int)) nl2
  rw [e10]
  have s010 := s09.trans s10
  walk_at "go"
  refine ⟨b, _, _, _, rfl, rfl, .inl (.inl (s010 _ _ hb)), at2_1 _ _, ?_⟩
  intro x2 z2 z3 z4 z5
  refine ⟨x2, l2, z2, us, th, rfl, upd_same, .inl (mk_same z3 z4 _ _ hl2'), hU, by omega, fun H11 kp g2 _ => ⟨rfl, ?_⟩⟩
  have s11 := mk_kept z3 z4 kp
  clear kp z3 z4 z5
  have g1' := (g1.same s10).same s11
  refine ⟨(show 2 ≤ sizeLine by decide), fun M nM => ?_⟩
  obtain ⟨H12, e12, s12, hM⟩ := fresh (.lst [V.ref x1, V.ref x2]) nM
  rw [e12]
  have G1 := g1'.same s12
  have G2 := g2.same s12
  have s712 := (((s8.trans s9).trans s10).trans s11).trans s12
  have s012 := s07.trans s712
  have hF12 := s712 _ _ hF7
  have uf1 := vf1.same s712
  have uf2 := vf2.same s712
  -- same_guess
  walk_at "go"
  refine ⟨M, _, _, _, rfl, rfl, .inl (.inl hM), at2_0 _ _, ?_⟩
  walk_at "go"
  refine ⟨M, _, _, _, rfl, rfl, .inl (.inl hM), at2_1 _ _, ?_⟩
  refine ⟨x1, x2, ws, sh, us, th, rfl, G1, G2, fun H13 s13 => ?_⟩
  have hM13 := s13 _ _ hM
  refine ⟨_, rfl, rfl, _, rfl, ?_⟩
  refine iteNF rfl ?_
  walk_at "go"
  refine ⟨M, _, _, _, rfl, rfl, .inl (.inl hM13), at2_1 _ _, ?_⟩
  walk_at "go"
  refine ⟨M, _, _, _, rfl, rfl, .inl (.inl hM13), at2_0 _ _, ?_⟩
  refine ⟨x2, x1, us, th, ws, sh, rfl, G2.same s13, G1.same s13, fun H14 s14 => ?_⟩
  have s1214 := s13.trans s14
  have hM14 := s1214 _ _ hM
  rw [show decide (Alike us th ws sh) = decide (Alike ws sh us th) from decide_eq_decide.mpr alike_comm]
  refine ⟨_, rfl, rfl, _, rfl, ?_⟩
  refine iteNF rfl ?_
  -- told
  walk_at "go"
  refine ⟨M, _, _, _, rfl, rfl, .inl (.inl hM14), at2_0 _ _, ?_⟩
  walk_at "go"
  refine ⟨M, _, _, _, rfl, rfl, .inl (.inl hM14), at2_1 _ _, ?_⟩
  refine ⟨x1, x2, ws, sh, us, th, rfl, G1.same s1214, G2.same s1214, by rw [← hmany]; exact hfuel, ?_, ?_⟩
  · rw [← hmany]
    intro hno H15 s15
    have hal := efound.mp hno
    rw [decide_eq_true hal]
    walk_at "go"
    exact q _ ((s012.trans s1214).trans s15)
  rw [← hmany]
  intro j x hsome H15 t s15 nt ht
  have hal := esome j x hsome
  rw [decide_eq_false hal]
  have s1215 := s1214.trans s15
  have hM15 := s1215 _ _ hM
  walk_at "go"
  refine ⟨M, _, _, _, rfl, rfl, .inl (.inl hM15), at2_1 _ _, ?_⟩
  walk_at "go"
  refine ⟨M, _, _, _, rfl, rfl, .inl (.inl hM15), at2_0 _ _, ?_⟩
  refine ⟨x2, x1, us, th, ws, sh, rfl, G2.same s1215, G1.same s1215, by rw [emax]; exact hfuel', ?_, ?_⟩
  · rw [emax]
    intro hno
    exact absurd (efound.mp (found_symm hno)) hal
  rw [emax]
  intro j' x' hsome' H16 t' s16 nt' ht'
  obtain ⟨rfl, rfl⟩ := found_uniq hsome (found_symm hsome')
  have s1216 := s1215.trans s16
  have hM16 := s1216 _ _ hM
  have ht16 := s16 _ _ ht
  refine neD_lst (.inl (.inl ht16)) (.inl (.inl ht')) ?_
  refine ⟨_, rfl, ?_⟩
  refine iteNF rfl ?_
  walk_at "go"
  refine ⟨M, _, _, _, rfl, rfl, .inl (.inl hM16), at2_0 _ _, ?_⟩
  walk_at "go"
  refine ⟨x1, t, ws, sh, _, rfl, G1.same s1216, .inl ht16, by rw [rowP_len]; omega, by rw [rowP_len]; exact hwm, fun H17 s17 => ?_⟩
  walk_at "go"
  refine ⟨M, _, _, _, rfl, rfl, .inl (.inl (s17 _ _ hM16)), at2_1 _ _, ?_⟩
  walk_at "go"
  refine ⟨x2, t, us, th, _, rfl, (G2.same s1216).same s17, .inl (s17 _ _ ht16), by rw [rowP_len]; omega, by rw [rowP_len]; exact hum, fun H18 s18 => ?_⟩
  refine ⟨rfl, _, rfl, ?_⟩
  refine iteEF (told_parts hsome hwm hum) ?_
  have s1218 := (s1216.trans s17).trans s18
  have ht18 := (s17.trans s18) _ _ ht16
  have hF18 := s1218 _ _ hF12
  -- due
  walk_at "go"
  refine ⟨F, _, _, _, rfl, rfl, .inl (.inl hF18), at2_0 _ _, ?_⟩
  walk_at "go"
  refine ⟨F, _, _, _, rfl, rfl, .inl (.inl hF18), at2_1 _ _, ?_⟩
  walk_at "go"
  refine ⟨f1, f2, padF ws many, padF us many, sh, th, many, j, x, rfl, uf1.same s1218, uf2.same s1218, hpl1, hpl2, big_pad hW, big_pad hU, by omega, by omega, by omega, found_pad hsome, fun H19 d s19 nd hd => ?_⟩
  walk_at "go"
  refine ⟨by omega, by omega, fun D2 nD2 => ?_⟩
  rw [Int.toNat_natCast]
  refine lc_mapR (lo := 0) (n := many) ((rowP many j x).map V.int) nD2 (by rw [List.length_map, rowP_len]) (small1000 (by omega)) (fun x => rfl) ?_ ?_
  · intro k y H' hk hy s Qt qt
    unfold rowP at hy
    rw [List.getElem?_map, List.getElem?_map, List.getElem?_range hk] at hy
    cases hy
    have hj : j < many := hsome.1
    have hd' := s _ _ hd
    rw [show (0 : Int) + (k : Int) = k by omega]
    walk_at "go"
    refine ⟨d, _, _, _, rfl, rfl, .inl (.inl hd'), at2_0 _ _, ?_⟩
    refine ⟨_, _, rfl, rfl, rfl, _, rfl, ?_⟩
    dsimp only at qt
    by_cases c : k = many - 1 - j
    · refine iteET (by omega) ?_
      rw [if_pos c] at qt
      walk_at "go"
      refine ⟨d, _, _, _, rfl, rfl, .inl (.inl hd'), at2_1 _ _, ?_⟩
      exact qt _ (Same.refl _)
    · refine iteEF (by omega) ?_
      rw [if_neg c] at qt
      walk_at "go"
      exact qt _ (Same.refl _)
  intro H20 s20 hD2
  refine eqD_lst (.inl (.inl ((s19.trans s20) _ _ ht18))) (.inl (.inl hD2)) ?_
  rw [decide_eq_true rfl]
  exact q _ ((((s012.trans s1218)).trans s19).trans s20)
end
end My

namespace My
open PySem PySem.Spec PyProof.Rows L2 Pre
theorem weights_of {us ws : List Int} {sh th : Nat} (h : NormOf ws sh us th) : us.length ≤ ws.length := h.2.2.1
theorem norm_again {ws us vs : List Int} {sh th uh : Nat} (h : NormOf ws sh us th) (h' : NormOf us th vs uh) : vs = us ∧ uh = th := norm_uniq h'.1 h.1 h'.2.2.2
theorem norm_alike {ws us : List Int} {sh th : Nat} (h : NormOf ws sh us th) : Alike us th ws sh := fun i _ => h.2.2.2 i
/-! ### the written ones -/
theorem f1_found : FoundAt [3, 32768] 15 [3, 32767] 15 2 (some (1, 1)) := by
  refine ⟨by decide, by decide +kernel, ⟨1, by decide, by decide +kernel, .inl ⟨rfl, ?_⟩, fun n h1 h2 => by omega⟩, fun k hk hne => ?_⟩
  · unfold Unl; decide +kernel
  · rcases (show k = 0 ∨ k = 1 by omega) with rfl | rfl
    · exact absurd (by decide +kernel) hne
    · refine ⟨1, ⟨1, by decide, by decide +kernel, .inl ⟨rfl, ?_⟩, fun n h1 h2 => by omega⟩, Nat.le_refl _, fun z => absurd z (Nat.lt_irrefl 1)⟩
      unfold Unl; decide +kernel
theorem f1_fuel : ∀ j, j < 2 → FuelAt [3, 32768] 15 [3, 32767] 15 j := fun j hj => by
  unfold FuelAt
  rcases (show j = 0 ∨ j = 1 by omega) with rfl | rfl
  · exact ⟨fun h => absurd h (by decide +kernel), fun h => absurd h (by decide +kernel)⟩
  · exact ⟨fun h => absurd h (by decide +kernel), fun _ => ⟨64, (1, 1), Nat.le_refl _, by decide +kernel⟩⟩
theorem f2_samp : SampAt [1] 15 [2] 15 0 16384 := by
  refine ⟨16384, by decide, by decide +kernel, .inl ⟨rfl, ?_⟩, fun n h1 h2 => ?_⟩
  · unfold Unl; decide +kernel
  · have e : (2 : Int) ^ 15 = 32768 := by decide
    unfold Unl
    show ¬ ((1 : Int) * n / 2 ^ 15 ≠ 2 * n / 2 ^ 15) ∧ ¬ ((1 : Int) * -n / 2 ^ 15 ≠ 2 * -n / 2 ^ 15)
    rw [e]
    omega
theorem f2_found : FoundAt [1] 15 [2] 15 1 (some (0, 16384)) := by
  refine ⟨by decide, by decide +kernel, f2_samp, fun k hk hne => ?_⟩
  rcases (show k = 0 by omega) with rfl
  exact ⟨16384, f2_samp, Nat.le_refl _, fun z => absurd z (Nat.lt_irrefl 0)⟩
theorem f2_fuel : ∀ j, j < 1 → FuelAt [1] 15 [2] 15 j := fun j hj => by
  unfold FuelAt
  rcases (show j = 0 by omega) with rfl
  exact ⟨fun _ => ⟨64, (1, 16384), Nat.le_refl _, by decide +kernel⟩, fun h => absurd h (by decide +kernel)⟩
theorem f4_samp : SampAt [] 0 [5] 3 0 (-1) := by
  refine ⟨1, by decide, by decide +kernel, .inr ⟨rfl, ?_, ?_⟩, fun n h1 h2 => by omega⟩
  · unfold Unl; decide +kernel
  · unfold Unl; decide +kernel
theorem f4_found : FoundAt [] 0 [5] 3 1 (some (0, -1)) := by
  refine ⟨by decide, by decide +kernel, f4_samp, fun k hk hne => ?_⟩
  rcases (show k = 0 by omega) with rfl
  exact ⟨-1, f4_samp, Nat.le_refl _, fun z => absurd z (Nat.lt_irrefl 0)⟩
theorem seq_if_to {c : TT} {t u r : TS} {D : Ends} {σ : L2.St} {H : Hp} (Ex : Hp → Prop) (hx : ∀ H2, Ex H2 → u { D with nx := r D } σ H2) (h : (∀ H2, Ex H2 → u { D with nx := r D } σ H2) → tSeq (tIfS c t u) r D σ H) : tSeq (tIfS c t u) r D σ H := h hx
local macro_rules | `(tactic| walk_at "go") => `(tactic| repeat (first | (with_reducible first | refine iteT ?_ | refine iteF ?_ | refine iteNtt ?_ | refine iteNff ?_ | refine iteET (by omega) ?_ | refine iteEF (by omega) ?_ | refine iteENT (by omega) ?_ | refine iteENF (by omega) ?_ | refine iteDT (by omega) ?_ | refine iteDF (by omega) ?_ | refine iteNT (by omega) ?_ | refine iteNF (by omega) ?_) | refine ⟨_, rfl, ?_⟩ | refine ⟨_, _, rfl, rfl, ?_⟩ | refine ⟨_, _, rfl, ?_⟩ | refine ⟨rfl, ?_⟩ | refine .inl ⟨_, rfl, ?_⟩ | refine .inr ⟨_, rfl, ?_⟩))
local macro_rules | `(tactic| walk_at "b") => `(tactic| try dsimp (config := { proj := false, iota := false, eta := false, zeta := false }) only)
section
variable {P : Program} {w : World} {K : PySem.W.Frag} {mg : Str → Option Value} {base : Heap}
def sp_law_normal_right (C : Addr) : Sp := fun vs H Q _ => ∃ (a : Addr) (ws : List Int) (sh : Nat), vs = [.ref a, .int sh] ∧ H a = some (.lst (ws.map V.int)) ∧ Weights ws ∧ sh ≤ 5 ∧ ∀ H', Same H H' → Q (.bl true) H'
theorem G_law_normal_right (T : Top K mg) : FnOk P w K mg base CX0 6 T.f_law_normal_right T.fd_law_normal_right ["_law_weights_here", "_law_shift"] (sp_law_normal_right T.C_Guesser) := by
  refine T.F_law_normal_right.ok sc_law_normal_right (fun vs H Q E h => by obtain ⟨a, ws, sh, rfl, _⟩ := h; rfl) (fun cdv A outer s H vs Q E hr h => ?_)
  obtain ⟨a, ws, sh, rfl, ha, hW, hsh, q⟩ := h
  refine ⟨_, PSs.nox (pss_cons (ps_set (i := 2) sc_law_normal_right.nd rfl (by first | exact Or.inl rfl | exact Or.inr rfl) (pe_call (G_normal T) (hr.mono (by decide)) (by rfl) T.g_normal T.F_normal.kp T.b_normal .nil pass0 (pa_cons (pe_make T.mk_Guesser (G_Guesser___init__ T) (hr.mono (by decide)) (by rfl) T.gc_Guesser T.b_Guesser___init__ .nil pass0 (pa_cons (pe_callTy (k_listOf K rfl) (by rfl) T.n_list (by decide +kernel) (pa_cons (pv 0) pa_nil)) (pa_cons (pv 1) pa_nil))) pa_nil)))
  (pss_cons (ps_par (by rfl) sc_law_normal_right.nd (i := 3) (j := 4) rfl rfl (by decide) rfl rfl (pa_cons (pe_meth0 (pv 2) T.cl_Guesser T.me_Guesser_weights (G_Guesser_weights T) (hr.mono (by decide)) T.b_Guesser_weights .nil pass0) (pa_cons (pe_meth0 (pv 2) T.cl_Guesser T.me_Guesser_shift (G_Guesser_shift T) (hr.mono (by decide)) T.b_Guesser_shift .nil pass0) pa_nil)) (by rfl))
  (pss_cons (ps_if (PW.pt (pw_or (pt_not (pt_val (pe_call (G_same_guess T) (hr.mono (by decide)) (by rfl) T.g_same_guess T.F_same_guess.kp T.b_same_guess .nil pass0 (pa_cons (pv 2) (pa_cons (pe_make T.mk_Guesser (G_Guesser___init__ T) (hr.mono (by decide)) (by rfl) T.gc_Guesser T.b_Guesser___init__ .nil pass0 (pa_cons (pe_callTy (k_listOf K rfl) (by rfl) T.n_list (by decide +kernel) (pa_cons (pv 0) pa_nil)) (pa_cons (pv 1) pa_nil))) pa_nil))))) (pw_or1 (PW.pt (pw_and (pt_cmpR (k_neD K rfl hr.units) (pv 3) (pe_lst pa_nil) (nomark _)) (pw_and1 (pt_cmpR op_eq (pe_ix (k_ixL K rfl) (pv 3) (pe_un un_neg pe_int) (fun _ _ => rfl)) pe_int (nomark _))))))))
    (pss_one (ps_ret pe_bl))
    pss_nil)
  (pss_cons (ps_if (PW.pt (pw_and (pt_cmpR op_gt (pv 4) pe_int (nomark _)) (pw_and1 (pt_cmpR (k_eqD K rfl hr.units) (pe_lc (own := [("_law_weight", 5)]) (g := gName 5) (by rfl) sc_law_normal_right.nd (k_piL K rfl (pv 3)) (blkOk_by (own := [("_law_weight", 5)]) (N := N_law_normal_right) (sc := defScope s_law_normal_right) (by decide +kernel)) (fun _ _ _ _ _ => (pg_name (i := 5) sc_law_normal_right.nd rfl (by first | exact Or.inl rfl | exact Or.inr rfl))) (fun _ _ _ _ _ => (pts_one (pt_cmpR op_eq (pe_op op_mod (pv 5) pe_int) pe_int (nomark _)))) (fun _ _ _ _ _ => (pv 5))) (pe_lst pa_nil) (nomark _)))))
    (pss_one (ps_ret pe_bl))
    pss_nil)
  (pss_one (ps_ret (pe_and (pe_cmpR op_le (pv 4) (pv 1) (nomark _)) (pe_one (pe_cmpR (op_own_eq T.ec_Guesser (G_Guesser___eq__ T) (hr.mono (by decide)) T.b_Guesser___eq__ pass0) (pe_call (G_normal T) (hr.mono (by decide)) (by rfl) T.g_normal T.F_normal.kp T.b_normal .nil pass0 (pa_cons (pv 2) pa_nil)) (pv 2) (nomark _)))))))))), ?_⟩
  have hl := hW.1
  walk_at "go"
  refine ⟨a, _, rfl, .inl (.inl (.inl ha)), fun l nl => ?_⟩
  obtain ⟨H1, e1, s1, h1⟩ := fresh (.lst (ws.map V.int)) nl
  rw [e1]
  walk_at "go"
  intro x z2 z3 z4 z5
  refine ⟨x, l, z2, ws, sh, rfl, upd_same, .inl (mk_same z3 z4 _ _ h1), hW, by omega, fun H2 kp g2 _ => ⟨rfl, ?_⟩⟩
  have s2 := mk_kept z3 z4 kp
  clear kp z3 z4 z5
  walk_at "go"
  refine ⟨x, ws, sh, rfl, g2, fun t H3 us th s3 nt hN gt => ?_⟩
  have s03 := (s1.trans s2).trans s3
  have hul := hN.2.2.1
  have hth := hN.2.1
  obtain ⟨hWt, _, dt, pt, hdt, hpt⟩ := id gt
  -- plain, down
  walk_at "go"
  refine ⟨t, dt, _, rfl, hdt, rfl, t, us, th, rfl, gt, fun pl H4 npl s4 hpl => ?_⟩
  walk_at "go"
  refine ⟨t, dt, _, rfl, s4 _ _ hdt, rfl, t, us, th, rfl, gt.same s4, ?_⟩
  have s04 := s03.trans s4
  refine ⟨_, _, rfl, ?_⟩
  dsimp only
  refine seq_if_to (fun H9 => Same H4 H9) ?_ ?_
  · intro H9 s9
    have gt9 := (gt.same s4).same s9
    have s09 := s04.trans s9
    have hpl9 := s9 _ _ hpl
    unfold tNext
    dsimp only
    refine seq_if_to (fun H9 => Same H4 H9) ?_ ?_
    · intro H10 s10
      have gt10 := (gt.same s4).same s10
      walk_at "go"
      refine ⟨t, us, th, rfl, gt10, fun t2 H11 vs uh s11 nt2 hN2 g11 => ?_⟩
      obtain ⟨rfl, rfl⟩ := norm_again hN hN2
      obtain ⟨_, _, d2, p2, hd2, _⟩ := id g11
      obtain ⟨_, _, d3, p3, hd3, _⟩ := id (gt10.same s11)
      walk_at "go"
      refine ⟨t2, d2, _, rfl, hd2, ⟨t, rfl, .inl ⟨d3, _, hd3⟩⟩, t2, t, vs, uh, true, rfl, g11, .inl ⟨vs, uh, gt10.same s11, (decide_eq_true ⟨rfl, rfl⟩).symm⟩, true, rfl, ?_⟩
      exact q _ ((s04.trans s10).trans s11)
    · intro hx
      refine ⟨_, rfl, _, _, rfl, rfl, _, rfl, ?_⟩
      by_cases c : 0 < th
      · refine iteDT (by omega) ?_
        refine ⟨_, rfl, pl, rfl, ⟨_, .inl (.inl hpl9)⟩, fun D nD => ?_⟩
        refine lc_selL (K := K) (xs := us.map V.int) (us.map fun n => if n % 2 = 1 then some (V.int n) else none) nD (.inl (.inl hpl9)) (by rw [List.length_map, List.length_map]) (small_row (by omega)) (fun x => rfl) ?_ ?_
        · intro i x o H' hx ho s Qt qt
          obtain ⟨n, hn, rfl⟩ := int_at hx
          rw [List.getElem?_map, hn] at ho
          cases ho
          dsimp only at qt
          refine ⟨_, rfl, _, _, rfl, rfl, (by show (0 : Int) < 2; decide), rfl, _, rfl, ?_⟩
          by_cases e : n % 2 = 1
          · rw [if_pos e] at qt
            refine iteET e ?_
            exact ⟨_, rfl, qt _ (Same.refl _)⟩
          · rw [if_neg e] at qt
            refine iteEF e ?_
            exact qt _ (Same.refl _)
        · intro H10 s10 hD
          rw [sel_ints] at hD
          refine ⟨Nat.zero_le _, fun p5 np5 => ?_⟩
          obtain ⟨H11, e11, s11, h11⟩ := fresh (.lst (([] : List Int).map V.int)) np5
          have e11' : upd H10 p5 (.lst []) = H11 := e11
          rw [e11']
          refine eqD_lst (ns := odds us) (ms := []) (.inl (.inl (s11 _ _ hD))) (.inl (.inl h11)) ?_
          refine ⟨_, rfl, ?_⟩
          obtain ⟨n, hn, ho⟩ := hN.1.odd c
          rw [decide_eq_false (fun z => odds_nil.mp z n hn ho)]
          refine iteF ?_
          exact hx _ ((s9.trans s10).trans s11)
      · refine iteDF (by omega) ?_
        exact hx _ s9
  · intro hx
    walk_at "go"
    refine ⟨a, _, rfl, .inl (.inl (.inl (s04 _ _ ha))), fun l2 nl2 => ?_⟩
    obtain ⟨H5, e5, s5, h5⟩ := fresh (.lst (ws.map V.int)) nl2
    rw [e5]
    walk_at "go"
    intro x2 z2 z3 z4 z5
    refine ⟨x2, l2, z2, ws, sh, rfl, upd_same, .inl (mk_same z3 z4 _ _ h5), hW, by omega, fun H6 kp g6 _ => ⟨rfl, ?_⟩⟩
    have s6 := mk_kept z3 z4 kp
    clear kp z3 z4 z5
    have s46 := s5.trans s6
    walk_at "go"
    refine ⟨t, x2, us, th, ws, sh, rfl, (gt.same s4).same s46, g6, fun H7 s7 => ?_⟩
    rw [decide_eq_true (norm_alike hN)]
    have s47 := s46.trans s7
    have hpl7 := s47 _ _ hpl
    walk_at "go"
    refine ⟨Nat.zero_le _, fun c nc => ?_⟩
    obtain ⟨H8, e8, s8, h8⟩ := fresh (.lst (([] : List Int).map V.int)) nc
    have e8' : upd H7 c (.lst []) = H8 := e8
    rw [e8']
    have hpl8 := s8 _ _ hpl7
    have s48 := s47.trans s8
    refine neD_lst (ns := us) (ms := []) (.inl (.inl hpl8)) (.inl (.inl h8)) ?_
    refine ⟨_, rfl, ?_⟩
    by_cases hz : us = []
    · refine iteNF hz ?_
      exact hx _ s48
    · refine iteNT hz ?_
      walk_at "go"
      refine ⟨pl, _, _, _, rfl, rfl, .inl (.inl hpl8), last_at hz, ?_⟩
      refine ⟨rfl, _, rfl, ?_⟩
      refine iteEF (hN.1.last hz) ?_
      exact hx _ s48
end
end My

namespace My
open PySem PySem.Spec PyProof.Rows L2 Pre
theorem small_w (ws : List Int) (h : ws.all (fun n => decide (-32768 ≤ n ∧ n ≤ 32768)) = true) (hl : ws.length ≤ 8) : Weights ws := ⟨hl, fun n hn => of_decide_eq_true (List.all_eq_true.mp h n hn)⟩
local macro_rules | `(tactic| walk_at "go") => `(tactic| repeat (first | (with_reducible first | refine iteT ?_ | refine iteF ?_ | refine iteNtt ?_ | refine iteNff ?_ | refine iteET (by omega) ?_ | refine iteEF (by omega) ?_ | refine iteENT (by omega) ?_ | refine iteENF (by omega) ?_ | refine iteDT (by omega) ?_ | refine iteDF (by omega) ?_ | refine iteNT (by omega) ?_ | refine iteNF (by omega) ?_) | refine ⟨_, rfl, ?_⟩ | refine ⟨_, _, rfl, rfl, ?_⟩ | refine ⟨_, _, rfl, ?_⟩ | refine ⟨rfl, ?_⟩ | refine .inl ⟨_, rfl, ?_⟩ | refine .inr ⟨_, rfl, ?_⟩))
local macro_rules | `(tactic| walk_at "b") => `(tactic| try dsimp (config := { proj := false, iota := false, eta := false, zeta := false }) only)
section
variable {P : Program} {w : World} {K : PySem.W.Frag} {mg : Str → Option Value} {base : Heap}
def sp_law (K : PySem.W.Frag) : Sp := fun vs H Q _ => ∃ (a : Addr) (ns : List Int), vs = [.ref a] ∧ SqL K H a (ns.map V.int) ∧ ns.length ≤ 63 ∧ ∀ H', Q (.bl true) H'
theorem G_law (T : Top K mg) : FnOk P w K mg base CX0 71 T.f_law T.fd_law ["_law_script"] (sp_law K) := by
  refine T.F_law.ok sc_law (fun vs H Q E h => by obtain ⟨a, ns, rfl, _⟩ := h; rfl) (fun cdv A outer s H vs Q E hr h => ?_)
  obtain ⟨a, ns, rfl, hS, hn, q⟩ := h
  refine ⟨_, PSs.nox (pss_cons (ps_for PassesOwn.never rfl (pi_range1 (by rfl) T.n_range (pa_cons pe_int pa_nil)) (pg_name (i := 1) sc_law.nd rfl (by first | exact Or.inl rfl | exact Or.inr rfl))
    (pss_cons (ps_set (i := 2) sc_law.nd rfl (by first | exact Or.inl rfl | exact Or.inr rfl) (pe_call (G_law_generator T) (hr.mono (by decide)) (by rfl) T.g_law_generator T.F_law_generator.kp T.b_law_generator .nil pass0 (pa_cons (pv 0) (pa_cons (pv 1) pa_nil))))
  (pss_cons (ps_par (by rfl) sc_law.nd (i := 6) (j := 7) rfl rfl (by decide) rfl rfl (pa_cons (pe_call (G_law_small T) (hr.mono (by decide)) (by rfl) T.g_law_small T.F_law_small.kp T.b_law_small .nil pass0 (pa_cons (pe_call (G_law_weights T) (hr.mono (by decide)) (by rfl) T.g_law_weights T.F_law_weights.kp T.b_law_weights .nil pass0 (pa_cons (pv 2) (pa_cons (pe_call (G_law_random T) (hr.mono (by decide)) (by rfl) T.g_law_random T.F_law_random.kp T.b_law_random .nil pass0 (pa_cons (pv 2) (pa_cons pe_int pa_nil))) pa_nil))) pa_nil)) (pa_cons (pe_call (G_law_random T) (hr.mono (by decide)) (by rfl) T.g_law_random T.F_law_random.kp T.b_law_random .nil pass0 (pa_cons (pv 2) (pa_cons pe_int pa_nil))) pa_nil)) (by rfl))
  (pss_cons (ps_set (i := 3) sc_law.nd rfl (by first | exact Or.inl rfl | exact Or.inr rfl) (pe_call (G_law_other_drawn T) (hr.mono (by decide)) (by rfl) T.g_law_other_drawn T.F_law_other_drawn.kp T.b_law_other_drawn .nil pass0 (pa_cons (pv 2) (pa_cons (pv 6) (pa_cons (pv 7) pa_nil)))))
  (pss_cons (ps_set (i := 3) sc_law.nd rfl (by first | exact Or.inl rfl | exact Or.inr rfl) (pe_lst (pa_cons (pe_call (G_law_small T) (hr.mono (by decide)) (by rfl) T.g_law_small T.F_law_small.kp T.b_law_small .nil pass0 (pa_cons (pe_ix (k_ixL K rfl) (pv 3) pe_int (fun _ _ => rfl)) pa_nil)) (pa_cons (pe_ix (k_ixL K rfl) (pv 3) pe_int (fun _ _ => rfl)) pa_nil))))
  (pss_one (ps_if (PW.pt (pw_or (pt_not (pt_val (pe_call (G_law_right T) (hr.mono (by decide)) (by rfl) T.g_law_right T.F_law_right.kp T.b_law_right .nil pass0 (pa_cons (pe_lst (pa_cons (pv 6) (pa_cons (pv 7) pa_nil))) (pa_cons (pv 3) pa_nil))))) (pw_or1 (pt_not (pt_val (pe_call (G_law_normal_right T) (hr.mono (by decide)) (by rfl) T.g_law_normal_right T.F_law_normal_right.kp T.b_law_normal_right .nil pass0 (pa_cons (pv 6) (pa_cons (pv 7) pa_nil))))))))
    (pss_one (ps_ret pe_bl))
    pss_nil)))))))
  (pss_cons (ps_par (by rfl) sc_law.nd (i := 4) (j := 5) rfl rfl (by decide) rfl rfl (pa_cons (pe_make T.mk_Guesser (G_Guesser___init__ T) (hr.mono (by decide)) (by rfl) T.gc_Guesser T.b_Guesser___init__ .nil pass0 (pa_cons (pe_lst (pa_cons pe_int (pa_cons (pe_op op_powW pe_int pe_int) pa_nil))) (pa_cons pe_int pa_nil))) (pa_cons (pe_make T.mk_Guesser (G_Guesser___init__ T) (hr.mono (by decide)) (by rfl) T.gc_Guesser T.b_Guesser___init__ .nil pass0 (pa_cons (pe_lst (pa_cons pe_int (pa_cons (pe_op op_sub (pe_op op_powW pe_int pe_int) pe_int) pa_nil))) (pa_cons pe_int pa_nil))) pa_nil)) (by rfl))
  (pss_cons (ps_if (PW.pt (pw_or (pt_cmpR (k_neD K rfl hr.units) (pe_call (G_parting_row T) (hr.mono (by decide)) (by rfl) T.g_parting_row T.F_parting_row.kp T.b_parting_row .nil pass0 (pa_cons (pv 4) (pa_cons (pv 5) pa_nil))) (pe_lst (pa_cons pe_int (pa_cons pe_int pa_nil))) (nomark _)) (pw_or1 (pt_cmpR (k_neD K rfl hr.units) (pe_call (G_parting_row T) (hr.mono (by decide)) (by rfl) T.g_parting_row T.F_parting_row.kp T.b_parting_row .nil pass0 (pa_cons (pe_make T.mk_Guesser (G_Guesser___init__ T) (hr.mono (by decide)) (by rfl) T.gc_Guesser T.b_Guesser___init__ .nil pass0 (pa_cons (pe_lst (pa_cons pe_int pa_nil)) (pa_cons pe_int pa_nil))) (pa_cons (pe_make T.mk_Guesser (G_Guesser___init__ T) (hr.mono (by decide)) (by rfl) T.gc_Guesser T.b_Guesser___init__ .nil pass0 (pa_cons (pe_lst (pa_cons pe_int pa_nil)) (pa_cons pe_int pa_nil))) pa_nil))) (pe_lst (pa_cons pe_int pa_nil)) (nomark _)))))
    (pss_one (ps_ret pe_bl))
    pss_nil)
  (pss_one (ps_ret (pe_and (pe_cmpR op_isN (pe_call (G_parting_row T) (hr.mono (by decide)) (by rfl) T.g_parting_row T.F_parting_row.kp T.b_parting_row .nil pass0 (pa_cons (pe_make T.mk_Guesser (G_Guesser___init__ T) (hr.mono (by decide)) (by rfl) T.gc_Guesser T.b_Guesser___init__ .nil pass0 (pa_cons (pe_lst pa_nil) (pa_cons pe_int pa_nil))) (pa_cons (pe_make T.mk_Guesser (G_Guesser___init__ T) (hr.mono (by decide)) (by rfl) T.gc_Guesser T.b_Guesser___init__ .nil pass0 (pa_cons (pe_lst (pa_cons pe_int pa_nil)) (pa_cons pe_int pa_nil))) pa_nil))) pe_non (nomark _)) (pe_one (pe_cmpR (k_eqD K rfl hr.units) (pe_call (G_parting_row T) (hr.mono (by decide)) (by rfl) T.g_parting_row T.F_parting_row.kp T.b_parting_row .nil pass0 (pa_cons (pe_make T.mk_Guesser (G_Guesser___init__ T) (hr.mono (by decide)) (by rfl) T.gc_Guesser T.b_Guesser___init__ .nil pass0 (pa_cons (pe_lst pa_nil) (pa_cons pe_int pa_nil))) (pa_cons (pe_make T.mk_Guesser (G_Guesser___init__ T) (hr.mono (by decide)) (by rfl) T.gc_Guesser T.b_Guesser___init__ .nil pass0 (pa_cons (pe_lst (pa_cons pe_int pa_nil)) (pa_cons pe_int pa_nil))) pa_nil))) (pe_lst (pa_cons (pe_un un_neg pe_int) pa_nil)) (nomark _))))))))), ?_⟩
  refine ⟨_, rfl, by decide, by decide, ?_⟩
  refine for_range (lo := 0) (n := 4) (fun i σ H1 => ∃ v1 v2 v3 v6 v7, σ = [some (.ref a), v1, v2, v3, none, none, v6, v7] ∧ Same H H1) ⟨none, none, none, none, none, rfl, Same.refl _⟩ ?_ ?_
  · rintro i σ H1 hi ⟨v1, v2, v3, v6, v7, rfl, s1⟩
    rw [show (0 : Int) + (i : Int) = i by omega]
    walk_at "go"
    refine ⟨a, ns, i, rfl, s1.seq hS, fun H2 g s2 ng g2 => ?_⟩
    have nHg : H g = none := s1.free ng
    walk_at "go"
    refine ⟨g, _, _, rfl, g2, by omega, by decide, small_2900 (by decide), fun r1 H3 r10 r11 g3 b3 => ?_⟩
    obtain ⟨m, rfl⟩ : ∃ m : Nat, r1 = (m : Int) := ⟨r1.toNat, by omega⟩
    refine ⟨g, m, _, rfl, g3, by omega, by omega, fun H4 p ys np b4 g4 hp hl hy => ?_⟩
    walk_at "go"
    refine ⟨p, ys, rfl, .inl (.inl hp), by omega, fun H5 p5 s5 np5 h5 => ?_⟩
    have g5 := g4.same s5
    walk_at "go"
    refine ⟨g, _, _, rfl, g5, by omega, by decide, small_2900 (by decide), fun r2 H6 r20 r21 g6 b6 => ?_⟩
    obtain ⟨sh, rfl⟩ : ∃ m : Nat, r2 = (m : Int) := ⟨r2.toNat, by omega⟩
    have n5g : p5 ≠ g := g4.ne np5
    have h6 := b6 _ _ n5g h5
    have hW : Weights (ys.map clampI) := ⟨by rw [List.length_map]; omega, fun n hn => by
      obtain ⟨z, _, rfl⟩ := List.mem_map.mp hn
      have := clampI_ok z
      omega⟩
    walk_at "go"
    refine ⟨g, p5, ys.map clampI, sh, _, rfl, g6, by omega, h6, n5g, by rw [List.length_map]; omega, fun y hy => by
      obtain ⟨z, _, rfl⟩ := List.mem_map.mp hy
      exact clampI_ok z, by omega, fun H7 r us th b7 hws hul hth => ?_⟩
    have h7 := b7 _ _ n5g h6
    obtain ⟨pu, hr, hpu⟩ := id hws
    walk_at "go"
    refine ⟨r, _, _, _, rfl, rfl, .inl (.inl hr), at2_0 _ _, ?_⟩
    refine ⟨pu, us, rfl, .inl (.inl hpu), by omega, fun H8 p8 s8 np8 h8 => ?_⟩
    walk_at "go"
    refine ⟨r, _, _, _, rfl, rfl, .inl (.inl (s8 _ _ hr)), at2_1 _ _, ?_⟩
    refine ⟨(show 2 ≤ sizeLine by decide), fun p9 np9 => ?_⟩
    obtain ⟨H9, e9, s9, h9⟩ := fresh (.lst [V.ref p8, V.int th]) np9
    rw [e9]
    have hU : Weights (us.map clampI) := ⟨by rw [List.length_map]; omega, fun n hn => by
      obtain ⟨z, _, rfl⟩ := List.mem_map.mp hn
      have := clampI_ok z
      omega⟩
    walk_at "go"
    refine ⟨(show 2 ≤ sizeLine by decide), fun p10 np10 => ?_⟩
    obtain ⟨H10, e10, s10, h10⟩ := fresh (.lst [V.ref p5, V.int sh]) np10
    rw [e10]
    have s710 := (s8.trans s9).trans s10
    walk_at "go"
    refine ⟨p10, p9, ys.map clampI, us.map clampI, sh, th, rfl, ⟨p5, h10, s710 _ _ h7⟩, ⟨p8, s10 _ _ h9, (s9.trans s10) _ _ h8⟩, hW, hU, by omega, hth, fun H11 s11 => ?_⟩
    walk_at "go"
    refine ⟨p5, ys.map clampI, sh, rfl, (s710.trans s11) _ _ h7, hW, by omega, fun H12 s12 => ?_⟩
    walk_at "go"
    have sH2 : Same H H2 := s1.trans s2
    have b27 : But g H2 H7 := (((b3.trans b4).same s5).trans b6).trans b7
    exact ⟨_, _, _, _, _, rfl, ((But.fresh sH2 nHg b27).trans s710).trans (s11.trans s12)⟩
  · rintro σ H1 ⟨v1, v2, v3, v6, v7, rfl, s1⟩
    -- great, near
    walk_at "go"
    refine ⟨⟨by decide, by decide +kernel⟩, (show 2 ≤ sizeLine by decide), fun l1 nl1 => ?_⟩
    obtain ⟨H2, e2, s2, h2⟩ := fresh (.lst ([3, 32768].map V.int)) nl1
    have e2' : upd H1 l1 (.lst [V.int 3, V.int (2 ^ (15 : Int).toNat)]) = H2 := e2
    rw [e2']
    walk_at "go"
    intro x1 z2 z3 z4 z5
    refine ⟨x1, l1, z2, [3, 32768], 15, rfl, upd_same, .inl (mk_same z3 z4 _ _ h2), small_w _ (by decide) (by decide), by decide, fun H3 kp g3 _ => ⟨rfl, ?_⟩⟩
    have s3 := mk_kept z3 z4 kp
    clear kp z3 z4 z5
    walk_at "go"
    refine ⟨⟨by decide, by decide +kernel⟩, ?_⟩
    walk_at "go"
    refine ⟨(show 2 ≤ sizeLine by decide), fun l2 nl2 => ?_⟩
    obtain ⟨H4, e4, s4, h4⟩ := fresh (.lst ([3, 32767].map V.int)) nl2
    have e4' : upd H3 l2 (.lst [V.int 3, V.int (2 ^ (15 : Int).toNat - 1)]) = H4 := e4
    rw [e4']
    walk_at "go"
    intro x2 z2 z3 z4 z5
    refine ⟨x2, l2, z2, [3, 32767], 15, rfl, upd_same, .inl (mk_same z3 z4 _ _ h4), small_w _ (by decide) (by decide), by decide, fun H5 kp g5 _ => ⟨rfl, ?_⟩⟩
    have s5 := mk_kept z3 z4 kp
    clear kp z3 z4 z5
    walk_at "go"
    refine ⟨x1, x2, [3, 32768], 15, [3, 32767], 15, rfl, (g3.same s4).same s5, g5, f1_fuel, fun hn => absurd (found_alike.mp hn) (found_some f1_found), fun j' x' h' => ?_⟩
    obtain ⟨rfl, rfl⟩ := found_uniq f1_found h'
    intro H6 p6 s6 np6 h6
    walk_at "go"
    refine ⟨(show 2 ≤ sizeLine by decide), fun l7 nl7 => ?_⟩
    obtain ⟨H7, e7, s7, h7⟩ := fresh (.lst ([1, 0].map V.int)) nl7
    have e7' : upd H6 l7 (.lst [V.int 1, V.int 0]) = H7 := e7
    rw [e7']
    refine ne_lst (ns := [1, 0]) (.inl (.inl (s7 _ _ h6))) (.inl (.inl h7)) ?_
    walk_at "go"
    refine ⟨(show 1 ≤ sizeLine by decide), fun l8 nl8 => ?_⟩
    obtain ⟨H8, e8, s8, h8⟩ := fresh (.lst ([1].map V.int)) nl8
    have e8' : upd H7 l8 (.lst [V.int 1]) = H8 := e8
    rw [e8']
    walk_at "go"
    intro x3 z2 z3 z4 z5
    refine ⟨x3, l8, z2, [1], 15, rfl, upd_same, .inl (mk_same z3 z4 _ _ h8), small_w _ (by decide) (by decide), by decide, fun H9 kp g9 _ => ⟨rfl, ?_⟩⟩
    have s9 := mk_kept z3 z4 kp
    clear kp z3 z4 z5
    walk_at "go"
    refine ⟨(show 1 ≤ sizeLine by decide), fun l10 nl10 => ?_⟩
    obtain ⟨H10, e10, s10, h10⟩ := fresh (.lst ([2].map V.int)) nl10
    have e10' : upd H9 l10 (.lst [V.int 2]) = H10 := e10
    rw [e10']
    walk_at "go"
    intro x4 z2 z3 z4 z5
    refine ⟨x4, l10, z2, [2], 15, rfl, upd_same, .inl (mk_same z3 z4 _ _ h10), small_w _ (by decide) (by decide), by decide, fun H11 kp g11 _ => ⟨rfl, ?_⟩⟩
    have s11 := mk_kept z3 z4 kp
    clear kp z3 z4 z5
    walk_at "go"
    refine ⟨x3, x4, [1], 15, [2], 15, rfl, (g9.same s10).same s11, g11, f2_fuel, fun hn => absurd (found_alike.mp hn) (found_some f2_found), fun j' x' h' => ?_⟩
    obtain ⟨rfl, rfl⟩ := found_uniq f2_found h'
    intro H12 p12 s12 np12 h12
    walk_at "go"
    refine ⟨(show 1 ≤ sizeLine by decide), fun l13 nl13 => ?_⟩
    obtain ⟨H13, e13, s13, h13⟩ := fresh (.lst ([16384].map V.int)) nl13
    have e13' : upd H12 l13 (.lst [V.int 16384]) = H13 := e13
    rw [e13']
    refine ne_lst (ns := [16384]) (.inl (.inl (s13 _ _ h12))) (.inl (.inl h13)) ?_
    -- the last two
    walk_at "go"
    refine ⟨Nat.zero_le _, fun l14 nl14 => ?_⟩
    obtain ⟨H14, e14, s14, h14⟩ := fresh (.lst (([] : List Int).map V.int)) nl14
    have e14' : upd H13 l14 (.lst []) = H14 := e14
    rw [e14']
    walk_at "go"
    intro x5 z2 z3 z4 z5
    refine ⟨x5, l14, z2, [], 0, rfl, upd_same, .inl (mk_same z3 z4 _ _ h14), small_w _ (by decide) (by decide), by decide, fun H15 kp g15 _ => ⟨rfl, ?_⟩⟩
    have s15 := mk_kept z3 z4 kp
    clear kp z3 z4 z5
    walk_at "go"
    refine ⟨(show 1 ≤ sizeLine by decide), fun l16 nl16 => ?_⟩
    obtain ⟨H16, e16, s16, h16⟩ := fresh (.lst ([0].map V.int)) nl16
    have e16' : upd H15 l16 (.lst [V.int 0]) = H16 := e16
    rw [e16']
    walk_at "go"
    intro x6 z2 z3 z4 z5
    refine ⟨x6, l16, z2, [0], 3, rfl, upd_same, .inl (mk_same z3 z4 _ _ h16), small_w _ (by decide) (by decide), by decide, fun H17 kp g17 _ => ⟨rfl, ?_⟩⟩
    have s17 := mk_kept z3 z4 kp
    clear kp z3 z4 z5
    walk_at "go"
    refine ⟨x5, x6, [], 0, [0], 3, rfl, (g15.same s16).same s17, g17, fun j _ => fuel_small (by decide) (by decide) j, fun _ H18 s18 => ?_, fun j' x' h' => absurd (by decide) (found_some h')⟩
    walk_at "go"
    refine ⟨Nat.zero_le _, fun l19 nl19 => ?_⟩
    obtain ⟨H19, e19, s19, h19⟩ := fresh (.lst (([] : List Int).map V.int)) nl19
    have e19' : upd H18 l19 (.lst []) = H19 := e19
    rw [e19']
    walk_at "go"
    intro x7 z2 z3 z4 z5
    refine ⟨x7, l19, z2, [], 0, rfl, upd_same, .inl (mk_same z3 z4 _ _ h19), small_w _ (by decide) (by decide), by decide, fun H20 kp g20 _ => ⟨rfl, ?_⟩⟩
    have s20 := mk_kept z3 z4 kp
    clear kp z3 z4 z5
    walk_at "go"
    refine ⟨(show 1 ≤ sizeLine by decide), fun l21 nl21 => ?_⟩
    obtain ⟨H21, e21, s21, h21⟩ := fresh (.lst ([5].map V.int)) nl21
    have e21' : upd H20 l21 (.lst [V.int 5]) = H21 := e21
    rw [e21']
    walk_at "go"
    intro x8 z2 z3 z4 z5
    refine ⟨x8, l21, z2, [5], 3, rfl, upd_same, .inl (mk_same z3 z4 _ _ h21), small_w _ (by decide) (by decide), by decide, fun H22 kp g22 _ => ⟨rfl, ?_⟩⟩
    have s22 := mk_kept z3 z4 kp
    clear kp z3 z4 z5
    walk_at "go"
    refine ⟨x7, x8, [], 0, [5], 3, rfl, (g20.same s21).same s22, g22, fun j _ => fuel_small (by decide) (by decide) j, fun hn => absurd (found_alike.mp hn) (found_some f4_found), fun j' x' h' => ?_⟩
    obtain ⟨rfl, rfl⟩ := found_uniq f4_found h'
    intro H23 p23 s23 np23 h23
    walk_at "go"
    refine ⟨(show 1 ≤ sizeLine by decide), fun l24 nl24 => ?_⟩
    obtain ⟨H24, e24, s24, h24⟩ := fresh (.lst ([-1].map V.int)) nl24
    have e24' : upd H23 l24 (.lst [V.int (-1)]) = H24 := e24
    rw [e24']
    refine eq_lst (ns := [-1]) (.inl (.inl (s24 _ _ h23))) (.inl (.inl h24)) ?_
    exact q _
end
end My

open PySem PySem.W PySem.Calls PyProof.Rows
set_option maxRecDepth 100000 in
set_option maxHeartbeats 0 in
theorem PySem.Challenge.cw_wholesound_k11_guessers_that_guess_alike_holds : PySem.Challenge.rw_wholesound_k11_guessers_that_guess_alike.Holds := by
  w_on; o_law
  refine HandSHeadRun.head_any (r := OpenLaw.row PySem.Challenge.rw_wholesound_k11_guessers_that_guess_alike) (q := view (OpenLaw.row PySem.Challenge.rw_wholesound_k11_guessers_that_guess_alike).prog [42]) (H := My.hk) (ob := My.ob) (M := 8000) (loose := My.loose) (d := HandSHeadRun.topDef (OpenLaw.row PySem.Challenge.rw_wholesound_k11_guessers_that_guess_alike).prog 42) (kwd := []) My.ob_eq
    (by kernel_rfl) (fun s => by kernel_rfl) My.run (by kernel_rfl) (by kernel_rfl) (by kernel_rfl) (by rfl) (by first | assumption | decide +kernel) (by decide +kernel) ⟨rfl, rfl, rfl, rfl, rfl, by decide +kernel⟩ ?hw ?hc
  case hw => w_witness2
  case hc =>
    refine L2.walk_ofE (l := PySem.Challenge.rw_wholesound_k11_guessers_that_guess_alike) (n := 63) (k := 71) (x := "_law_script") (CX := L2.CX0) rfl (by decide) (by kernel_rfl) ⟨rfl, by decide, by decide⟩ ?F (fun _ _ _ _ z => z)
    intro w mg fa h Y G hmg0
    obtain ⟨K, KX, c⟩ := Y
    have hmg : mg ("law" : PySem.Str) = some (.ref fa) := by
      have e : (HandSHeadRun.topDef (OpenLaw.row PySem.Challenge.rw_wholesound_k11_guessers_that_guess_alike).prog 42).name = ("law" : PySem.Str) := by kernel_rfl
      rw [← e]
      exact hmg0
    have T : My.Top K mg := My.top_mk KX G c
    have e := hmg.symm.trans T.g_law
    cases e
    have b := L2.FunD.bindsA (ps := ["_law_script"]) T.F_law fun _ _ _ _ _ _ us hl => match us, hl with | [_], _ => rfl
    exact ⟨K, T.fd_law, My.sp_law K, KX, fun s v => b s [v] rfl, fun H a ns hl _ hS => ⟨a, ns, rfl, hS, hl, fun _ => rfl⟩, fun base _ _ => My.G_law T⟩


