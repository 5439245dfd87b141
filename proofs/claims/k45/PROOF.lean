import PyProof.Rows.All
import Wide.All
import OpenK.AllK
import Wide.FinOn
import KE.KStateDown
import Lean
import HandS.ForMost
import HandS.Exc
import HandS.Flow
import HandS.DictComp
import HandS.Style
import HandS.Wide
import HandS.WideBits
import HandS.IsInst
import HandS.Codes
import HandS.Walk
import HandS.Words
import HandS.WordsExc
import HandS.Defaults
import HandS.Head0
import HandS.Head1
import HandS.Head2
import HandS.HeadEnd
import HandS.HeadHook1
import HandS.HeadHook2
import HandS.SortInts
import PyProof.Rows.SortShellAny
import PyProof.InstNe
import KE.DataMinMax
import KE.SortData
import KE.IntBitsLaws
import KE.BitLaws
import HandS.Deep
import HandS.SetKeys
import PyProof.Rows.StrMul
import HandS.TupLe
import HandS.Property
import HandS.Conv
import HandS.NoneIn
import HandS.SetFor
import HandS.Strs
import HandS.Sort
import HandS.StrMore
import KE.KDictDisplayH
import PyProof.StrLawsFirst
import PySem.Challenge.RW_wholesound_k45_bits_of_folds
set_option Elab.async false
set_option linter.all false
set_option maxRecDepth 100000
set_option maxHeartbeats 4000000
set_option exponentiation.threshold 100000
namespace Pre
open PySem PySem.Spec PyProof.Rows L2
/-! ### heaps -/
theorem same_upd {H : Hp} {p : Addr} {o : HO} (h : H p = none) : Same H (upd H p o) := fun b x e => by
  rw [upd_ne (ne_of_none e h)]
  exact e
/-- a fresh thing that is then changed is no change of what was -/
theorem same_over {H H' : Hp} {p : Addr} {o : HO} (n : H p = none) (s : Same H H') : Same H (upd H' p o) := fun b x e => by
  rw [upd_ne (ne_of_none e n)]
  exact s b x e
theorem Same.tup {K : PySem.W.Frag} {H H' : Hp} {a : Addr} {xs : List V} (e : Same H H') (h : SqT K H a xs) : SqT K H' a xs := by
  rcases h with (h | ⟨o, h⟩) | h
  · exact .inl (.inl (e _ _ h))
  · exact .inl (.inr ⟨o, e _ _ h⟩)
  · exact .inr h
mutual
theorem dp_same {K : PySem.W.Frag} {H H' : Hp} (s : Same H H') : ∀ (d : PyData) (v : V), Dp K H v d → Dp K H' v d
  | .none, _, h => by cases h; exact .non
  | .bool _, _, h => by cases h; exact .bl _
  | .int _, _, h => by cases h; exact .int _
  | .str _, _, h => by cases h; exact .str _
  | .list ds, _, h => by cases h with | lst a b => exact .lst (s.seq a) (dps_same s ds _ b)
  | .tuple ds, _, h => by cases h with | tup a b => exact .tup (Same.tup s a) (dps_same s ds _ b)
  | .dict _, _, h => nomatch h
theorem dps_same {K : PySem.W.Frag} {H H' : Hp} (s : Same H H') : ∀ (ds : List PyData) (vs : List V), DpAll K H vs ds → DpAll K H' vs ds
  | [], _, h => by cases h; exact .nil
  | d :: ds, _, h => by cases h with | cons a b => exact .cons (dp_same s d _ a) (dps_same s ds _ b)
end
theorem dp_ints {K : PySem.W.Frag} {H : Hp} : ∀ ns : List Int, DpAll K H (ns.map V.int) (ns.map PyData.int)
  | [] => .nil
  | n :: r => .cons (.int n) (dp_ints r)
theorem eqv_ints : ∀ ns ms : List Int, PyData.eqvAll (ns.map PyData.int) (ms.map PyData.int) = decide (ns = ms)
  | [], [] => rfl
  | [], _ :: _ => rfl
  | _ :: _, [] => rfl
  | n :: r, m :: q => by
    show (PyData.eqv (.int n) (.int m) && PyData.eqvAll (r.map PyData.int) (q.map PyData.int)) = decide (n :: r = m :: q)
    rw [eqv_ints r q]
    show ((n == m) && decide (r = q)) = decide (n :: r = m :: q)
    by_cases h : n = m
    · subst h; simp
    · simp [h]
theorem lay_ints : ∀ ns : List Int, PyData.canLayAll0 (ns.map PyData.int) = true
  | [] => rfl
  | n :: r => by
    show (PyData.canLay0 (.int n) && PyData.canLayAll0 (r.map PyData.int)) = true
    rw [lay_ints r]
    rfl
theorem depth_ints : ∀ ns : List Int, PyData.depthAll (ns.map PyData.int) = 0
  | [] => by simp [PyData.depthAll]
  | n :: r => by
    show PyData.depthAll (.int n :: r.map PyData.int) = 0
    rw [PyData.depthAll, depth_ints r]
    simp [PyData.depth]
theorem shaped_ints (ns : List Int) : SeqAt.shaped (.list (ns.map PyData.int)) = true := by
  unfold SeqAt.shaped
  rw [PyData.canLay0, lay_ints, PyData.depth, depth_ints]
  rfl
theorem shaped_tup (ns : List Int) : SeqAt.shaped (.tuple (ns.map PyData.int)) = true := by
  unfold SeqAt.shaped
  rw [PyData.canLay0, lay_ints, PyData.depth, depth_ints]
  rfl
/-! ### comparisons of lists and tuples of whole numbers that are told alike -/
theorem ne_tup {K : PySem.W.Frag} {H : Hp} {a b : Addr} {ns : List Int} {Q : V → Hp → Prop} (ha : SqT K H a (ns.map V.int)) (hb : SqT K H b (ns.map V.int)) (q : Q (.bl false) H) : rNeD K (.ref a) (.ref b) H Q := by
  refine ⟨.tuple (ns.map PyData.int), .tuple (ns.map PyData.int), .tup ha (dp_ints ns), .tup hb (dp_ints ns), shaped_tup ns, shaped_tup ns, ?_⟩
  rw [PyData.eqv, eqv_ints, decide_eq_true rfl]
  exact q
theorem eq_tup {K : PySem.W.Frag} {H : Hp} {a b : Addr} {ns : List Int} {Q : V → Hp → Prop} (ha : SqT K H a (ns.map V.int)) (hb : SqT K H b (ns.map V.int)) (q : Q (.bl true) H) : rEqD K (.ref a) (.ref b) H Q := by
  refine ⟨.tuple (ns.map PyData.int), .tuple (ns.map PyData.int), .tup ha (dp_ints ns), .tup hb (dp_ints ns), shaped_tup ns, shaped_tup ns, ?_⟩
  rw [PyData.eqv, eqv_ints, decide_eq_true rfl]
  exact q
/-- lists of whole numbers, compared -/
theorem eqD_lst {K : PySem.W.Frag} {H : Hp} {a b : Addr} {ns ms : List Int} {Q : V → Hp → Prop} (ha : SqL K H a (ns.map V.int)) (hb : SqL K H b (ms.map V.int)) (q : Q (.bl (decide (ns = ms))) H) : rEqD K (.ref a) (.ref b) H Q := by
  refine ⟨.list (ns.map PyData.int), .list (ms.map PyData.int), .lst ha (dp_ints ns), .lst hb (dp_ints ms), shaped_ints ns, shaped_ints ms, ?_⟩
  rw [PyData.eqv, eqv_ints]
  exact q
theorem neD_lst {K : PySem.W.Frag} {H : Hp} {a b : Addr} {ns ms : List Int} {Q : V → Hp → Prop} (ha : SqL K H a (ns.map V.int)) (hb : SqL K H b (ms.map V.int)) (q : Q (.bl (!decide (ns = ms))) H) : rNeD K (.ref a) (.ref b) H Q := by
  refine ⟨.list (ns.map PyData.int), .list (ms.map PyData.int), .lst ha (dp_ints ns), .lst hb (dp_ints ms), shaped_ints ns, shaped_ints ms, ?_⟩
  rw [PyData.eqv, eqv_ints]
  exact q
theorem ne_lst {K : PySem.W.Frag} {H : Hp} {a b : Addr} {ns : List Int} {Q : V → Hp → Prop} (ha : SqL K H a (ns.map V.int)) (hb : SqL K H b (ns.map V.int)) (q : Q (.bl false) H) : rNeD K (.ref a) (.ref b) H Q :=
  neD_lst ha hb (by rw [decide_eq_true rfl]; exact q)
theorem eq_lst {K : PySem.W.Frag} {H : Hp} {a b : Addr} {ns : List Int} {Q : V → Hp → Prop} (ha : SqL K H a (ns.map V.int)) (hb : SqL K H b (ns.map V.int)) (q : Q (.bl true) H) : rEqD K (.ref a) (.ref b) H Q :=
  eqD_lst ha hb (by rw [decide_eq_true rfl]; exact q)
/-! ### powers -/
def CPowW (i j : Int) : Prop := 0 ≤ j ∧ (Builtin.Int.intBits i : Int) * j ≤ 2 ^ 27
theorem op_powW {X : Cx} : OpR X (binaryOp .Pow) (rI CPowW fun i j => .int (i ^ j.toNat)) := opI fun _ _ _ _ _ _ _ hc q => pow_int hc.1 hc.2 q
/-! ### comprehensions whose parts leave what is tracked as it is: sel tells of each item what comes of it -/
theorem take_fm {α : Type} {l : List (Option α)} {i : Nat} {o : Option α} (h : l[i]? = some o) : (l.take (i + 1)).filterMap id = (l.take i).filterMap id ++ o.toList := by
  rw [List.take_add_one, h, List.filterMap_append]
  cases o <;> rfl
theorem fm_len {α : Type} (l : List (Option α)) (i : Nat) : ((l.take i).filterMap id).length ≤ l.length :=
  Nat.le_trans (List.length_filterMap_le _ _) (by rw [List.length_take]; omega)
theorem lc_selL {K : PySem.W.Frag} {a : Addr} {xs : List V} {j : Nat} {tt : TT} {te : TE} {vs : List Nat} {σ : L2.St} {H1 : Hp} {D : Addr} {Qd : Hp → Prop} (sel : List (Option V)) (nD : H1 D = none) (hS : SqL K H1 a xs) (hlen : sel.length = xs.length) (hz : xs.length < sizeLine)
    (hw : ∀ x, wipe ((wipe σ vs).set j (some x)) vs = wipe σ vs)
    (hs : ∀ (i : Nat) (x : V) (o : Option V) (H' : Hp), xs[i]? = some x → sel[i]? = some o → Same H1 H' → ∀ Qt : Option V → Hp → Prop, (∀ H'', Same H' H'' → Qt o H'') →
      tt ((wipe σ vs).set j (some x)) H' fun b H3 => if b = true then te ((wipe σ vs).set j (some x)) H3 fun y H4 => Qt (some y) H4 else Qt none H3)
    (hd : ∀ H', Same H1 H' → H' D = some (.lst (sel.filterMap id)) → Qd H') :
    ∃ W : Nat → Nat → Hp → Prop, (∃ m, W 0 m (upd H1 D (.lst []))) ∧ ∀ i m H, W i m H →
      ((Itl K a).stop i H ∧ Qd H) ∨ ((Itl K a).go i H ∧ ∃ Nx : Hp → Prop, (∀ H', Nx H' → ∃ m', m' < m ∧ W (i + 1) m' H') ∧ ∀ x H', (Itl K a).yld i H x H' → gName j x (wipe σ vs) H' fun σ2 H2 => wipe σ2 vs = wipe σ vs ∧ tt σ2 H2 fun b H3 =>
        if b = true then te σ2 H3 fun y H4 => ∃ acc, H4 D = some (.lst acc) ∧ acc.length < sizeLine ∧ Nx (upd H4 D (.lst (acc ++ [y]))) else Nx H3) := by
  refine lc_list (K := K) (a := a) (xs := xs) (fun i H => Same H1 H ∧ H D = some (.lst ((sel.take i).filterMap id))) ⟨same_upd nD, upd_same⟩ (fun i H _ p => p.1.seq hS) ?_ ?_
  · rintro i x H hx ⟨s, hD⟩
    refine ⟨hw x, ?_⟩
    have hi : i < sel.length := by rw [hlen]; exact (List.getElem?_eq_some_iff.mp hx).1
    have ho : sel[i]? = some sel[i] := List.getElem?_eq_getElem hi
    have hl : ((sel.take i).filterMap id).length < sizeLine := Nat.lt_of_le_of_lt (fm_len sel i) (by omega)
    refine hs i x sel[i] H hx ho s (fun o H4 => match o with
      | some y => ∃ acc, H4 D = some (.lst acc) ∧ acc.length < sizeLine ∧ (Same H1 (upd H4 D (.lst (acc ++ [y]))) ∧ (upd H4 D (.lst (acc ++ [y]))) D = some (.lst ((sel.take (i + 1)).filterMap id)))
      | none => Same H1 H4 ∧ H4 D = some (.lst ((sel.take (i + 1)).filterMap id))) fun H4 s4 => ?_
    generalize sel[i] = o at ho ⊢
    cases o with
    | some y =>
      refine ⟨_, s4 _ _ hD, hl, same_over nD (s.trans s4), ?_⟩
      rw [upd_same, take_fm ho]
      rfl
    | none =>
      refine ⟨s.trans s4, ?_⟩
      rw [take_fm ho, s4 _ _ hD]
      simp
  · rintro H ⟨s, hD⟩
    refine hd H s ?_
    rw [hD, ← hlen, List.take_length]
theorem lc_selR {lo : Int} {n : Nat} {j : Nat} {tt : TT} {te : TE} {vs : List Nat} {σ : L2.St} {H1 : Hp} {D : Addr} {Qd : Hp → Prop} (sel : List (Option V)) (nD : H1 D = none) (hlen : sel.length = n) (hz : n < sizeLine)
    (hw : ∀ x, wipe ((wipe σ vs).set j (some x)) vs = wipe σ vs)
    (hs : ∀ (i : Nat) (o : Option V) (H' : Hp), i < n → sel[i]? = some o → Same H1 H' → ∀ Qt : Option V → Hp → Prop, (∀ H'', Same H' H'' → Qt o H'') →
      tt ((wipe σ vs).set j (some (.int (lo + (i : Int))))) H' fun b H3 => if b = true then te ((wipe σ vs).set j (some (.int (lo + (i : Int))))) H3 fun y H4 => Qt (some y) H4 else Qt none H3)
    (hd : ∀ H', Same H1 H' → H' D = some (.lst (sel.filterMap id)) → Qd H') :
    ∃ W : Nat → Nat → Hp → Prop, (∃ m, W 0 m (upd H1 D (.lst []))) ∧ ∀ i m H, W i m H →
      ((Itr lo n).stop i H ∧ Qd H) ∨ ((Itr lo n).go i H ∧ ∃ Nx : Hp → Prop, (∀ H', Nx H' → ∃ m', m' < m ∧ W (i + 1) m' H') ∧ ∀ x H', (Itr lo n).yld i H x H' → gName j x (wipe σ vs) H' fun σ2 H2 => wipe σ2 vs = wipe σ vs ∧ tt σ2 H2 fun b H3 =>
        if b = true then te σ2 H3 fun y H4 => ∃ acc, H4 D = some (.lst acc) ∧ acc.length < sizeLine ∧ Nx (upd H4 D (.lst (acc ++ [y]))) else Nx H3) := by
  refine lc_range (lo := lo) (n := n) (fun i H => Same H1 H ∧ H D = some (.lst ((sel.take i).filterMap id))) ⟨same_upd nD, upd_same⟩ ?_ ?_
  · rintro i H hi' ⟨s, hD⟩
    refine ⟨hw _, ?_⟩
    have hi : i < sel.length := by rw [hlen]; exact hi'
    have ho : sel[i]? = some sel[i] := List.getElem?_eq_getElem hi
    have hl : ((sel.take i).filterMap id).length < sizeLine := Nat.lt_of_le_of_lt (fm_len sel i) (by omega)
    refine hs i sel[i] H hi' ho s (fun o H4 => match o with
      | some y => ∃ acc, H4 D = some (.lst acc) ∧ acc.length < sizeLine ∧ (Same H1 (upd H4 D (.lst (acc ++ [y]))) ∧ (upd H4 D (.lst (acc ++ [y]))) D = some (.lst ((sel.take (i + 1)).filterMap id)))
      | none => Same H1 H4 ∧ H4 D = some (.lst ((sel.take (i + 1)).filterMap id))) fun H4 s4 => ?_
    generalize sel[i] = o at ho ⊢
    cases o with
    | some y =>
      refine ⟨_, s4 _ _ hD, hl, same_over nD (s.trans s4), ?_⟩
      rw [upd_same, take_fm ho]
      rfl
    | none =>
      refine ⟨s.trans s4, ?_⟩
      rw [take_fm ho, s4 _ _ hD]
      simp
  · rintro H ⟨s, hD⟩
    refine hd H s ?_
    rw [hD, ← hlen, List.take_length]
theorem fm_some {α : Type} (ys : List α) : (ys.map some).filterMap id = ys := by
  rw [List.filterMap_map]
  show List.filterMap (fun y => some y) ys = ys
  exact List.filterMap_some
/-- no test: ys tells what comes of each item -/
theorem lc_mapL {K : PySem.W.Frag} {a : Addr} {xs : List V} {j : Nat} {te : TE} {vs : List Nat} {σ : L2.St} {H1 : Hp} {D : Addr} {Qd : Hp → Prop} (ys : List V) (nD : H1 D = none) (hS : SqL K H1 a xs) (hlen : ys.length = xs.length) (hz : xs.length < sizeLine)
    (hw : ∀ x, wipe ((wipe σ vs).set j (some x)) vs = wipe σ vs)
    (hs : ∀ (i : Nat) (x y : V) (H' : Hp), xs[i]? = some x → ys[i]? = some y → Same H1 H' → ∀ Qt : V → Hp → Prop, (∀ H'', Same H' H'' → Qt y H'') → te ((wipe σ vs).set j (some x)) H' Qt)
    (hd : ∀ H', Same H1 H' → H' D = some (.lst ys) → Qd H') :
    ∃ W : Nat → Nat → Hp → Prop, (∃ m, W 0 m (upd H1 D (.lst []))) ∧ ∀ i m H, W i m H →
      ((Itl K a).stop i H ∧ Qd H) ∨ ((Itl K a).go i H ∧ ∃ Nx : Hp → Prop, (∀ H', Nx H' → ∃ m', m' < m ∧ W (i + 1) m' H') ∧ ∀ x H', (Itl K a).yld i H x H' → gName j x (wipe σ vs) H' fun σ2 H2 => wipe σ2 vs = wipe σ vs ∧ tYes σ2 H2 fun b H3 =>
        if b = true then te σ2 H3 fun y H4 => ∃ acc, H4 D = some (.lst acc) ∧ acc.length < sizeLine ∧ Nx (upd H4 D (.lst (acc ++ [y]))) else Nx H3) := by
  refine lc_selL (K := K) (a := a) (xs := xs) (tt := tYes) (ys.map some) nD hS (by rw [List.length_map]; exact hlen) hz hw ?_ ?_
  · intro i x o H' hx ho s Qt qt
    rw [List.getElem?_map] at ho
    obtain ⟨y, hy, rfl⟩ := Option.map_eq_some_iff.mp ho
    show if true = true then te ((wipe σ vs).set j (some x)) H' (fun y H4 => Qt (some y) H4) else Qt none H'
    exact iteT (hs i x y H' hx hy s (fun y H4 => Qt (some y) H4) qt)
  · intro H' s hD
    rw [fm_some] at hD
    exact hd H' s hD
theorem lc_mapR {lo : Int} {n : Nat} {j : Nat} {te : TE} {vs : List Nat} {σ : L2.St} {H1 : Hp} {D : Addr} {Qd : Hp → Prop} (ys : List V) (nD : H1 D = none) (hlen : ys.length = n) (hz : n < sizeLine)
    (hw : ∀ x, wipe ((wipe σ vs).set j (some x)) vs = wipe σ vs)
    (hs : ∀ (i : Nat) (y : V) (H' : Hp), i < n → ys[i]? = some y → Same H1 H' → ∀ Qt : V → Hp → Prop, (∀ H'', Same H' H'' → Qt y H'') → te ((wipe σ vs).set j (some (.int (lo + (i : Int))))) H' Qt)
    (hd : ∀ H', Same H1 H' → H' D = some (.lst ys) → Qd H') :
    ∃ W : Nat → Nat → Hp → Prop, (∃ m, W 0 m (upd H1 D (.lst []))) ∧ ∀ i m H, W i m H →
      ((Itr lo n).stop i H ∧ Qd H) ∨ ((Itr lo n).go i H ∧ ∃ Nx : Hp → Prop, (∀ H', Nx H' → ∃ m', m' < m ∧ W (i + 1) m' H') ∧ ∀ x H', (Itr lo n).yld i H x H' → gName j x (wipe σ vs) H' fun σ2 H2 => wipe σ2 vs = wipe σ vs ∧ tYes σ2 H2 fun b H3 =>
        if b = true then te σ2 H3 fun y H4 => ∃ acc, H4 D = some (.lst acc) ∧ acc.length < sizeLine ∧ Nx (upd H4 D (.lst (acc ++ [y]))) else Nx H3) := by
  refine lc_selR (lo := lo) (n := n) (tt := tYes) (ys.map some) nD (by rw [List.length_map]; exact hlen) hz hw ?_ ?_
  · intro i o H' hi ho s Qt qt
    rw [List.getElem?_map] at ho
    obtain ⟨y, hy, rfl⟩ := Option.map_eq_some_iff.mp ho
    show if true = true then te ((wipe σ vs).set j (some (.int (lo + (i : Int))))) H' (fun y H4 => Qt (some y) H4) else Qt none H'
    exact iteT (hs i y H' hi hy s (fun y H4 => Qt (some y) H4) qt)
  · intro H' s hD
    rw [fm_some] at hD
    exact hd H' s hD
/-- an item of a list of whole numbers -/
theorem int_at {ns : List Int} {i : Nat} {x : V} (h : (ns.map V.int)[i]? = some x) : ∃ n, ns[i]? = some n ∧ x = .int n := by
  rw [List.getElem?_map] at h
  obtain ⟨n, hn, e⟩ := Option.map_eq_some_iff.mp h
  exact ⟨n, hn, e.symm⟩
/-! ### rules with the written part named (within a comprehension Lean doesn't find it) -/
section
variable {X : Cx}
theorem k_len (K : PySem.W.Frag) (h : X.K = K) : CallR X (.builtin "len") (fun xs H Q => ∃ p ys, xs = [.ref p] ∧ (SqL K H p ys ∨ SqT K H p ys) ∧ Q (.int ys.length) H) := by subst h; exact call_len_seq
theorem k_sum (K : PySem.W.Frag) (h : X.K = K) (hc : X.calm = true) : CallR X (.builtin "sum") (rSum K) := by subst h; exact cr_sum hc
theorem k_max (K : PySem.W.Frag) (h : X.K = K) (hc : X.calm = true) : CallR X (.builtin "max") (rMax K) := by subst h; exact cr_max hc
theorem k_min (K : PySem.W.Frag) (h : X.K = K) (hc : X.calm = true) : CallR X (.builtin "min") (rMin K) := by subst h; exact cr_min hc
theorem k_isi (K : PySem.W.Frag) (h : X.K = K) : CallR X (.builtin "isinstance") (rIsi K) := by subst h; exact call_isi
theorem k_listOf (K : PySem.W.Frag) (h : X.K = K) : CallR X (.type "list") (fun xs H Q => ∃ p ys, xs = [.ref p] ∧ (SqL K H p ys ∨ SqT K H p ys) ∧ ∀ l, H l = none → Q (.ref l) (upd H l (.lst ys))) := by subst h; exact call_list_of
theorem k_tupleOf (K : PySem.W.Frag) (h : X.K = K) : CallR X (.type "tuple") (fun xs H Q => ∃ p ys, xs = [.ref p] ∧ ((SqL K H p ys ∧ ∀ l, H l = none → Q (.ref l) (upd H l (.tup ys))) ∨ (SqT K H p ys ∧ Q (.ref p) H))) := by subst h; exact call_tuple_of
theorem k_ixL (K : PySem.W.Frag) (h : X.K = K) : IxR X (rIxL K) := by subst h; exact ix_list
theorem k_ixT (K : PySem.W.Frag) (h : X.K = K) : IxR X (rIxT K) := by subst h; exact ix_tup
theorem k_slL (K : PySem.W.Frag) (h : X.K = K) : SlR X (rSlL K) := by subst h; exact sl_list
theorem k_slT (K : PySem.W.Frag) (h : X.K = K) : SlR X (rSlT K) := by subst h; exact sl_tup
theorem k_eqD (K : PySem.W.Frag) (h : X.K = K) (hu : X.A.units + 64 < cLine) : OpR X (compareOp .Eq) (rEqD K) := by subst h; exact op_eqD hu
theorem k_neD (K : PySem.W.Frag) (h : X.K = K) (hu : X.A.units + 64 < cLine) : OpR X (compareOp .NotEq) (rNeD K) := by subst h; exact op_neD hu
theorem k_in (K : PySem.W.Frag) (h : X.K = K) : OpR X (compareOp .In) (rIn K false) := by subst h; exact op_in_seq
theorem k_notIn (K : PySem.W.Frag) (h : X.K = K) : OpR X (compareOp .NotIn) (rIn K true) := by subst h; exact op_notIn_seq
theorem k_piL (K : PySem.W.Frag) (h : X.K = K) {tg l : Expr} {tl : TE} (hl : PE X l tl) : PI X tg l (iList K tl) := by subst h; exact pi_list hl
theorem k_piT (K : PySem.W.Frag) (h : X.K = K) {tg l : Expr} {tl : TE} (hl : PE X l tl) : PI X tg l (iTup K tl) := by subst h; exact pi_tup hl
theorem k_piE (K : PySem.W.Frag) (h : X.K = K) {e : Expr} {ta : TA} {p pos tpos : Pos} {elts : List Expr} {kk : Nat} (hg : Gl X "enumerate") (hm : X.mg "enumerate" = none) (ha : PA X [e] ta) (hs : starEach [e] X.env = [(false, eval e X.env)] := by rfl) : PI X (.Tuple elts kk tpos) (.Call (.Name "enumerate" p) [e] [] pos) (iEnum K ta) := by subst h; exact pi_enum hg hm ha hs
theorem k_pgT (K : PySem.W.Frag) (h : X.K = K) {es : List Expr} {k : Nat} {t : TGs} {n : Nat} {pos : Pos} (hc : X.calm = true) (hp : PGs X es t) (hn : (assignEach es X.env).length = n := by rfl) (hst : (assignEach es X.env).findIdx? (·.1) = none := by rfl) : PG X (.Tuple es k pos) (gTup K n t) := by subst h; exact pg_tup hc hp hn hst
theorem k_pgL (K : PySem.W.Frag) (h : X.K = K) {es : List Expr} {k : Nat} {t : TGs} {n : Nat} {pos : Pos} (hc : X.calm = true) (hp : PGs X es t) (hn : (assignEach es X.env).length = n := by rfl) (hst : (assignEach es X.env).findIdx? (·.1) = none := by rfl) : PG X (.Tuple es k pos) (gUnl K n t) := by subst h; exact pg_unl hc hp hn hst
theorem k_fld (K : PySem.W.Frag) (h : X.K = K) {e : Expr} {f : Str} {pos : Pos} {ta : TE} (he : PE X e ta) (hb : attributeBase e f X.env (eval e X.env) = eval e X.env) : PE X (.Attribute e f pos) (tFld K ta f) := by subst h; exact pe_fld he hb
theorem k_index (K : PySem.W.Frag) (h : X.K = K) : MtR X "list.index" (rIndex K) := by subst h; exact mt_index
end
/-! ### small things -/
theorem fresh {H : Hp} {p : Addr} (o : HO) (np : H p = none) : ∃ H', upd H p o = H' ∧ Same H H' ∧ H' p = some o := ⟨_, rfl, same_upd np, upd_same⟩
theorem cut_take (xs : List V) (k : Nat) : cutV xs none (some (k : Int)) = xs.take k := by
  unfold cutV
  rw [HT.sIx_nat, HT.sIx_none, List.drop_zero, Nat.sub_zero]
  rcases Nat.le_total k xs.length with h | h
  · rw [Nat.min_eq_left h]
  · rw [Nat.min_eq_right h, List.take_of_length_le h, List.take_length]
theorem cut_drop (xs : List V) (k : Nat) : cutV xs (some (k : Int)) none = xs.drop k := by
  unfold cutV
  rw [HT.sIx_nat, HT.sIx_none]
  rcases Nat.le_total k xs.length with h | h
  · rw [Nat.min_eq_left h, List.take_of_length_le (by rw [List.length_drop]; exact Nat.le_refl _)]
  · rw [Nat.min_eq_right h, List.drop_length, List.drop_of_length_le h, List.take_nil]
theorem rep_ints (k : Nat) (ks : List Int) : (List.replicate k (ks.map V.int)).flatten = ((List.replicate k ks).flatten).map V.int := by
  rw [List.map_flatten, List.map_replicate]
theorem rep_len {α : Type} (k : Nat) (ks : List α) : ((List.replicate k ks).flatten).length = k * ks.length := by
  induction k with
  | zero => simp
  | succ k ih => rw [List.replicate_succ, List.flatten_cons, List.length_append, ih, Nat.succ_mul]; omega
theorem rep_mem {α : Type} {k : Nat} {ks : List α} {x : α} (h : x ∈ (List.replicate k ks).flatten) : x ∈ ks := by
  obtain ⟨l, hl, hx⟩ := List.mem_flatten.mp h
  rw [(List.mem_replicate.mp hl).2] at hx
  exact hx
/-! ### comprehensions that make new things: R tells what is known of the i-th; D is no part of it -/
def Off (D : Addr) (H H' : Hp) : Prop := ∀ b o, b ≠ D → H b = some o → H' b = some o
def RelPv (R : Nat → V → Hp → Prop) (H1 : Hp) (D : Addr) (i : Nat) (H : Hp) : Prop := ∃ ys : List V, Same H1 H ∧ H D = some (.lst ys) ∧ ys.length = i ∧ ∀ (k : Nat) (y : V), ys[k]? = some y → R k y H
theorem lc_relR {lo : Int} {n : Nat} {j : Nat} {te : TE} {vs : List Nat} {σ : L2.St} {H1 : Hp} {D : Addr} {Qd : Hp → Prop} (R : Nat → V → Hp → Prop) (nD : H1 D = none) (hz : n < sizeLine)
    (mono : ∀ i y H H', Off D H H' → R i y H → R i y H')
    (hw : ∀ x, wipe ((wipe σ vs).set j (some x)) vs = wipe σ vs)
    (hs : ∀ (i : Nat) (H' : Hp) (xs : List V), i < n → Same H1 H' → H' D = some (.lst xs) → ∀ Qt : V → Hp → Prop, (∀ y H'', Same H' H'' → R i y H'' → Qt y H'') → te ((wipe σ vs).set j (some (.int (lo + (i : Int))))) H' Qt)
    (hd : ∀ H' ys, Same H1 H' → H' D = some (.lst ys) → ys.length = n → (∀ (i : Nat) (y : V), ys[i]? = some y → R i y H') → Qd H') :
    ∃ W : Nat → Nat → Hp → Prop, (∃ m, W 0 m (upd H1 D (.lst []))) ∧ ∀ i m H, W i m H →
      ((Itr lo n).stop i H ∧ Qd H) ∨ ((Itr lo n).go i H ∧ ∃ Nx : Hp → Prop, (∀ H', Nx H' → ∃ m', m' < m ∧ W (i + 1) m' H') ∧ ∀ x H', (Itr lo n).yld i H x H' → gName j x (wipe σ vs) H' fun σ2 H2 => wipe σ2 vs = wipe σ vs ∧ tYes σ2 H2 fun b H3 =>
        if b = true then te σ2 H3 fun y H4 => ∃ acc, H4 D = some (.lst acc) ∧ acc.length < sizeLine ∧ Nx (upd H4 D (.lst (acc ++ [y]))) else Nx H3) := by
  refine lc_range (lo := lo) (n := n) (RelPv R H1 D) ⟨[], same_upd nD, upd_same, rfl, fun k y h => by simp at h⟩ ?_ ?_
  · rintro i H hi ⟨ys, s, hD, hl, hR⟩
    refine ⟨hw _, ?_⟩
    show if true = true then te ((wipe σ vs).set j (some (.int (lo + (i : Int))))) H (fun y H4 => ∃ acc, H4 D = some (.lst acc) ∧ acc.length < sizeLine ∧ RelPv R H1 D (i + 1) (upd H4 D (.lst (acc ++ [y])))) else RelPv R H1 D (i + 1) H
    refine iteT (hs i H ys hi s hD _ fun y H4 s4 r4 => ?_)
    refine ⟨ys, s4 _ _ hD, by omega, ys ++ [y], same_over nD (s.trans s4), upd_same, by rw [List.length_append, hl]; rfl, fun k z hz => ?_⟩
    have off : Off D H4 (upd H4 D (.lst (ys ++ [y]))) := fun b o nb h => by rw [upd_ne nb]; exact h
    by_cases hk : k < ys.length
    · rw [List.getElem?_append_left hk] at hz
      exact mono k z H _ (fun b o nb h => off b o nb (s4 b o h)) (hR k z hz)
    · rw [List.getElem?_append_right (by omega)] at hz
      have hk2 : k - ys.length = 0 := by
        have h2 := (List.getElem?_eq_some_iff.mp hz).1
        rw [List.length_singleton] at h2
        omega
      rw [hk2] at hz
      cases hz
      have ek : k = i := by omega
      rw [ek]
      exact mono i y H4 _ off r4
  · rintro H ⟨ys, s, hD, hl, hR⟩
    exact hd H ys s hD hl hR
/-! ### ways that are told by whole numbers -/
theorem iteDT {p A B : Prop} [Decidable p] (hp : p) (h : A) : if decide p = true then A else B := by rw [decide_eq_true hp]; exact iteT h
theorem iteDF {p A B : Prop} [Decidable p] (hp : ¬ p) (h : B) : if decide p = true then A else B := by rw [decide_eq_false hp]; exact iteF h
theorem iteNT {p A B : Prop} [Decidable p] (hp : ¬ p) (h : A) : if (!decide p) = true then A else B := by rw [decide_eq_false hp]; exact iteT h
theorem iteNF {p A B : Prop} [Decidable p] (hp : p) (h : B) : if (!decide p) = true then A else B := by rw [decide_eq_true hp]; exact iteF h
theorem iteET {a b : Int} {A B : Prop} [Decidable (V.int a = V.int b)] (hp : a = b) (h : A) : if decide (V.int a = V.int b) = true then A else B := iteDT (congrArg V.int hp) h
theorem iteEF {a b : Int} {A B : Prop} [Decidable (V.int a = V.int b)] (hp : ¬ a = b) (h : B) : if decide (V.int a = V.int b) = true then A else B := iteDF (fun z => hp (V.int.inj z)) h
theorem iteENT {a b : Int} {A B : Prop} [Decidable (V.int a = V.int b)] (hp : ¬ a = b) (h : A) : if (!decide (V.int a = V.int b)) = true then A else B := iteNT (fun z => hp (V.int.inj z)) h
theorem iteENF {a b : Int} {A B : Prop} [Decidable (V.int a = V.int b)] (hp : a = b) (h : B) : if (!decide (V.int a = V.int b)) = true then A else B := iteNF (congrArg V.int hp) h
theorem iteNtt {A B : Prop} (h : B) : if (!true) = true then A else B := h
theorem iteNff {A B : Prop} (h : A) : if (!false) = true then A else B := h
/-- 1 or 0 of a comparison -/
theorem int_if {p : Prop} [Decidable p] : (if decide p = true then (1 : Int) else 0) = if p then 1 else 0 := by by_cases h : p <;> simp [h]
end Pre

namespace My
open PySem PySem.Spec PyProof.Rows L2
theorem nil_binds {K : PySem.W.Frag} {fd : FuncData} {ps : List Str} (h : ∃ ds, Vals [] ds ∧ Binds K fd ps ds) : Binds K fd ps [] := by
  obtain ⟨ds, v, b⟩ := h
  cases v
  exact b
def top (i : Nat) : Stmt := PySem.Challenge.pw_wholesound_k45_bits_of_folds.main.body.getD i (.Pass ⟨0, 0, 0, 0⟩)
abbrev s_is_whole : Stmt := top 7
abbrev N_is_whole : List Str := ["value"]
theorem sc_is_whole : FnScope N_is_whole ["value"] (defScope s_is_whole) := ⟨rfl, rfl, rfl, by decide +kernel, rfl, by decide +kernel, by decide +kernel⟩
abbrev s_is_between : Stmt := top 8
abbrev N_is_between : List Str := ["value", "low", "high"]
theorem sc_is_between : FnScope N_is_between ["value", "low", "high"] (defScope s_is_between) := ⟨rfl, rfl, rfl, by decide +kernel, rfl, by decide +kernel, by decide +kernel⟩
abbrev s_is_bits : Stmt := top 9
abbrev N_is_bits : List Str := ["value", "sign"]
theorem sc_is_bits : FnScope N_is_bits ["value"] (defScope s_is_bits) := ⟨rfl, rfl, rfl, by decide +kernel, rfl, by decide +kernel, by decide +kernel⟩
abbrev s_bits_of : Stmt := top 10
abbrev N_bits_of : List Str := ["number", "many", "at"]
theorem sc_bits_of : FnScope N_bits_of ["number", "many"] (defScope s_bits_of) := ⟨rfl, rfl, rfl, by decide +kernel, rfl, by decide +kernel, by decide +kernel⟩
abbrev s_number_of : Stmt := top 11
abbrev N_number_of : List Str := ["bits", "found", "sign"]
theorem sc_number_of : FnScope N_number_of ["bits"] (defScope s_number_of) := ⟨rfl, rfl, rfl, by decide +kernel, rfl, by decide +kernel, by decide +kernel⟩
abbrev s_check_number : Stmt := top 12
abbrev N_check_number : List Str := ["number", "low", "high"]
theorem sc_check_number : FnScope N_check_number ["number", "low", "high"] (defScope s_check_number) := ⟨rfl, rfl, rfl, by decide +kernel, rfl, by decide +kernel, by decide +kernel⟩
abbrev s_check_bits : Stmt := top 13
abbrev N_check_bits : List Str := ["bits"]
theorem sc_check_bits : FnScope N_check_bits ["bits"] (defScope s_check_bits) := ⟨rfl, rfl, rfl, by decide +kernel, rfl, by decide +kernel, by decide +kernel⟩
abbrev s_check_folds : Stmt := top 16
abbrev N_check_folds : List Str := ["folds", "unit"]
theorem sc_check_folds : FnScope N_check_folds ["folds"] (defScope s_check_folds) := ⟨rfl, rfl, rfl, by decide +kernel, rfl, by decide +kernel, by decide +kernel⟩
abbrev s_check_width : Stmt := top 17
abbrev N_check_width : List Str := ["width"]
theorem sc_check_width : FnScope N_check_width ["width"] (defScope s_check_width) := ⟨rfl, rfl, rfl, by decide +kernel, rfl, by decide +kernel, by decide +kernel⟩
abbrev s_text_of : Stmt := top 18
abbrev N_text_of : List Str := ["folds", "width", "unit"]
theorem sc_text_of : FnScope N_text_of ["folds", "width"] (defScope s_text_of) := ⟨rfl, rfl, rfl, by decide +kernel, rfl, by decide +kernel, by decide +kernel⟩
abbrev s_written : Stmt := top 20
abbrev N_written : List Str := ["folds", "width"]
theorem sc_written : FnScope N_written ["folds", "width"] (defScope s_written) := ⟨rfl, rfl, rfl, by decide +kernel, rfl, by decide +kernel, by decide +kernel⟩
abbrev s_fold_at : Stmt := top 21
abbrev N_fold_at : List Str := ["bits", "place", "width", "stop", "behind"]
theorem sc_fold_at : FnScope N_fold_at ["bits", "place", "width"] (defScope s_fold_at) := ⟨rfl, rfl, rfl, by decide +kernel, rfl, by decide +kernel, by decide +kernel⟩
abbrev s_folds_in : Stmt := top 22
abbrev N_folds_in : List Str := ["bits", "width", "many", "folds", "ends", "told"]
theorem sc_folds_in : FnScope N_folds_in ["bits", "width", "many"] (defScope s_folds_in) := ⟨rfl, rfl, rfl, by decide +kernel, rfl, by decide +kernel, by decide +kernel⟩
abbrev s_read_folds : Stmt := top 23
abbrev N_read_folds : List Str := ["bits", "width", "many", "folds", "ends"]
theorem sc_read_folds : FnScope N_read_folds ["bits", "width", "many"] (defScope s_read_folds) := ⟨rfl, rfl, rfl, by decide +kernel, rfl, by decide +kernel, by decide +kernel⟩
abbrev s_readings : Stmt := top 24
abbrev N_readings : List Str := ["bits", "most", "told", "width", "folds", "ends"]
theorem sc_readings : FnScope N_readings ["bits", "most"] (defScope s_readings) := ⟨rfl, rfl, rfl, by decide +kernel, rfl, by decide +kernel, by decide +kernel⟩
abbrev s_stepped : Stmt := top 25
abbrev N_stepped : List Str := ["state", "width", "sign"]
theorem sc_stepped : FnScope N_stepped ["state", "width", "sign"] (defScope s_stepped) := ⟨rfl, rfl, rfl, by decide +kernel, rfl, by decide +kernel, by decide +kernel⟩
abbrev s_both_read : Stmt := top 26
abbrev N_both_read : List Str := ["one", "other", "known", "pile", "at", "sign", "here", "text", "there", "bits"]
theorem sc_both_read : FnScope N_both_read ["one", "other"] (defScope s_both_read) := ⟨rfl, rfl, rfl, by decide +kernel, rfl, by decide +kernel, by decide +kernel⟩
abbrev s_turned_reading : Stmt := top 27
abbrev N_turned_reading : List Str := ["folds", "width", "at", "bits", "spoilt", "before", "both", "told", "ends", "end"]
theorem sc_turned_reading : FnScope N_turned_reading ["folds", "width", "at"] (defScope s_turned_reading) := ⟨rfl, rfl, rfl, by decide +kernel, rfl, by decide +kernel, by decide +kernel⟩
abbrev s_law_cell : Stmt := top 29
abbrev N_law_cell : List Str := ["_law_script", "_law_index"]
theorem sc_law_cell : FnScope N_law_cell ["_law_script", "_law_index"] (defScope s_law_cell) := ⟨rfl, rfl, rfl, by decide +kernel, rfl, by decide +kernel, by decide +kernel⟩
abbrev s_law_hash : Stmt := top 30
abbrev N_law_hash : List Str := ["_law_seed", "_law_index", "_law_mixed"]
theorem sc_law_hash : FnScope N_law_hash ["_law_seed", "_law_index"] (defScope s_law_hash) := ⟨rfl, rfl, rfl, by decide +kernel, rfl, by decide +kernel, by decide +kernel⟩
abbrev s_law_generator : Stmt := top 31
abbrev N_law_generator : List Str := ["_law_script", "_law_index", "_law_seed"]
theorem sc_law_generator : FnScope N_law_generator ["_law_script", "_law_index"] (defScope s_law_generator) := ⟨rfl, rfl, rfl, by decide +kernel, rfl, by decide +kernel, by decide +kernel⟩
abbrev s_law_random : Stmt := top 32
abbrev N_law_random : List Str := ["_law_generator_here", "_law_bound", "_law_drawn", "_law_turn"]
theorem sc_law_random : FnScope N_law_random ["_law_generator_here", "_law_bound"] (defScope s_law_random) := ⟨rfl, rfl, rfl, by decide +kernel, rfl, by decide +kernel, by decide +kernel⟩
abbrev s_law_text : Stmt := top 33
abbrev N_law_text : List Str := ["_law_folds", "_law_width", "_law_told", "_law_fold", "_law_place"]
theorem sc_law_text : FnScope N_law_text ["_law_folds", "_law_width"] (defScope s_law_text) := ⟨rfl, rfl, rfl, by decide +kernel, rfl, by decide +kernel, by decide +kernel⟩
abbrev s_law_read : Stmt := top 34
abbrev N_law_read : List Str := ["_law_bits_here", "_law_width", "_law_folds", "_law_ends", "_law_place", "_law_strokes", "_law_behind", "_law_fold", "_law_sign"]
theorem sc_law_read : FnScope N_law_read ["_law_bits_here", "_law_width"] (defScope s_law_read) := ⟨rfl, rfl, rfl, by decide +kernel, rfl, by decide +kernel, by decide +kernel⟩
abbrev s_law_small_folds : Stmt := top 35
abbrev N_law_small_folds : List Str := ["_law_generator_here", "_law_most", "_law_turn", "_law_found", "_law_top"]
theorem sc_law_small_folds : FnScope N_law_small_folds ["_law_generator_here", "_law_most"] (defScope s_law_small_folds) := ⟨rfl, rfl, rfl, by decide +kernel, rfl, by decide +kernel, by decide +kernel⟩
abbrev s_law_bits : Stmt := top 36
abbrev N_law_bits : List Str := ["_law_generator_here", "_law_most", "_law_turn"]
theorem sc_law_bits : FnScope N_law_bits ["_law_generator_here", "_law_most"] (defScope s_law_bits) := ⟨rfl, rfl, rfl, by decide +kernel, rfl, by decide +kernel, by decide +kernel⟩
abbrev s_law_written_right : Stmt := top 37
abbrev N_law_written_right : List Str := ["_law_generator_here", "_law_folds", "_law_width", "_law_many", "_law_text_here", "_law_more", "_law_kept", "_law_bits_here", "_law_due", "_law_found", "_law_ends"]
theorem sc_law_written_right : FnScope N_law_written_right ["_law_generator_here", "_law_folds", "_law_width"] (defScope s_law_written_right) := ⟨rfl, rfl, rfl, by decide +kernel, rfl, by decide +kernel, by decide +kernel⟩
abbrev s_law_readings_right : Stmt := top 38
abbrev N_law_readings_right : List Str := ["_law_bits_here", "_law_most", "_law_due", "_law_width", "_law_found", "_law_ends"]
theorem sc_law_readings_right : FnScope N_law_readings_right ["_law_bits_here", "_law_most"] (defScope s_law_readings_right) := ⟨rfl, rfl, rfl, by decide +kernel, rfl, by decide +kernel, by decide +kernel⟩
abbrev s_law_texts : Stmt := top 39
abbrev N_law_texts : List Str := ["_law_size", "_law_found", "_law_turn", "_law_text_here"]
theorem sc_law_texts : FnScope N_law_texts ["_law_size"] (defScope s_law_texts) := ⟨rfl, rfl, rfl, by decide +kernel, rfl, by decide +kernel, by decide +kernel⟩
abbrev s_law_whole : Stmt := top 40
abbrev N_law_whole : List Str := ["_law_bits_here", "_law_width"]
theorem sc_law_whole : FnScope N_law_whole ["_law_bits_here", "_law_width"] (defScope s_law_whole) := ⟨rfl, rfl, rfl, by decide +kernel, rfl, by decide +kernel, by decide +kernel⟩
abbrev s_law_both_right : Stmt := top 41
abbrev N_law_both_right : List Str := ["_law_one", "_law_other", "_law_size", "_law_bits_here", "_law_folds", "_law_others", "_law_some", "_law_text_here", "_law_sign"]
theorem sc_law_both_right : FnScope N_law_both_right ["_law_one", "_law_other"] (defScope s_law_both_right) := ⟨rfl, rfl, rfl, by decide +kernel, rfl, by decide +kernel, by decide +kernel⟩
abbrev s_law_turned_right : Stmt := top 42
abbrev N_law_turned_right : List Str := ["_law_generator_here", "_law_folds", "_law_width", "_law_text_here", "_law_turn", "_law_at", "_law_bits_here", "_law_both", "_law_due", "_law_found", "_law_ends", "_law_end"]
theorem sc_law_turned_right : FnScope N_law_turned_right ["_law_generator_here", "_law_folds", "_law_width"] (defScope s_law_turned_right) := ⟨rfl, rfl, rfl, by decide +kernel, rfl, by decide +kernel, by decide +kernel⟩
abbrev s_law : Stmt := top 43
abbrev N_law : List Str := ["_law_script", "_law_generator_here", "_law_turn", "_law_bits_here", "_law_one", "_law_other", "_law_folds", "_law_width"]
theorem sc_law : FnScope N_law ["_law_script"] (defScope s_law) := ⟨rfl, rfl, rfl, by decide +kernel, rfl, by decide +kernel, by decide +kernel⟩
/-- what the top has left -/
structure Top (K : PySem.W.Frag) (mg : Str → Option Value) where
  f_is_whole : Addr
  fd_is_whole : FuncData
  F_is_whole : FunD K "is_whole" "is_whole" (defArgs s_is_whole) (defBody s_is_whole) (defScope s_is_whole) [] [] f_is_whole fd_is_whole
  b_is_whole : Binds K fd_is_whole ["value"] []
  g_is_whole : mg "is_whole" = some (.ref f_is_whole)
  f_is_between : Addr
  fd_is_between : FuncData
  F_is_between : FunD K "is_between" "is_between" (defArgs s_is_between) (defBody s_is_between) (defScope s_is_between) [] [] f_is_between fd_is_between
  b_is_between : Binds K fd_is_between ["value", "low", "high"] []
  g_is_between : mg "is_between" = some (.ref f_is_between)
  f_is_bits : Addr
  fd_is_bits : FuncData
  F_is_bits : FunD K "is_bits" "is_bits" (defArgs s_is_bits) (defBody s_is_bits) (defScope s_is_bits) [] [] f_is_bits fd_is_bits
  b_is_bits : Binds K fd_is_bits ["value"] []
  g_is_bits : mg "is_bits" = some (.ref f_is_bits)
  f_bits_of : Addr
  fd_bits_of : FuncData
  F_bits_of : FunD K "bits_of" "bits_of" (defArgs s_bits_of) (defBody s_bits_of) (defScope s_bits_of) [] [] f_bits_of fd_bits_of
  b_bits_of : Binds K fd_bits_of ["number", "many"] []
  g_bits_of : mg "bits_of" = some (.ref f_bits_of)
  f_number_of : Addr
  fd_number_of : FuncData
  F_number_of : FunD K "number_of" "number_of" (defArgs s_number_of) (defBody s_number_of) (defScope s_number_of) [] [] f_number_of fd_number_of
  b_number_of : Binds K fd_number_of ["bits"] []
  g_number_of : mg "number_of" = some (.ref f_number_of)
  f_check_number : Addr
  fd_check_number : FuncData
  F_check_number : FunD K "check_number" "check_number" (defArgs s_check_number) (defBody s_check_number) (defScope s_check_number) [] [] f_check_number fd_check_number
  b_check_number : Binds K fd_check_number ["number", "low", "high"] []
  g_check_number : mg "check_number" = some (.ref f_check_number)
  f_check_bits : Addr
  fd_check_bits : FuncData
  F_check_bits : FunD K "check_bits" "check_bits" (defArgs s_check_bits) (defBody s_check_bits) (defScope s_check_bits) [] [] f_check_bits fd_check_bits
  b_check_bits : Binds K fd_check_bits ["bits"] []
  g_check_bits : mg "check_bits" = some (.ref f_check_bits)
  f_check_folds : Addr
  fd_check_folds : FuncData
  F_check_folds : FunD K "check_folds" "check_folds" (defArgs s_check_folds) (defBody s_check_folds) (defScope s_check_folds) [] [] f_check_folds fd_check_folds
  b_check_folds : Binds K fd_check_folds ["folds"] []
  g_check_folds : mg "check_folds" = some (.ref f_check_folds)
  f_check_width : Addr
  fd_check_width : FuncData
  F_check_width : FunD K "check_width" "check_width" (defArgs s_check_width) (defBody s_check_width) (defScope s_check_width) [] [] f_check_width fd_check_width
  b_check_width : Binds K fd_check_width ["width"] []
  g_check_width : mg "check_width" = some (.ref f_check_width)
  f_text_of : Addr
  fd_text_of : FuncData
  F_text_of : FunD K "text_of" "text_of" (defArgs s_text_of) (defBody s_text_of) (defScope s_text_of) [] [] f_text_of fd_text_of
  b_text_of : Binds K fd_text_of ["folds", "width"] []
  g_text_of : mg "text_of" = some (.ref f_text_of)
  f_written : Addr
  fd_written : FuncData
  F_written : FunD K "written" "written" (defArgs s_written) (defBody s_written) (defScope s_written) [] [] f_written fd_written
  b_written : Binds K fd_written ["folds", "width"] []
  g_written : mg "written" = some (.ref f_written)
  f_fold_at : Addr
  fd_fold_at : FuncData
  F_fold_at : FunD K "fold_at" "fold_at" (defArgs s_fold_at) (defBody s_fold_at) (defScope s_fold_at) [] [] f_fold_at fd_fold_at
  b_fold_at : Binds K fd_fold_at ["bits", "place", "width"] []
  g_fold_at : mg "fold_at" = some (.ref f_fold_at)
  f_folds_in : Addr
  fd_folds_in : FuncData
  F_folds_in : FunD K "folds_in" "folds_in" (defArgs s_folds_in) (defBody s_folds_in) (defScope s_folds_in) [] [] f_folds_in fd_folds_in
  b_folds_in : Binds K fd_folds_in ["bits", "width", "many"] []
  g_folds_in : mg "folds_in" = some (.ref f_folds_in)
  f_read_folds : Addr
  fd_read_folds : FuncData
  F_read_folds : FunD K "read_folds" "read_folds" (defArgs s_read_folds) (defBody s_read_folds) (defScope s_read_folds) [] [] f_read_folds fd_read_folds
  b_read_folds : Binds K fd_read_folds ["bits", "width", "many"] []
  g_read_folds : mg "read_folds" = some (.ref f_read_folds)
  f_readings : Addr
  fd_readings : FuncData
  F_readings : FunD K "readings" "readings" (defArgs s_readings) (defBody s_readings) (defScope s_readings) [] [] f_readings fd_readings
  b_readings : Binds K fd_readings ["bits", "most"] []
  g_readings : mg "readings" = some (.ref f_readings)
  f_stepped : Addr
  fd_stepped : FuncData
  F_stepped : FunD K "stepped" "stepped" (defArgs s_stepped) (defBody s_stepped) (defScope s_stepped) [] [] f_stepped fd_stepped
  b_stepped : Binds K fd_stepped ["state", "width", "sign"] []
  g_stepped : mg "stepped" = some (.ref f_stepped)
  f_both_read : Addr
  fd_both_read : FuncData
  F_both_read : FunD K "both_read" "both_read" (defArgs s_both_read) (defBody s_both_read) (defScope s_both_read) [] [] f_both_read fd_both_read
  b_both_read : Binds K fd_both_read ["one", "other"] []
  g_both_read : mg "both_read" = some (.ref f_both_read)
  f_turned_reading : Addr
  fd_turned_reading : FuncData
  F_turned_reading : FunD K "turned_reading" "turned_reading" (defArgs s_turned_reading) (defBody s_turned_reading) (defScope s_turned_reading) [] [] f_turned_reading fd_turned_reading
  b_turned_reading : Binds K fd_turned_reading ["folds", "width", "at"] []
  g_turned_reading : mg "turned_reading" = some (.ref f_turned_reading)
  f_law_cell : Addr
  fd_law_cell : FuncData
  F_law_cell : FunD K "_law_cell" "_law_cell" (defArgs s_law_cell) (defBody s_law_cell) (defScope s_law_cell) [] [] f_law_cell fd_law_cell
  b_law_cell : Binds K fd_law_cell ["_law_script", "_law_index"] []
  g_law_cell : mg "_law_cell" = some (.ref f_law_cell)
  f_law_hash : Addr
  fd_law_hash : FuncData
  F_law_hash : FunD K "_law_hash" "_law_hash" (defArgs s_law_hash) (defBody s_law_hash) (defScope s_law_hash) [] [] f_law_hash fd_law_hash
  b_law_hash : Binds K fd_law_hash ["_law_seed", "_law_index"] []
  g_law_hash : mg "_law_hash" = some (.ref f_law_hash)
  f_law_generator : Addr
  fd_law_generator : FuncData
  F_law_generator : FunD K "_law_generator" "_law_generator" (defArgs s_law_generator) (defBody s_law_generator) (defScope s_law_generator) [] [] f_law_generator fd_law_generator
  b_law_generator : Binds K fd_law_generator ["_law_script", "_law_index"] []
  g_law_generator : mg "_law_generator" = some (.ref f_law_generator)
  f_law_random : Addr
  fd_law_random : FuncData
  F_law_random : FunD K "_law_random" "_law_random" (defArgs s_law_random) (defBody s_law_random) (defScope s_law_random) [] [] f_law_random fd_law_random
  b_law_random : Binds K fd_law_random ["_law_generator_here", "_law_bound"] []
  g_law_random : mg "_law_random" = some (.ref f_law_random)
  f_law_text : Addr
  fd_law_text : FuncData
  F_law_text : FunD K "_law_text" "_law_text" (defArgs s_law_text) (defBody s_law_text) (defScope s_law_text) [] [] f_law_text fd_law_text
  b_law_text : Binds K fd_law_text ["_law_folds", "_law_width"] []
  g_law_text : mg "_law_text" = some (.ref f_law_text)
  f_law_read : Addr
  fd_law_read : FuncData
  F_law_read : FunD K "_law_read" "_law_read" (defArgs s_law_read) (defBody s_law_read) (defScope s_law_read) [] [] f_law_read fd_law_read
  b_law_read : Binds K fd_law_read ["_law_bits_here", "_law_width"] []
  g_law_read : mg "_law_read" = some (.ref f_law_read)
  f_law_small_folds : Addr
  fd_law_small_folds : FuncData
  F_law_small_folds : FunD K "_law_small_folds" "_law_small_folds" (defArgs s_law_small_folds) (defBody s_law_small_folds) (defScope s_law_small_folds) [] [] f_law_small_folds fd_law_small_folds
  b_law_small_folds : Binds K fd_law_small_folds ["_law_generator_here", "_law_most"] []
  g_law_small_folds : mg "_law_small_folds" = some (.ref f_law_small_folds)
  f_law_bits : Addr
  fd_law_bits : FuncData
  F_law_bits : FunD K "_law_bits" "_law_bits" (defArgs s_law_bits) (defBody s_law_bits) (defScope s_law_bits) [] [] f_law_bits fd_law_bits
  b_law_bits : Binds K fd_law_bits ["_law_generator_here", "_law_most"] []
  g_law_bits : mg "_law_bits" = some (.ref f_law_bits)
  f_law_written_right : Addr
  fd_law_written_right : FuncData
  F_law_written_right : FunD K "_law_written_right" "_law_written_right" (defArgs s_law_written_right) (defBody s_law_written_right) (defScope s_law_written_right) [] [] f_law_written_right fd_law_written_right
  b_law_written_right : Binds K fd_law_written_right ["_law_generator_here", "_law_folds", "_law_width"] []
  g_law_written_right : mg "_law_written_right" = some (.ref f_law_written_right)
  f_law_readings_right : Addr
  fd_law_readings_right : FuncData
  F_law_readings_right : FunD K "_law_readings_right" "_law_readings_right" (defArgs s_law_readings_right) (defBody s_law_readings_right) (defScope s_law_readings_right) [] [] f_law_readings_right fd_law_readings_right
  b_law_readings_right : Binds K fd_law_readings_right ["_law_bits_here", "_law_most"] []
  g_law_readings_right : mg "_law_readings_right" = some (.ref f_law_readings_right)
  f_law_texts : Addr
  fd_law_texts : FuncData
  F_law_texts : FunD K "_law_texts" "_law_texts" (defArgs s_law_texts) (defBody s_law_texts) (defScope s_law_texts) [] [] f_law_texts fd_law_texts
  b_law_texts : Binds K fd_law_texts ["_law_size"] []
  g_law_texts : mg "_law_texts" = some (.ref f_law_texts)
  f_law_whole : Addr
  fd_law_whole : FuncData
  F_law_whole : FunD K "_law_whole" "_law_whole" (defArgs s_law_whole) (defBody s_law_whole) (defScope s_law_whole) [] [] f_law_whole fd_law_whole
  b_law_whole : Binds K fd_law_whole ["_law_bits_here", "_law_width"] []
  g_law_whole : mg "_law_whole" = some (.ref f_law_whole)
  f_law_both_right : Addr
  fd_law_both_right : FuncData
  F_law_both_right : FunD K "_law_both_right" "_law_both_right" (defArgs s_law_both_right) (defBody s_law_both_right) (defScope s_law_both_right) [] [] f_law_both_right fd_law_both_right
  b_law_both_right : Binds K fd_law_both_right ["_law_one", "_law_other"] []
  g_law_both_right : mg "_law_both_right" = some (.ref f_law_both_right)
  f_law_turned_right : Addr
  fd_law_turned_right : FuncData
  F_law_turned_right : FunD K "_law_turned_right" "_law_turned_right" (defArgs s_law_turned_right) (defBody s_law_turned_right) (defScope s_law_turned_right) [] [] f_law_turned_right fd_law_turned_right
  b_law_turned_right : Binds K fd_law_turned_right ["_law_generator_here", "_law_folds", "_law_width"] []
  g_law_turned_right : mg "_law_turned_right" = some (.ref f_law_turned_right)
  f_law : Addr
  fd_law : FuncData
  F_law : FunD K "law" "law" (defArgs s_law) (defBody s_law) (defScope s_law) [] [] f_law fd_law
  b_law : Binds K fd_law ["_law_script"] []
  g_law : mg "law" = some (.ref f_law)
  n_len : mg "len" = none
  n_sum : mg "sum" = none
  n_max : mg "max" = none
  n_min : mg "min" = none
  n_int : mg "int" = none
  n_bool : mg "bool" = none
  n_list : mg "list" = none
  n_str : mg "str" = none
  n_range : mg "range" = none
  n_isinstance : mg "isinstance" = none
  n_sorted : mg "sorted" = none
  n_set : mg "set" = none
  t_MOST_WIDTH : Tok
  m_MOST_WIDTH : mg "MOST_WIDTH" = some (.int 120 t_MOST_WIDTH)
def d_is_whole : He.DefD := ⟨("is_whole", none), "is_whole", "is_whole", defArgs s_is_whole, defBody s_is_whole, defScope s_is_whole, [], []⟩
def d_is_between : He.DefD := ⟨("is_between", none), "is_between", "is_between", defArgs s_is_between, defBody s_is_between, defScope s_is_between, [], []⟩
def d_is_bits : He.DefD := ⟨("is_bits", none), "is_bits", "is_bits", defArgs s_is_bits, defBody s_is_bits, defScope s_is_bits, [], []⟩
def d_bits_of : He.DefD := ⟨("bits_of", none), "bits_of", "bits_of", defArgs s_bits_of, defBody s_bits_of, defScope s_bits_of, [], []⟩
def d_number_of : He.DefD := ⟨("number_of", none), "number_of", "number_of", defArgs s_number_of, defBody s_number_of, defScope s_number_of, [], []⟩
def d_check_number : He.DefD := ⟨("check_number", none), "check_number", "check_number", defArgs s_check_number, defBody s_check_number, defScope s_check_number, [], []⟩
def d_check_bits : He.DefD := ⟨("check_bits", none), "check_bits", "check_bits", defArgs s_check_bits, defBody s_check_bits, defScope s_check_bits, [], []⟩
def d_check_folds : He.DefD := ⟨("check_folds", none), "check_folds", "check_folds", defArgs s_check_folds, defBody s_check_folds, defScope s_check_folds, [], []⟩
def d_check_width : He.DefD := ⟨("check_width", none), "check_width", "check_width", defArgs s_check_width, defBody s_check_width, defScope s_check_width, [], []⟩
def d_text_of : He.DefD := ⟨("text_of", none), "text_of", "text_of", defArgs s_text_of, defBody s_text_of, defScope s_text_of, [], []⟩
def d_written : He.DefD := ⟨("written", none), "written", "written", defArgs s_written, defBody s_written, defScope s_written, [], []⟩
def d_fold_at : He.DefD := ⟨("fold_at", none), "fold_at", "fold_at", defArgs s_fold_at, defBody s_fold_at, defScope s_fold_at, [], []⟩
def d_folds_in : He.DefD := ⟨("folds_in", none), "folds_in", "folds_in", defArgs s_folds_in, defBody s_folds_in, defScope s_folds_in, [], []⟩
def d_read_folds : He.DefD := ⟨("read_folds", none), "read_folds", "read_folds", defArgs s_read_folds, defBody s_read_folds, defScope s_read_folds, [], []⟩
def d_readings : He.DefD := ⟨("readings", none), "readings", "readings", defArgs s_readings, defBody s_readings, defScope s_readings, [], []⟩
def d_stepped : He.DefD := ⟨("stepped", none), "stepped", "stepped", defArgs s_stepped, defBody s_stepped, defScope s_stepped, [], []⟩
def d_both_read : He.DefD := ⟨("both_read", none), "both_read", "both_read", defArgs s_both_read, defBody s_both_read, defScope s_both_read, [], []⟩
def d_turned_reading : He.DefD := ⟨("turned_reading", none), "turned_reading", "turned_reading", defArgs s_turned_reading, defBody s_turned_reading, defScope s_turned_reading, [], []⟩
def d_law_cell : He.DefD := ⟨("_law_cell", none), "_law_cell", "_law_cell", defArgs s_law_cell, defBody s_law_cell, defScope s_law_cell, [], []⟩
def d_law_hash : He.DefD := ⟨("_law_hash", none), "_law_hash", "_law_hash", defArgs s_law_hash, defBody s_law_hash, defScope s_law_hash, [], []⟩
def d_law_generator : He.DefD := ⟨("_law_generator", none), "_law_generator", "_law_generator", defArgs s_law_generator, defBody s_law_generator, defScope s_law_generator, [], []⟩
def d_law_random : He.DefD := ⟨("_law_random", none), "_law_random", "_law_random", defArgs s_law_random, defBody s_law_random, defScope s_law_random, [], []⟩
def d_law_text : He.DefD := ⟨("_law_text", none), "_law_text", "_law_text", defArgs s_law_text, defBody s_law_text, defScope s_law_text, [], []⟩
def d_law_read : He.DefD := ⟨("_law_read", none), "_law_read", "_law_read", defArgs s_law_read, defBody s_law_read, defScope s_law_read, [], []⟩
def d_law_small_folds : He.DefD := ⟨("_law_small_folds", none), "_law_small_folds", "_law_small_folds", defArgs s_law_small_folds, defBody s_law_small_folds, defScope s_law_small_folds, [], []⟩
def d_law_bits : He.DefD := ⟨("_law_bits", none), "_law_bits", "_law_bits", defArgs s_law_bits, defBody s_law_bits, defScope s_law_bits, [], []⟩
def d_law_written_right : He.DefD := ⟨("_law_written_right", none), "_law_written_right", "_law_written_right", defArgs s_law_written_right, defBody s_law_written_right, defScope s_law_written_right, [], []⟩
def d_law_readings_right : He.DefD := ⟨("_law_readings_right", none), "_law_readings_right", "_law_readings_right", defArgs s_law_readings_right, defBody s_law_readings_right, defScope s_law_readings_right, [], []⟩
def d_law_texts : He.DefD := ⟨("_law_texts", none), "_law_texts", "_law_texts", defArgs s_law_texts, defBody s_law_texts, defScope s_law_texts, [], []⟩
def d_law_whole : He.DefD := ⟨("_law_whole", none), "_law_whole", "_law_whole", defArgs s_law_whole, defBody s_law_whole, defScope s_law_whole, [], []⟩
def d_law_both_right : He.DefD := ⟨("_law_both_right", none), "_law_both_right", "_law_both_right", defArgs s_law_both_right, defBody s_law_both_right, defScope s_law_both_right, [], []⟩
def d_law_turned_right : He.DefD := ⟨("_law_turned_right", none), "_law_turned_right", "_law_turned_right", defArgs s_law_turned_right, defBody s_law_turned_right, defScope s_law_turned_right, [], []⟩
def d_law : He.DefD := ⟨("law", none), "law", "law", defArgs s_law, defBody s_law, defScope s_law, [], []⟩
def fn : List He.DefD := [d_is_whole, d_is_between, d_is_bits, d_bits_of, d_number_of, d_check_number, d_check_bits, d_check_folds, d_check_width, d_text_of, d_written, d_fold_at, d_folds_in, d_read_folds, d_readings, d_stepped, d_both_read, d_turned_reading, d_law_cell, d_law_hash, d_law_generator, d_law_random, d_law_text, d_law_read, d_law_small_folds, d_law_bits, d_law_written_right, d_law_readings_right, d_law_texts, d_law_whole, d_law_both_right, d_law_turned_right, d_law]
def fa0 : List He.Fa := [.glo "is_whole", .glo "is_between", .glo "is_bits", .glo "bits_of", .glo "number_of", .glo "check_number", .glo "check_bits", .glo "check_folds", .glo "check_width", .glo "text_of", .glo "written", .glo "fold_at", .glo "folds_in", .glo "read_folds", .glo "readings", .glo "stepped", .glo "both_read", .glo "turned_reading", .glo "_law_cell", .glo "_law_hash", .glo "_law_generator", .glo "_law_random", .glo "_law_text", .glo "_law_read", .glo "_law_small_folds", .glo "_law_bits", .glo "_law_written_right", .glo "_law_readings_right", .glo "_law_texts", .glo "_law_whole"]
def fa1 : List He.Fa := [.glo "_law_both_right", .glo "_law_turned_right", .glo "law", .free "len", .free "sum", .free "max", .free "min", .free "int", .free "bool", .free "list", .free "str", .free "range", .free "isinstance", .free "sorted", .free "set", .int "MOST_WIDTH" 120]
def fa : List He.Fa := fa0 ++ fa1
/-- isinstance of an own class -/
def insB (K : PySem.W.Frag) (x : Str) : Bool := decide (PySem.W.findIn K (.ref (He.ga K x)) "__class__" = some (some (.builtin "object.__class__"))) && (decide (PySem.W.specialIn K (.builtin "object.__class__") "__get__" = some (some (.builtin "getset_descriptor.__get__"))) && (decide (PySem.W.takesIn K (.builtin "object.__class__") = some true) && (decide (PySem.W.mroIn K (He.ga K x) (.type "object") = some true) && decide (PySem.W.kitOne K (.ref (He.ga K x)) (.ref (He.ga K x)) = some true))))
theorem insB_ok {K : PySem.W.Frag} {x : Str} (cl : Cls K (He.ga K x)) (h : insB K x = true) : C8.InsC K (He.ga K x) := by
  unfold insB at h
  simp only [Bool.and_eq_true, decide_eq_true_eq] at h
  exact ⟨cl, h.1, h.2.1, h.2.2.1, h.2.2.2.1, h.2.2.2.2⟩
def eqB (K : PySem.W.Frag) (x : Str) : Bool := decide (PySem.W.findIn K (.ref (He.ga K x)) "__ne__" = some (some (.builtin "object.__ne__"))) && (decide (PySem.W.subIn K (.ref (He.ga K x)) (.type "object") = some true) && (decide (PySem.W.subIn K (.type "list") (.ref (He.ga K x)) = some false) && (decide (PySem.W.kitOne K (.type "list") (.ref (He.ga K x)) = some false) && (decide (PySem.W.subIn K (.type "tuple") (.ref (He.ga K x)) = some false) && decide (PySem.W.kitOne K (.type "tuple") (.ref (He.ga K x)) = some false)))))
def eqs : List Str := []
def own : List Str := []
def ex (K : PySem.W.Frag) : Bool := (own.all fun x => insB K x) && eqs.all fun x => eqB K x
abbrev R : PySem.W.OpenRow := PySem.W.OpenLaw.row PySem.Challenge.rw_wholesound_k45_bits_of_folds
abbrev Al : Type := He.AlD × Bool
def obsG (g : Addr → Option Obj) : Al := (He.obsDG 5 fa fn g, ex (He.frG g (He.asD g 5)))
def Says (K : PySem.W.Frag) : Prop := He.SaysD fa fn K ∧ ex K = true
def hk : PySem.W.Hook where
  α := Al
  obs := fun s => obsG s.heap.get?
  val := fun _ => (He.valD fn, true)
  says := fun _ h => ∃ K : PySem.W.Frag, K.In h ∧ Says K
  of := fun _ _ e => ⟨_, He.frG_in, congrArg Prod.fst e, congrArg Prod.snd e⟩
  keeps := fun _ _ _ ⟨K, hK, c⟩ k => ⟨K, PySem.W.Frag.In.keeps hK k, c⟩
def ob (s : PySem.W.SharedT) : Al := obsG (HandSHeadRun.getT s)
theorem ob_eq (s : PySem.W.SharedT) : ob s = hk.obs s.abs := by
  have e : HandSHeadRun.getT s = s.abs.heap.get? := funext (HandSHeadRun.getT_eq s)
  show obsG (HandSHeadRun.getT s) = obsG s.abs.heap.get?
  rw [e]
def loose0 : List PySem.Str := ["SoundError", "InvalidNumber", "InvalidFolds", "InvalidWidth", "InvalidBits", "is_whole", "is_between", "is_bits", "bits_of", "number_of", "check_number", "check_bits", "MOST_WIDTH", "check_folds", "check_width", "text_of", "written", "fold_at", "folds_in", "read_folds", "readings", "stepped", "both_read", "turned_reading", "_law_cell", "_law_hash", "_law_generator", "_law_random", "_law_text", "_law_read"]
def loose1 : List PySem.Str := ["_law_small_folds", "_law_bits", "_law_written_right", "_law_readings_right", "_law_texts", "_law_whole", "_law_both_right", "_law_turned_right"]
abbrev loose : List PySem.Str := loose0 ++ loose1
theorem run (w : World) : HandSHeadRun.RunEq R (PySem.W.view R.prog [43]) hk ob 8000 loose w := by
  intro os
  kernel_rfl
noncomputable def top_mk {K : PySem.W.Frag} {h : Heap} {mg : Str → Option Value} (X : K.In h) (G : h.Ns mainGlobals mg) (c : Says K) : Top K mg :=
  let p0 := c.1.def_ 0 (d := d_is_whole) rfl
  let p1 := c.1.def_ 1 (d := d_is_between) rfl
  let p2 := c.1.def_ 2 (d := d_is_bits) rfl
  let p3 := c.1.def_ 3 (d := d_bits_of) rfl
  let p4 := c.1.def_ 4 (d := d_number_of) rfl
  let p5 := c.1.def_ 5 (d := d_check_number) rfl
  let p6 := c.1.def_ 6 (d := d_check_bits) rfl
  let p7 := c.1.def_ 7 (d := d_check_folds) rfl
  let p8 := c.1.def_ 8 (d := d_check_width) rfl
  let p9 := c.1.def_ 9 (d := d_text_of) rfl
  let p10 := c.1.def_ 10 (d := d_written) rfl
  let p11 := c.1.def_ 11 (d := d_fold_at) rfl
  let p12 := c.1.def_ 12 (d := d_folds_in) rfl
  let p13 := c.1.def_ 13 (d := d_read_folds) rfl
  let p14 := c.1.def_ 14 (d := d_readings) rfl
  let p15 := c.1.def_ 15 (d := d_stepped) rfl
  let p16 := c.1.def_ 16 (d := d_both_read) rfl
  let p17 := c.1.def_ 17 (d := d_turned_reading) rfl
  let p18 := c.1.def_ 18 (d := d_law_cell) rfl
  let p19 := c.1.def_ 19 (d := d_law_hash) rfl
  let p20 := c.1.def_ 20 (d := d_law_generator) rfl
  let p21 := c.1.def_ 21 (d := d_law_random) rfl
  let p22 := c.1.def_ 22 (d := d_law_text) rfl
  let p23 := c.1.def_ 23 (d := d_law_read) rfl
  let p24 := c.1.def_ 24 (d := d_law_small_folds) rfl
  let p25 := c.1.def_ 25 (d := d_law_bits) rfl
  let p26 := c.1.def_ 26 (d := d_law_written_right) rfl
  let p27 := c.1.def_ 27 (d := d_law_readings_right) rfl
  let p28 := c.1.def_ 28 (d := d_law_texts) rfl
  let p29 := c.1.def_ 29 (d := d_law_whole) rfl
  let p30 := c.1.def_ 30 (d := d_law_both_right) rfl
  let p31 := c.1.def_ 31 (d := d_law_turned_right) rfl
  let p32 := c.1.def_ 32 (d := d_law) rfl
  let q0 := He.int_ok X G (c.1.fact 45 (f := .int "MOST_WIDTH" 120) rfl)
  { f_is_whole := _, fd_is_whole := p0.choose, F_is_whole := p0.choose_spec, b_is_whole := p0.choose_spec.bindsN fun _ _ _ _ _ _ us hl => match us, hl with | [_], _ => rfl, g_is_whole := He.glo_ok X G (c.1.fact 0 (f := .glo "is_whole") rfl),
    f_is_between := _, fd_is_between := p1.choose, F_is_between := p1.choose_spec, b_is_between := p1.choose_spec.bindsN fun _ _ _ _ _ _ us hl => match us, hl with | [_, _, _], _ => rfl, g_is_between := He.glo_ok X G (c.1.fact 1 (f := .glo "is_between") rfl),
    f_is_bits := _, fd_is_bits := p2.choose, F_is_bits := p2.choose_spec, b_is_bits := p2.choose_spec.bindsN fun _ _ _ _ _ _ us hl => match us, hl with | [_], _ => rfl, g_is_bits := He.glo_ok X G (c.1.fact 2 (f := .glo "is_bits") rfl),
    f_bits_of := _, fd_bits_of := p3.choose, F_bits_of := p3.choose_spec, b_bits_of := p3.choose_spec.bindsN fun _ _ _ _ _ _ us hl => match us, hl with | [_, _], _ => rfl, g_bits_of := He.glo_ok X G (c.1.fact 3 (f := .glo "bits_of") rfl),
    f_number_of := _, fd_number_of := p4.choose, F_number_of := p4.choose_spec, b_number_of := p4.choose_spec.bindsN fun _ _ _ _ _ _ us hl => match us, hl with | [_], _ => rfl, g_number_of := He.glo_ok X G (c.1.fact 4 (f := .glo "number_of") rfl),
    f_check_number := _, fd_check_number := p5.choose, F_check_number := p5.choose_spec, b_check_number := p5.choose_spec.bindsN fun _ _ _ _ _ _ us hl => match us, hl with | [_, _, _], _ => rfl, g_check_number := He.glo_ok X G (c.1.fact 5 (f := .glo "check_number") rfl),
    f_check_bits := _, fd_check_bits := p6.choose, F_check_bits := p6.choose_spec, b_check_bits := p6.choose_spec.bindsN fun _ _ _ _ _ _ us hl => match us, hl with | [_], _ => rfl, g_check_bits := He.glo_ok X G (c.1.fact 6 (f := .glo "check_bits") rfl),
    f_check_folds := _, fd_check_folds := p7.choose, F_check_folds := p7.choose_spec, b_check_folds := p7.choose_spec.bindsN fun _ _ _ _ _ _ us hl => match us, hl with | [_], _ => rfl, g_check_folds := He.glo_ok X G (c.1.fact 7 (f := .glo "check_folds") rfl),
    f_check_width := _, fd_check_width := p8.choose, F_check_width := p8.choose_spec, b_check_width := p8.choose_spec.bindsN fun _ _ _ _ _ _ us hl => match us, hl with | [_], _ => rfl, g_check_width := He.glo_ok X G (c.1.fact 8 (f := .glo "check_width") rfl),
    f_text_of := _, fd_text_of := p9.choose, F_text_of := p9.choose_spec, b_text_of := p9.choose_spec.bindsN fun _ _ _ _ _ _ us hl => match us, hl with | [_, _], _ => rfl, g_text_of := He.glo_ok X G (c.1.fact 9 (f := .glo "text_of") rfl),
    f_written := _, fd_written := p10.choose, F_written := p10.choose_spec, b_written := p10.choose_spec.bindsN fun _ _ _ _ _ _ us hl => match us, hl with | [_, _], _ => rfl, g_written := He.glo_ok X G (c.1.fact 10 (f := .glo "written") rfl),
    f_fold_at := _, fd_fold_at := p11.choose, F_fold_at := p11.choose_spec, b_fold_at := p11.choose_spec.bindsN fun _ _ _ _ _ _ us hl => match us, hl with | [_, _, _], _ => rfl, g_fold_at := He.glo_ok X G (c.1.fact 11 (f := .glo "fold_at") rfl),
    f_folds_in := _, fd_folds_in := p12.choose, F_folds_in := p12.choose_spec, b_folds_in := p12.choose_spec.bindsN fun _ _ _ _ _ _ us hl => match us, hl with | [_, _, _], _ => rfl, g_folds_in := He.glo_ok X G (c.1.fact 12 (f := .glo "folds_in") rfl),
    f_read_folds := _, fd_read_folds := p13.choose, F_read_folds := p13.choose_spec, b_read_folds := p13.choose_spec.bindsN fun _ _ _ _ _ _ us hl => match us, hl with | [_, _, _], _ => rfl, g_read_folds := He.glo_ok X G (c.1.fact 13 (f := .glo "read_folds") rfl),
    f_readings := _, fd_readings := p14.choose, F_readings := p14.choose_spec, b_readings := p14.choose_spec.bindsN fun _ _ _ _ _ _ us hl => match us, hl with | [_, _], _ => rfl, g_readings := He.glo_ok X G (c.1.fact 14 (f := .glo "readings") rfl),
    f_stepped := _, fd_stepped := p15.choose, F_stepped := p15.choose_spec, b_stepped := p15.choose_spec.bindsN fun _ _ _ _ _ _ us hl => match us, hl with | [_, _, _], _ => rfl, g_stepped := He.glo_ok X G (c.1.fact 15 (f := .glo "stepped") rfl),
    f_both_read := _, fd_both_read := p16.choose, F_both_read := p16.choose_spec, b_both_read := p16.choose_spec.bindsN fun _ _ _ _ _ _ us hl => match us, hl with | [_, _], _ => rfl, g_both_read := He.glo_ok X G (c.1.fact 16 (f := .glo "both_read") rfl),
    f_turned_reading := _, fd_turned_reading := p17.choose, F_turned_reading := p17.choose_spec, b_turned_reading := p17.choose_spec.bindsN fun _ _ _ _ _ _ us hl => match us, hl with | [_, _, _], _ => rfl, g_turned_reading := He.glo_ok X G (c.1.fact 17 (f := .glo "turned_reading") rfl),
    f_law_cell := _, fd_law_cell := p18.choose, F_law_cell := p18.choose_spec, b_law_cell := p18.choose_spec.bindsN fun _ _ _ _ _ _ us hl => match us, hl with | [_, _], _ => rfl, g_law_cell := He.glo_ok X G (c.1.fact 18 (f := .glo "_law_cell") rfl),
    f_law_hash := _, fd_law_hash := p19.choose, F_law_hash := p19.choose_spec, b_law_hash := p19.choose_spec.bindsN fun _ _ _ _ _ _ us hl => match us, hl with | [_, _], _ => rfl, g_law_hash := He.glo_ok X G (c.1.fact 19 (f := .glo "_law_hash") rfl),
    f_law_generator := _, fd_law_generator := p20.choose, F_law_generator := p20.choose_spec, b_law_generator := p20.choose_spec.bindsN fun _ _ _ _ _ _ us hl => match us, hl with | [_, _], _ => rfl, g_law_generator := He.glo_ok X G (c.1.fact 20 (f := .glo "_law_generator") rfl),
    f_law_random := _, fd_law_random := p21.choose, F_law_random := p21.choose_spec, b_law_random := p21.choose_spec.bindsN fun _ _ _ _ _ _ us hl => match us, hl with | [_, _], _ => rfl, g_law_random := He.glo_ok X G (c.1.fact 21 (f := .glo "_law_random") rfl),
    f_law_text := _, fd_law_text := p22.choose, F_law_text := p22.choose_spec, b_law_text := p22.choose_spec.bindsN fun _ _ _ _ _ _ us hl => match us, hl with | [_, _], _ => rfl, g_law_text := He.glo_ok X G (c.1.fact 22 (f := .glo "_law_text") rfl),
    f_law_read := _, fd_law_read := p23.choose, F_law_read := p23.choose_spec, b_law_read := p23.choose_spec.bindsN fun _ _ _ _ _ _ us hl => match us, hl with | [_, _], _ => rfl, g_law_read := He.glo_ok X G (c.1.fact 23 (f := .glo "_law_read") rfl),
    f_law_small_folds := _, fd_law_small_folds := p24.choose, F_law_small_folds := p24.choose_spec, b_law_small_folds := p24.choose_spec.bindsN fun _ _ _ _ _ _ us hl => match us, hl with | [_, _], _ => rfl, g_law_small_folds := He.glo_ok X G (c.1.fact 24 (f := .glo "_law_small_folds") rfl),
    f_law_bits := _, fd_law_bits := p25.choose, F_law_bits := p25.choose_spec, b_law_bits := p25.choose_spec.bindsN fun _ _ _ _ _ _ us hl => match us, hl with | [_, _], _ => rfl, g_law_bits := He.glo_ok X G (c.1.fact 25 (f := .glo "_law_bits") rfl),
    f_law_written_right := _, fd_law_written_right := p26.choose, F_law_written_right := p26.choose_spec, b_law_written_right := p26.choose_spec.bindsN fun _ _ _ _ _ _ us hl => match us, hl with | [_, _, _], _ => rfl, g_law_written_right := He.glo_ok X G (c.1.fact 26 (f := .glo "_law_written_right") rfl),
    f_law_readings_right := _, fd_law_readings_right := p27.choose, F_law_readings_right := p27.choose_spec, b_law_readings_right := p27.choose_spec.bindsN fun _ _ _ _ _ _ us hl => match us, hl with | [_, _], _ => rfl, g_law_readings_right := He.glo_ok X G (c.1.fact 27 (f := .glo "_law_readings_right") rfl),
    f_law_texts := _, fd_law_texts := p28.choose, F_law_texts := p28.choose_spec, b_law_texts := p28.choose_spec.bindsN fun _ _ _ _ _ _ us hl => match us, hl with | [_], _ => rfl, g_law_texts := He.glo_ok X G (c.1.fact 28 (f := .glo "_law_texts") rfl),
    f_law_whole := _, fd_law_whole := p29.choose, F_law_whole := p29.choose_spec, b_law_whole := p29.choose_spec.bindsN fun _ _ _ _ _ _ us hl => match us, hl with | [_, _], _ => rfl, g_law_whole := He.glo_ok X G (c.1.fact 29 (f := .glo "_law_whole") rfl),
    f_law_both_right := _, fd_law_both_right := p30.choose, F_law_both_right := p30.choose_spec, b_law_both_right := p30.choose_spec.bindsN fun _ _ _ _ _ _ us hl => match us, hl with | [_, _], _ => rfl, g_law_both_right := He.glo_ok X G (c.1.fact 30 (f := .glo "_law_both_right") rfl),
    f_law_turned_right := _, fd_law_turned_right := p31.choose, F_law_turned_right := p31.choose_spec, b_law_turned_right := p31.choose_spec.bindsN fun _ _ _ _ _ _ us hl => match us, hl with | [_, _, _], _ => rfl, g_law_turned_right := He.glo_ok X G (c.1.fact 31 (f := .glo "_law_turned_right") rfl),
    f_law := _, fd_law := p32.choose, F_law := p32.choose_spec, b_law := p32.choose_spec.bindsN fun _ _ _ _ _ _ us hl => match us, hl with | [_], _ => rfl, g_law := He.glo_ok X G (c.1.fact 32 (f := .glo "law") rfl),
    n_len := He.free_ok X G (c.1.fact 33 (f := .free "len") rfl),
    n_sum := He.free_ok X G (c.1.fact 34 (f := .free "sum") rfl),
    n_max := He.free_ok X G (c.1.fact 35 (f := .free "max") rfl),
    n_min := He.free_ok X G (c.1.fact 36 (f := .free "min") rfl),
    n_int := He.free_ok X G (c.1.fact 37 (f := .free "int") rfl),
    n_bool := He.free_ok X G (c.1.fact 38 (f := .free "bool") rfl),
    n_list := He.free_ok X G (c.1.fact 39 (f := .free "list") rfl),
    n_str := He.free_ok X G (c.1.fact 40 (f := .free "str") rfl),
    n_range := He.free_ok X G (c.1.fact 41 (f := .free "range") rfl),
    n_isinstance := He.free_ok X G (c.1.fact 42 (f := .free "isinstance") rfl),
    n_sorted := He.free_ok X G (c.1.fact 43 (f := .free "sorted") rfl),
    n_set := He.free_ok X G (c.1.fact 44 (f := .free "set") rfl),
    t_MOST_WIDTH := q0.choose, m_MOST_WIDTH := q0.choose_spec }
end My

namespace My
open PySem PySem.Spec PyProof.Rows L2 Pre
section
variable {P : Program} {w : World} {K : PySem.W.Frag} {mg : Str → Option Value} {base : Heap}
/-! ### is_whole, is_between, of whole numbers -/
def sp_is_whole : Sp := fun vs H Q _ => ∃ i : Int, vs = [.int i] ∧ Q (.bl true) H
theorem G_is_whole (T : Top K mg) : FnOk P w K mg base CX0 1 T.f_is_whole T.fd_is_whole ["value"] sp_is_whole := by
  refine T.F_is_whole.ok sc_is_whole (fun vs H Q E h => by obtain ⟨i, rfl, _⟩ := h; rfl) (fun cdv A outer s H vs Q E hr h => ?_)
  obtain ⟨i, rfl, q⟩ := h
  refine ⟨_, PSs.nox (pss_one (ps_ret (pe_and (pe_callB (k_isi K rfl) (by rfl) T.n_isinstance (by decide +kernel) (pa_cons (pv 0) (pa_cons (pe_bltn (v := .ty "int") (by rfl) T.n_int (by decide +kernel) rfl) pa_nil))) (pe_one (pe_not (pe_callB (k_isi K rfl) (by rfl) T.n_isinstance (by decide +kernel) (pa_cons (pv 0) (pa_cons (pe_bltn (v := .ty "bool") (by rfl) T.n_bool (by decide +kernel) rfl) pa_nil)))))))), ?_⟩
  refine ⟨_, rfl, _, _, _, _, true, rfl, .ty _, .base (.int i), kit_ty (by decide +kernel), true, rfl, iteT ?_⟩
  exact ⟨_, rfl, _, _, _, _, false, rfl, .ty _, .base (.int i), kit_ty (by decide +kernel), false, rfl, q⟩
/-- value a whole number, low one, high None or one -/
def sp_is_between : Sp := fun vs H Q _ => ∃ (i lo : Int) (hi : Option Int), vs = [.int i, .int lo, (match hi with | some j => .int j | none => .non)] ∧ Q (.bl (decide (lo ≤ i ∧ ∀ j, hi = some j → i ≤ j))) H
theorem G_is_between (T : Top K mg) : FnOk P w K mg base CX0 2 T.f_is_between T.fd_is_between ["value", "low", "high"] sp_is_between := by
  refine T.F_is_between.ok sc_is_between (fun vs H Q E h => by obtain ⟨i, lo, hi, rfl, _⟩ := h; rfl) (fun cdv A outer s H vs Q E hr h => ?_)
  obtain ⟨i, lo, hi, rfl, q⟩ := h
  refine ⟨_, PSs.nox (pss_one (ps_ret (pe_and (pe_call (G_is_whole T) (hr.mono (by decide)) (by rfl) T.g_is_whole T.F_is_whole.kp T.b_is_whole .nil pass0 (pa_cons (pv 0) pa_nil)) (pe_and (pe_cmpR op_le (pv 1) (pv 0) (nomark _)) (pe_one (pe_or (pe_cmpR op_isN (pv 2) pe_non (nomark _)) (pe_one (pe_cmpR op_le (pv 0) (pv 2) (nomark _))))))))), ?_⟩
  refine ⟨_, rfl, i, rfl, true, rfl, iteT ?_⟩
  refine ⟨_, rfl, _, rfl, _, _, rfl, rfl, _, rfl, ite2 (fun e => ?_) (fun e => ?_)⟩
  · have e1 : lo ≤ i := of_decide_eq_true e
    cases hi with
    | none =>
      refine ⟨_, rfl, rfl, _, rfl, iteT ?_⟩
      rw [decide_eq_true ⟨e1, fun j h => nomatch h⟩] at q
      exact q
    | some j =>
      refine ⟨_, rfl, rfl, _, rfl, iteF ⟨_, rfl, _, rfl, _, _, rfl, rfl, ?_⟩⟩
      have e2 : decide (lo ≤ i ∧ ∀ j', some j = some j' → i ≤ j') = decide (i ≤ j) := by
        by_cases h : i ≤ j
        · rw [decide_eq_true h, decide_eq_true]
          exact ⟨e1, fun j' e => by cases e; exact h⟩
        · rw [decide_eq_false h, decide_eq_false]
          exact fun z => h (z.2 j rfl)
      rw [e2] at q
      exact q
  · have e1 : ¬ lo ≤ i := fun h => e (decide_eq_true h)
    rw [decide_eq_false fun z => e1 z.1] at q
    exact q
end
end My

namespace My
open PySem PySem.Spec PyProof.Rows L2 Pre
section
variable {P : Program} {w : World} {K : PySem.W.Frag} {mg : Str → Option Value} {base : Heap}
def sp_check_width : Sp := fun vs H Q _ => ∃ i : Int, vs = [.int i] ∧ 0 ≤ i ∧ i ≤ 120 ∧ Q .non H
theorem G_check_width (T : Top K mg) : FnOk P w K mg base CX0 3 T.f_check_width T.fd_check_width ["width"] sp_check_width := by
  refine T.F_check_width.ok sc_check_width (fun vs H Q E h => by obtain ⟨i, rfl, _⟩ := h; rfl) (fun cdv A outer s H vs Q E hr h => ?_)
  obtain ⟨i, rfl, h0, h1, q⟩ := h
  refine ⟨_, PSs.nox (pss_one (ps_if (pt_not (pt_val (pe_call (G_is_between T) (hr.mono (by decide)) (by rfl) T.g_is_between T.F_is_between.kp T.b_is_between .nil pass0 (pa_cons (pv 0) (pa_cons pe_int (pa_cons (pe_glob (v := .int 120) rfl T.m_MOST_WIDTH ⟨_, rfl⟩) pa_nil))))))
    (pss_one ps_never)
    pss_nil)), ?_⟩
  refine ⟨_, rfl, i, 0, some 120, rfl, _, rfl, ?_⟩
  rw [decide_eq_true ⟨h0, fun j h => by cases h; exact h1⟩]
  exact iteF q
end
end My

set_option exponentiation.threshold 100000
namespace My
open PySem PySem.Spec PyProof.Rows L2 Pre
section
variable {P : Program} {w : World} {K : PySem.W.Frag} {mg : Str → Option Value} {base : Heap}
/-! ### the law's draws -/
/-- a generator: its count is at most n -/
def GenAt (H : Hp) (g : Addr) (n : Nat) : Prop := ∃ x y z : Int, H g = some (.lst [.int x, .int y, .int z]) ∧ 0 ≤ z ∧ z ≤ (n : Int)
/-- all but one thing stand as they stood -/
def But (g : Addr) (H H' : Hp) : Prop := ∀ b o, b ≠ g → H b = some o → H' b = some o
theorem But.refl {g : Addr} {H : Hp} : But g H H := fun _ _ _ h => h
theorem But.trans {g : Addr} {H H1 H2 : Hp} (a : But g H H1) (b : But g H1 H2) : But g H H2 := fun c o n h => b c o n (a c o n h)
theorem But.same {g : Addr} {H H1 H2 : Hp} (a : But g H H1) (b : Same H1 H2) : But g H H2 := fun c o n h => b c o (a c o n h)
theorem But.of {g : Addr} {H H1 : Hp} (b : Same H H1) : But g H H1 := fun c o _ h => b c o h
theorem But.upd {g : Addr} {H H1 : Hp} {o : HO} (a : But g H H1) : But g H (upd H1 g o) := fun c u n h => by
  rw [upd_ne n]
  exact a c u n h
theorem But.free {g : Addr} {H H1 : Hp} (a : But g H H1) {p : Addr} (n : p ≠ g) (h : H1 p = none) : H p = none := by
  cases e : H p with
  | none => rfl
  | some o => rw [a p o n e] at h; cases h
/-- what is changed was not there at first -/
theorem But.fresh {g : Addr} {H H1 H2 : Hp} (s : Same H H1) (n : H g = none) (b : But g H1 H2) : Same H H2 := fun c o h => b c o (ne_of_none h n) (s c o h)
theorem GenAt.mono {H : Hp} {g : Addr} {n m : Nat} (h : GenAt H g n) (l : n ≤ m) : GenAt H g m := by
  obtain ⟨x, y, z, a, b, c⟩ := h
  exact ⟨x, y, z, a, b, by omega⟩
theorem GenAt.same {H H' : Hp} {g : Addr} {n : Nat} (h : GenAt H g n) (s : Same H H') : GenAt H' g n := by
  obtain ⟨x, y, z, a, b⟩ := h
  exact ⟨x, y, z, s _ _ a, b⟩
theorem GenAt.ne {H : Hp} {g : Addr} {n : Nat} {p : Addr} (h : GenAt H g n) (np : H p = none) : p ≠ g := by
  obtain ⟨x, y, z, a, _⟩ := h
  exact (ne_of_none a np).symm
theorem small_2900 {b : Int} (h : b ≤ 2 ^ 60) : b < 2 ^ 2900 := by omega
theorem pow_pos' (w : Nat) : (0 : Int) < 2 ^ w := Int.pow_pos (by decide)
theorem pow2_le {k m : Nat} (h : k ≤ m) : (2 : Int) ^ k ≤ 2 ^ m := by
  have e := Nat.pow_le_pow_right (show 0 < 2 by decide) h
  have e2 : ((2 ^ k : Nat) : Int) ≤ ((2 ^ m : Nat) : Int) := Int.ofNat_le.mpr e
  rw [Int.natCast_pow, Int.natCast_pow] at e2
  exact e2
def sp_law_cell (K : PySem.W.Frag) : Sp := fun vs H Q _ => ∃ (a : Addr) (ns : List Int) (i : Nat), vs = [.ref a, .int i] ∧ SqL K H a (ns.map V.int) ∧ ∀ (n : Int) H', Same H H' → Q (.int n) H'
theorem G_law_cell (T : Top K mg) : FnOk P w K mg base CX0 1 T.f_law_cell T.fd_law_cell ["_law_script", "_law_index"] (sp_law_cell K) := by
  refine T.F_law_cell.ok sc_law_cell (fun vs H Q E h => by obtain ⟨a, ns, i, rfl, _⟩ := h; rfl) (fun cdv A outer s H vs Q E hr h => ?_)
  obtain ⟨a, ns, i, rfl, hS, q⟩ := h
  refine ⟨_, PSs.nox (pss_cons (ps_if (pt_cmpR op_lt (pv 1) (pe_callB (k_len K rfl) (by rfl) T.n_len (by decide +kernel) (pa_cons (pv 0) pa_nil)) (nomark _))
    (pss_one (ps_ret (pe_ix (k_ixL K rfl) (pv 0) (pv 1) (fun _ _ => rfl))))
    pss_nil)
  (pss_one (ps_ret (pe_op op_mod (pe_callB (k_sum K rfl rfl) (by rfl) T.n_sum (by decide +kernel) (pa_cons (pe_slice (k_slL K rfl) (pv 0) po_none (po_some pe_int)) pa_nil)) pe_int)))), ?_⟩
  refine ⟨_, rfl, _, rfl, a, _, rfl, .inl hS, _, _, rfl, rfl, _, rfl, ite2 (fun e => ?_) (fun e => ?_)⟩
  · have e1 : (i : Int) < (((ns.map V.int).length : Nat) : Int) := of_decide_eq_true e
    rw [List.length_map] at e1
    have hi : i < ns.length := by omega
    refine ⟨_, rfl, _, rfl, a, _, _, .int ns[i], rfl, rfl, hS, atI_nat (by rw [List.getElem?_map, List.getElem?_eq_getElem hi]; rfl), ?_⟩
    exact q _ _ (Same.refl _)
  · refine ⟨_, rfl, _, rfl, a, _, rfl, hS, fun p np => ?_⟩
    have ec : ∃ ms : List Int, cutV (ns.map V.int) none (some 1) = ms.map V.int := by
      unfold cutV
      exact ⟨(ns.drop (HT.sIx (ns.map V.int).length 0 none)).take (HT.sIx (ns.map V.int).length (ns.map V.int).length (some 1) - HT.sIx (ns.map V.int).length 0 none), by rw [List.map_take, List.map_drop]⟩
    obtain ⟨ms, em⟩ := ec
    refine ⟨p, ms, rfl, .inl (.inl (by rw [upd_same, em])), _, _, rfl, rfl, (by show (0 : Int) < 1000003; decide), ?_⟩
    exact q _ _ (same_upd np)
theorem cmul_mod (x m j : Int) (h0 : 0 < m) (h1 : m ≤ 2 ^ 60) : CMul (x % m) j := by
  have a := Int.emod_nonneg x (show m ≠ 0 by omega)
  have b := Int.emod_lt_of_pos x h0
  exact .inl ⟨by omega, by omega⟩
def sp_law_hash : Sp := fun vs H Q _ => ∃ i j : Int, vs = [.int i, .int j] ∧ 0 ≤ j ∧ j < 2 ^ 60 ∧ ∀ n : Int, Q (.int n) H
theorem G_law_hash (T : Top K mg) : FnOk P w K mg base CX0 1 T.f_law_hash T.fd_law_hash ["_law_seed", "_law_index"] sp_law_hash := by
  refine T.F_law_hash.ok sc_law_hash (fun vs H Q E h => by obtain ⟨i, j, rfl, _⟩ := h; rfl) (fun cdv A outer s H vs Q E hr h => ?_)
  obtain ⟨i, j, rfl, h0, h1, q⟩ := h
  refine ⟨_, PSs.nox (pss_cons (ps_set (i := 2) sc_law_hash.nd rfl (by first | exact Or.inl rfl | exact Or.inr rfl) (pe_op op_mod (pe_callTy call_int1 (by rfl) T.n_int (by decide +kernel) (pa_cons (pe_op op_add (pe_op op_add (pe_op op_add (pe_op op_mul (pv 0) pe_int) (pe_op op_mul (pe_op op_mul pe_int (pv 1)) (pv 1))) (pe_op op_mul pe_int (pv 1))) pe_int) pa_nil)) pe_int))
  (pss_cons (ps_set (i := 2) sc_law_hash.nd rfl (by first | exact Or.inl rfl | exact Or.inr rfl) (pe_op op_mod (pe_callTy call_int1 (by rfl) T.n_int (by decide +kernel) (pa_cons (pe_op op_add (pe_op op_add (pe_op op_mul (pv 2) (pv 2)) (pe_op op_mul pe_int (pv 1))) pe_int) pa_nil)) pe_int))
  (pss_one (ps_ret (pe_op op_mod (pe_callTy call_int1 (by rfl) T.n_int (by decide +kernel) (pa_cons (pe_op op_mul (pv 2) pe_int) pa_nil)) pe_int))))), ?_⟩
  refine ⟨_, rfl, _, _, rfl, rfl, .inr ⟨by decide, by decide⟩, _, rfl, _, _, rfl, rfl, .inl ⟨by decide, by decide⟩, _, rfl, _, _, rfl, rfl, .inr ⟨by omega, by omega⟩, _, _, rfl, rfl, _, rfl, _, _, rfl, rfl, .inl ⟨by decide, by decide⟩, _, _, rfl, rfl, _, _, rfl, rfl,
    .inl ⟨_, rfl, _, _, rfl, rfl, (by show (0 : Int) < _; decide), ?_⟩⟩
  refine ⟨_, rfl, _, rfl, _, _, rfl, rfl, cmul_mod _ _ _ (by decide) (by decide), _, rfl, _, _, rfl, rfl, .inl ⟨by decide, by decide⟩, _, _, rfl, rfl, _, _, rfl, rfl, .inl ⟨_, rfl, _, _, rfl, rfl, (by show (0 : Int) < _; decide), ?_⟩⟩
  refine ⟨_, rfl, _, _, rfl, rfl, .inr ⟨by decide, by decide⟩, .inl ⟨_, rfl, _, _, rfl, rfl, (by show (0 : Int) < _; decide), ?_⟩⟩
  exact q _

def sp_law_generator (K : PySem.W.Frag) : Sp := fun vs H Q _ => ∃ (a : Addr) (ns : List Int) (i : Nat), vs = [.ref a, .int i] ∧ SqL K H a (ns.map V.int) ∧ ∀ H' g, Same H H' → H g = none → GenAt H' g (1000 * i) → Q (.ref g) H'
theorem G_law_generator (T : Top K mg) : FnOk P w K mg base CX0 2 T.f_law_generator T.fd_law_generator ["_law_script", "_law_index"] (sp_law_generator K) := by
  refine T.F_law_generator.ok sc_law_generator (fun vs H Q E h => by obtain ⟨a, ns, i, rfl, _⟩ := h; rfl) (fun cdv A outer s H vs Q E hr h => ?_)
  obtain ⟨a, ns, i, rfl, hS, q⟩ := h
  refine ⟨_, PSs.nox (pss_cons (ps_set (i := 2) sc_law_generator.nd rfl (by first | exact Or.inl rfl | exact Or.inr rfl) (pe_call (G_law_cell T) (hr.mono (by decide)) (by rfl) T.g_law_cell T.F_law_cell.kp T.b_law_cell .nil pass0 (pa_cons (pv 0) (pa_cons (pv 1) pa_nil))))
  (pss_one (ps_ret (pe_lst (pa_cons (pe_op op_mod (pe_callTy call_int1 (by rfl) T.n_int (by decide +kernel) (pa_cons (pe_callB (call_max2 rfl) (by rfl) T.n_max (by decide +kernel) (pa_cons (pe_op op_sub (pv 2) (pe_op op_powW pe_int pe_int)) (pa_cons pe_int pa_nil))) pa_nil)) (pe_op op_powW (pe_op op_powW pe_int pe_int) pe_int)) (pa_cons (pe_op op_mod (pe_callTy call_int1 (by rfl) T.n_int (by decide +kernel) (pa_cons (pv 2) pa_nil)) pe_int) (pa_cons (pe_op op_mul pe_int (pv 1)) pa_nil))))))), ?_⟩
  refine ⟨_, rfl, _, rfl, a, ns, i, rfl, hS, fun n H1 s1 => ?_⟩
  refine ⟨_, rfl, _, _, rfl, rfl, ⟨by decide, by decide +kernel⟩, _, _, rfl, rfl, _, _, rfl, .inl ⟨_, rfl, _, _, rfl, rfl, ⟨by decide, by decide +kernel⟩, _, _, rfl, rfl, ⟨by decide, by decide +kernel⟩, _, _, rfl, rfl, (by show (0 : Int) < _; decide +kernel), ?_⟩⟩
  refine ⟨_, rfl, .inl ⟨_, rfl, _, _, rfl, rfl, (by show (0 : Int) < _; decide), ?_⟩⟩
  refine ⟨_, rfl, _, _, rfl, rfl, .inl ⟨by decide, by decide⟩, (show 3 ≤ sizeLine by decide), fun g ng => ?_⟩
  exact q _ g (s1.trans (same_upd ng)) (s1.free ng) ⟨_, _, _, upd_same, by omega, by omega⟩
def sp_law_random : Sp := fun vs H Q _ => ∃ (g : Addr) (b : Int) (n : Nat), vs = [.ref g, .int b] ∧ GenAt H g n ∧ n ≤ 10 ^ 12 ∧ 0 < b ∧ b < 2 ^ 2900 ∧ ∀ (d : Int) H', 0 ≤ d → d < b → GenAt H' g (n + 100) → But g H H' → Q (.int d) H'
theorem G_law_random (T : Top K mg) : FnOk P w K mg base CX0 2 T.f_law_random T.fd_law_random ["_law_generator_here", "_law_bound"] sp_law_random := by
  refine T.F_law_random.ok sc_law_random (fun vs H Q E h => by obtain ⟨g, b, n, rfl, _⟩ := h; rfl) (fun cdv A outer s H vs Q E hr h => ?_)
  obtain ⟨g, b, n, rfl, ⟨x, y, z, hg, z0, z1⟩, hn, b0, b1, q⟩ := h
  refine ⟨_, PSs.nox (pss_cons (ps_if (pt_cmpR op_gt (pe_ix (k_ixL K rfl) (pv 0) pe_int (fun _ _ => rfl)) pe_int (nomark _))
    (pss_cons (ps_set (i := 2) sc_law_random.nd rfl (by first | exact Or.inl rfl | exact Or.inr rfl) (pe_op op_mod (pe_callTy call_int1 (by rfl) T.n_int (by decide +kernel) (pa_cons (pe_ix (k_ixL K rfl) (pv 0) pe_int (fun _ _ => rfl)) pa_nil)) (pv 1)))
  (pss_cons (ps_asg (pe_op op_fdivW (pe_ix (k_ixL K rfl) (pv 0) pe_int (fun _ _ => rfl)) (pv 1)) (pg_sub (pv 0) pe_int set_list))
  (pss_one (ps_ret (pv 2)))))
    pss_nil)
  (pss_cons (ps_set (i := 2) sc_law_random.nd rfl (by first | exact Or.inl rfl | exact Or.inr rfl) pe_int)
  (pss_cons (ps_for PassesOwn.never rfl (pi_range1 (by rfl) T.n_range (pa_cons (pe_op op_add pe_int (pe_op op_fdivW (pe_bits (pv 1)) pe_int)) pa_nil)) (pg_name (i := 3) sc_law_random.nd rfl (by first | exact Or.inl rfl | exact Or.inr rfl))
    (pss_cons (ps_asg (pe_op op_add (pe_ix (k_ixL K rfl) (pv 0) pe_int (fun _ _ => rfl)) pe_int) (pg_sub (pv 0) pe_int set_list))
  (pss_one (ps_set (i := 2) sc_law_random.nd rfl (by first | exact Or.inl rfl | exact Or.inr rfl) (pe_op op_add (pe_op op_mul (pv 2) pe_int) (pe_call (G_law_hash T) (hr.mono (by decide)) (by rfl) T.g_law_hash T.F_law_hash.kp T.b_law_hash .nil pass0 (pa_cons (pe_ix (k_ixL K rfl) (pv 0) pe_int (fun _ _ => rfl)) (pa_cons (pe_ix (k_ixL K rfl) (pv 0) pe_int (fun _ _ => rfl)) pa_nil))))))))
  (pss_one (ps_ret (pe_op op_mod (pe_callTy call_int1 (by rfl) T.n_int (by decide +kernel) (pa_cons (pv 2) pa_nil)) (pv 1))))))), ?_⟩
  have a0 : ∀ x y z : Int, atI [V.int x, .int y, .int z] 0 = some (.int x) := fun _ _ _ => rfl
  have a1 : ∀ x y z : Int, atI [V.int x, .int y, .int z] 1 = some (.int y) := fun _ _ _ => rfl
  have a2 : ∀ x y z : Int, atI [V.int x, .int y, .int z] 2 = some (.int z) := fun _ _ _ => rfl
  have hS : SqL K H g [.int x, .int y, .int z] := .inl (.inl hg)
  have nb : b.natAbs < 2 ^ 2900 := by
    have e : ((b.natAbs : Nat) : Int) < ((2 ^ 2900 : Nat) : Int) := by
      rw [Int.natCast_pow]
      omega
    exact Int.ofNat_lt.mp e
  refine ⟨_, rfl, g, _, 0, _, rfl, rfl, hS, a0 x y z, _, _, rfl, rfl, _, rfl, ite2 (fun e => ?_) (fun e => ?_)⟩
  · refine ⟨_, rfl, g, _, 0, _, rfl, rfl, hS, a0 x y z, .inl ⟨_, rfl, _, rfl, _, _, rfl, rfl, b0, ?_⟩⟩
    refine ⟨_, rfl, g, _, 0, _, rfl, rfl, hS, a0 x y z, _, rfl, _, _, rfl, rfl, wide_div b0 nb (by decide) (by decide), _, rfl, g, _, 0, 0, rfl, rfl, hg, rfl, _, rfl, ?_⟩
    exact q _ _ (Int.emod_nonneg _ (by omega)) (Int.emod_lt_of_pos _ b0) ⟨_, _, _, upd_same, z0, by omega⟩ (But.upd But.refl)
  · have hb : Builtin.Int.intBits b ≤ 2900 := PyProof.Rows.intBits_le nb
    have hq0 : (0 : Int) ≤ ((Builtin.Int.intBits b : Nat) : Int) / 30 := Int.ediv_nonneg (Int.natCast_nonneg _) (by decide)
    have hq1 : ((Builtin.Int.intBits b : Nat) : Int) / 30 ≤ 97 := by omega
    refine ⟨_, rfl, _, rfl, _, _, rfl, rfl, ⟨by decide, by decide +kernel⟩, _, _, rfl, rfl, _, rfl, by omega, by omega, ?_⟩
    refine for_range (lo := 0) (n := (1 + ((Builtin.Int.intBits b : Nat) : Int) / 30).toNat) (fun i σ H1 => ∃ (d z' : Int) (v : Option V), σ = [some (.ref g), some (.int b), some (.int d), v] ∧ H1 g = some (.lst [.int x, .int y, .int z']) ∧ 0 ≤ z' ∧ z' ≤ (n : Int) + (i : Int) ∧ But g H H1)
      ⟨0, z, none, rfl, hg, z0, by omega, But.refl⟩ ?_ ?_
    · rintro i σ H1 hi ⟨d, z', v, rfl, hg1, y0, y1, b1⟩
      have hS1 : SqL K H1 g [.int x, .int y, .int z'] := .inl (.inl hg1)
      refine ⟨_, rfl, g, _, 2, _, rfl, rfl, hS1, a2 x y z', _, _, rfl, rfl, _, rfl, g, _, 2, 2, rfl, rfl, hg1, rfl, ?_⟩
      have hS2 : SqL K (upd H1 g (.lst [.int x, .int y, .int (z' + 1)])) g [.int x, .int y, .int (z' + 1)] := .inl (.inl upd_same)
      refine ⟨_, rfl, _, _, rfl, rfl, .inr ⟨by decide, by decide⟩, _, rfl, g, _, 1, _, rfl, rfl, hS2, a1 _ _ _, _, rfl, g, _, 2, _, rfl, rfl, hS2, a2 _ _ _, _, _, rfl, by omega, by omega, fun r => ?_⟩
      exact ⟨_, _, rfl, rfl, _, z' + 1, _, rfl, upd_same, by omega, by omega, But.upd b1⟩
    · rintro σ H1 ⟨d, z', v, rfl, hg1, y0, y1, b1⟩
      refine ⟨_, rfl, .inl ⟨_, rfl, _, rfl, _, _, rfl, rfl, b0, ?_⟩⟩
      exact q _ _ (Int.emod_nonneg _ (by omega)) (Int.emod_lt_of_pos _ b0) ⟨_, _, _, hg1, y0, by omega⟩ b1
/-- a comprehension over a range that draws whole numbers -/
theorem lc_drawR {lo : Int} {n : Nat} {j : Nat} {te : TE} {vs : List Nat} {σ : L2.St} {H1 : Hp} {D : Addr} {Qd : Hp → Prop} (g : Addr) (m step : Nat) (P : Int → Prop) (nD : H1 D = none) (hG : GenAt H1 g m) (hz : n < sizeLine)
    (hw : ∀ x, wipe ((wipe σ vs).set j (some x)) vs = wipe σ vs)
    (hs : ∀ (i : Nat) (H' : Hp), i < n → But g H1 H' → GenAt H' g (m + step * i) → ∀ Qt : V → Hp → Prop, (∀ (y : Int) H'', P y → But g H' H'' → GenAt H'' g (m + step * (i + 1)) → Qt (.int y) H'') → te ((wipe σ vs).set j (some (.int (lo + (i : Int))))) H' Qt)
    (hd : ∀ H' (ys : List Int), But g H1 H' → GenAt H' g (m + step * n) → H' D = some (.lst (ys.map V.int)) → ys.length = n → (∀ y ∈ ys, P y) → Qd H') :
    ∃ W : Nat → Nat → Hp → Prop, (∃ m, W 0 m (upd H1 D (.lst []))) ∧ ∀ i m H, W i m H →
      ((Itr lo n).stop i H ∧ Qd H) ∨ ((Itr lo n).go i H ∧ ∃ Nx : Hp → Prop, (∀ H', Nx H' → ∃ m', m' < m ∧ W (i + 1) m' H') ∧ ∀ x H', (Itr lo n).yld i H x H' → gName j x (wipe σ vs) H' fun σ2 H2 => wipe σ2 vs = wipe σ vs ∧ tYes σ2 H2 fun b H3 =>
        if b = true then te σ2 H3 fun y H4 => ∃ acc, H4 D = some (.lst acc) ∧ acc.length < sizeLine ∧ Nx (upd H4 D (.lst (acc ++ [y]))) else Nx H3) := by
  have nDg : D ≠ g := hG.ne nD
  refine lc_range (lo := lo) (n := n) (fun i H => ∃ ys : List Int, But g H1 H ∧ GenAt H g (m + step * i) ∧ H D = some (.lst (ys.map V.int)) ∧ ys.length = i ∧ ∀ y ∈ ys, P y)
    ⟨[], But.of (same_upd nD), hG.same (same_upd nD), upd_same, rfl, (fun _ h => nomatch h)⟩ ?_ ?_
  · rintro i H hi ⟨ys, b, hg, hD, hl, hP⟩
    refine ⟨hw _, ?_⟩
    unfold tYes
    dsimp only
    rw [if_pos (show true = true from rfl)]
    refine hs i H hi b hg _ fun y H2 py b2 hg2 => ?_
    refine ⟨_, b2 _ _ nDg hD, by rw [List.length_map]; omega, ys ++ [y], ?_, ?_, ?_, ?_, ?_⟩
    · intro c o nc hc
      rw [upd_ne (ne_of_none hc nD)]
      exact b2 _ _ nc (b _ _ nc hc)
    · obtain ⟨x1, x2, x3, e1, e2⟩ := hg2
      exact ⟨x1, x2, x3, by rw [upd_ne nDg.symm]; exact e1, e2⟩
    · rw [upd_same, List.map_append]
      rfl
    · rw [List.length_append, hl]
      rfl
    · intro z hz
      rcases List.mem_append.mp hz with hz | hz
      · exact hP z hz
      · rw [List.mem_singleton.mp hz]
        exact py
  · rintro H ⟨ys, b, hg, hD, hl, hP⟩
    exact hd H ys b hg hD hl hP
end
end My

namespace My
open PySem PySem.Spec PyProof.Rows L2 Pre
/-- a comprehension over a list that makes new things: R tells what is known of the i-th -/
theorem lc_relL {K : PySem.W.Frag} {a : Addr} {xs : List V} {j : Nat} {te : TE} {vs : List Nat} {σ : L2.St} {H1 : Hp} {D : Addr} {Qd : Hp → Prop} (R : Nat → V → Hp → Prop) (nD : H1 D = none) (hS : SqL K H1 a xs) (hz : xs.length < sizeLine)
    (mono : ∀ (i : Nat) (y : V) (H H' : Hp), Pre.Off D H H' → R i y H → R i y H') (hw : ∀ x, wipe ((wipe σ vs).set j (some x)) vs = wipe σ vs)
    (hs : ∀ (i : Nat) (x : V) (H' : Hp) (zs : List V), xs[i]? = some x → Same H1 H' → H' D = some (.lst zs) → ∀ Qt : V → Hp → Prop, (∀ y H'', Same H' H'' → R i y H'' → Qt y H'') → te ((wipe σ vs).set j (some x)) H' Qt)
    (hd : ∀ H' ys, Same H1 H' → H' D = some (.lst ys) → ys.length = xs.length → (∀ (i : Nat) (y : V), ys[i]? = some y → R i y H') → Qd H') :
    ∃ W : Nat → Nat → Hp → Prop, (∃ m, W 0 m (upd H1 D (.lst []))) ∧ ∀ i m H, W i m H →
      ((Itl K a).stop i H ∧ Qd H) ∨ ((Itl K a).go i H ∧ ∃ Nx : Hp → Prop, (∀ H', Nx H' → ∃ m', m' < m ∧ W (i + 1) m' H') ∧ ∀ x H', (Itl K a).yld i H x H' → gName j x (wipe σ vs) H' fun σ2 H2 => wipe σ2 vs = wipe σ vs ∧ tYes σ2 H2 fun b H3 =>
        if b = true then te σ2 H3 fun y H4 => ∃ acc, H4 D = some (.lst acc) ∧ acc.length < sizeLine ∧ Nx (upd H4 D (.lst (acc ++ [y]))) else Nx H3) := by
  refine lc_list (K := K) (a := a) (xs := xs) (RelPv R H1 D) ⟨[], same_upd nD, upd_same, rfl, fun k y h => by simp at h⟩ (fun i H _ ⟨_, s, _⟩ => s.seq hS) ?_ ?_
  · rintro i x H hx ⟨ys, s, hD, hl, hR⟩
    have hi : i < xs.length := (List.getElem?_eq_some_iff.mp hx).1
    refine ⟨hw _, ?_⟩
    unfold tYes
    dsimp only
    rw [if_pos (show true = true from rfl)]
    refine hs i x H ys hx s hD _ fun y H4 s4 r4 => ?_
    refine ⟨ys, s4 _ _ hD, by omega, ys ++ [y], same_over nD (s.trans s4), upd_same, by rw [List.length_append, hl]; rfl, fun k z hz => ?_⟩
    have off : Pre.Off D H4 (upd H4 D (.lst (ys ++ [y]))) := fun b o nb h => by rw [upd_ne nb]; exact h
    by_cases hk : k < ys.length
    · rw [List.getElem?_append_left hk] at hz
      exact mono k z H _ (fun b o nb h => off b o nb (s4 b o h)) (hR k z hz)
    · rw [List.getElem?_append_right (by omega)] at hz
      have hk2 : k - ys.length = 0 := by
        have h2 := (List.getElem?_eq_some_iff.mp hz).1
        rw [List.length_singleton] at h2
        omega
      rw [hk2] at hz
      cases hz
      have ek : k = i := by omega
      rw [ek]
      exact mono i y H4 _ off r4
  · rintro H ⟨ys, s, hD, hl, hR⟩
    exact hd H ys s hD hl hR
/-- a list of lists of whole numbers -/
def RowsIn (H : Hp) (p : Addr) (rows : List (List Int)) : Prop := ∃ as : List Addr, H p = some (.lst (as.map V.ref)) ∧ as.length = rows.length ∧ ∀ (i : Nat) (a : Addr) (r : List Int), as[i]? = some a → rows[i]? = some r → H a = some (.lst (r.map V.int))
theorem RowsIn.same {H H' : Hp} {p : Addr} {rows : List (List Int)} (h : RowsIn H p rows) (s : Same H H') : RowsIn H' p rows := by
  obtain ⟨as, h1, h2, h3⟩ := h
  exact ⟨as, s _ _ h1, h2, fun i a r ha hr => s _ _ (h3 i a r ha hr)⟩
section
variable {X : Cx}
theorem huD {k : Nat} {A : Around} (r : Room k A) : A.units + 65 < cLine := by have := r.un; omega
theorem k_inD (K : PySem.W.Frag) (h : X.K = K) (hu : X.A.units + 65 < cLine) : OpR X (compareOp .In) (rInD K) := by subst h; exact op_inD hu
theorem k_notInD (K : PySem.W.Frag) (h : X.K = K) (hu : X.A.units + 65 < cLine) : OpR X (compareOp .NotIn) (rNotInD K) := by subst h; exact op_notInD hu
theorem k_indexD (K : PySem.W.Frag) (h : X.K = K) (hu : X.A.units + 65 < cLine) : MtR X "list.index" (rIndexD K) := by subst h; exact mt_indexD hu
end
/-- rows as data -/
def rowD (r : List Int) : PyData := .list (r.map PyData.int)
theorem rows_dp {K : PySem.W.Frag} {H : Hp} : ∀ {as : List Addr} {rows : List (List Int)}, as.length = rows.length → (∀ (i : Nat) (a : Addr) (r : List Int), as[i]? = some a → rows[i]? = some r → H a = some (.lst (r.map V.int))) → DpAll K H (as.map V.ref) (rows.map rowD)
  | [], [], _, _ => .nil
  | [], _ :: _, h, _ => by simp at h
  | _ :: _, [], h, _ => by simp at h
  | a :: as, r :: rows, h, k => .cons (.lst (.inl (.inl (k 0 a r rfl rfl))) (Pre.dp_ints r)) (rows_dp (by simpa using h) fun i t q ht hq => k (i + 1) t q (by simpa using ht) (by simpa using hq))
theorem rowD_eqv (r q : List Int) : PyData.eqv (rowD r) (rowD q) = decide (r = q) := by
  unfold rowD
  rw [PyData.eqv, eqv_ints]
theorem rows_shaped (rows : List (List Int)) : SeqAt.shaped (.list (rows.map rowD)) = true := by
  have h1 : ∀ l : List (List Int), PyData.canLayAll0 (l.map rowD) = true := fun l => by
    induction l with
    | nil => rfl
    | cons r l ih =>
      show (PyData.canLay0 (rowD r) && PyData.canLayAll0 (l.map rowD)) = true
      rw [ih]
      unfold rowD
      rw [PyData.canLay0, lay_ints]
      rfl
  have h2 : ∀ l : List (List Int), PyData.depthAll (l.map rowD) ≤ 1 := fun l => by
    induction l with
    | nil => simp [PyData.depthAll]
    | cons r l ih =>
      show PyData.depthAll (rowD r :: l.map rowD) ≤ 1
      rw [PyData.depthAll]
      unfold rowD at *
      rw [PyData.depth, depth_ints]
      omega
  show (PyData.canLay0 (.list (rows.map rowD)) && decide (PyData.depth (.list (rows.map rowD)) ≤ 64)) = true
  rw [Bool.and_eq_true]
  have := h2 rows
  exact ⟨by rw [PyData.canLay0]; exact h1 rows, decide_eq_true (by rw [PyData.depth]; omega)⟩
end My

namespace My
open PySem PySem.Spec PyProof.Rows L2 Pre
/-! ### min and max of a list of pairs of whole numbers -/
def pairD (p : Int × Int) : PyData := .tuple [.int p.1, .int p.2]
def ltP2 (p q : Int × Int) : Prop := p.1 < q.1 ∨ (p.1 = q.1 ∧ p.2 < q.2)
instance (p q : Int × Int) : Decidable (ltP2 p q) := by unfold ltP2; infer_instance
theorem pair_lt (p q : Int × Int) : PySem.W.dataLt (pairD p) (pairD q) = decide (ltP2 p q) := PySem.W.dataLt_ii p.1 p.2 q.1 q.2
theorem ltP2_trans {p q r : Int × Int} (h : ¬ ltP2 q p) (k : ¬ ltP2 r q) : ¬ ltP2 r p := by
  unfold ltP2 at *
  omega
def minP (p : Int × Int) (ps : List (Int × Int)) : Int × Int := ps.foldl (fun a y => if ltP2 y a then y else a) p
def maxP (p : Int × Int) (ps : List (Int × Int)) : Int × Int := ps.foldl (fun a y => if ltP2 a y then y else a) p
theorem minP_data : ∀ (ps : List (Int × Int)) (p : Int × Int), PySem.W.minD (pairD p) (ps.map pairD) = pairD (minP p ps)
  | [], _ => rfl
  | q :: ps, p => by
    show PySem.W.minD (if PySem.W.dataLt (pairD q) (pairD p) = true then pairD q else pairD p) (ps.map pairD) = pairD (minP (if ltP2 q p then q else p) ps)
    rw [pair_lt]
    by_cases h : ltP2 q p
    · rw [decide_eq_true h, if_pos rfl, if_pos h, minP_data ps q]
    · rw [decide_eq_false h, if_neg (by decide), if_neg h, minP_data ps p]
theorem maxP_data : ∀ (ps : List (Int × Int)) (p : Int × Int), PySem.W.maxD (pairD p) (ps.map pairD) = pairD (maxP p ps)
  | [], _ => rfl
  | q :: ps, p => by
    show PySem.W.maxD (if PySem.W.dataLt (pairD p) (pairD q) = true then pairD q else pairD p) (ps.map pairD) = pairD (maxP (if ltP2 p q then q else p) ps)
    rw [pair_lt]
    by_cases h : ltP2 p q
    · rw [decide_eq_true h, if_pos rfl, if_pos h, maxP_data ps q]
    · rw [decide_eq_false h, if_neg (by decide), if_neg h, maxP_data ps p]
theorem minP_spec : ∀ (ps : List (Int × Int)) (p : Int × Int), minP p ps ∈ p :: ps ∧ ∀ q ∈ p :: ps, ¬ ltP2 q (minP p ps)
  | [], p => ⟨List.mem_cons_self, fun q hq => by
      rw [List.mem_singleton.mp hq]
      show ¬ ltP2 p p
      unfold ltP2
      omega⟩
  | r :: ps, p => by
    show minP (if ltP2 r p then r else p) ps ∈ _ ∧ ∀ q ∈ p :: r :: ps, ¬ ltP2 q (minP (if ltP2 r p then r else p) ps)
    by_cases h : ltP2 r p
    · rw [if_pos h]
      obtain ⟨h1, h2⟩ := minP_spec ps r
      refine ⟨List.mem_cons_of_mem _ h1, fun q hq => ?_⟩
      rcases List.mem_cons.mp hq with rfl | hq
      · have := h2 r List.mem_cons_self
        exact fun z => this (by unfold ltP2 at *; omega)
      · exact h2 q hq
    · rw [if_neg h]
      obtain ⟨h1, h2⟩ := minP_spec ps p
      refine ⟨?_, fun q hq => ?_⟩
      · rcases List.mem_cons.mp h1 with e | e
        · rw [e]; exact List.mem_cons_self
        · exact List.mem_cons_of_mem _ (List.mem_cons_of_mem _ e)
      · rcases List.mem_cons.mp hq with rfl | hq
        · exact h2 q List.mem_cons_self
        · rcases List.mem_cons.mp hq with rfl | hq
          · have := h2 p List.mem_cons_self
            exact fun z => this (by unfold ltP2 at *; omega)
          · exact h2 q (List.mem_cons_of_mem _ hq)
theorem maxP_spec : ∀ (ps : List (Int × Int)) (p : Int × Int), maxP p ps ∈ p :: ps ∧ ∀ q ∈ p :: ps, ¬ ltP2 (maxP p ps) q
  | [], p => ⟨List.mem_cons_self, fun q hq => by
      rw [List.mem_singleton.mp hq]
      show ¬ ltP2 p p
      unfold ltP2
      omega⟩
  | r :: ps, p => by
    show maxP (if ltP2 p r then r else p) ps ∈ _ ∧ ∀ q ∈ p :: r :: ps, ¬ ltP2 (maxP (if ltP2 p r then r else p) ps) q
    by_cases h : ltP2 p r
    · rw [if_pos h]
      obtain ⟨h1, h2⟩ := maxP_spec ps r
      refine ⟨List.mem_cons_of_mem _ h1, fun q hq => ?_⟩
      rcases List.mem_cons.mp hq with rfl | hq
      · have := h2 r List.mem_cons_self
        exact fun z => this (by unfold ltP2 at *; omega)
      · exact h2 q hq
    · rw [if_neg h]
      obtain ⟨h1, h2⟩ := maxP_spec ps p
      refine ⟨?_, fun q hq => ?_⟩
      · rcases List.mem_cons.mp h1 with e | e
        · rw [e]; exact List.mem_cons_self
        · exact List.mem_cons_of_mem _ (List.mem_cons_of_mem _ e)
      · rcases List.mem_cons.mp hq with rfl | hq
        · exact h2 q List.mem_cons_self
        · rcases List.mem_cons.mp hq with rfl | hq
          · have := h2 p List.mem_cons_self
            exact fun z => this (by unfold ltP2 at *; omega)
          · exact h2 q (List.mem_cons_of_mem _ hq)
theorem pairs_alike (ps : List (Int × Int)) : PySem.W.AlikeAll (ps.map pairD) := by
  refine ⟨fun x hx y hy => ?_, fun x hx => ?_⟩
  · obtain ⟨p, _, rfl⟩ := List.mem_map.mp hx
    obtain ⟨q, _, rfl⟩ := List.mem_map.mp hy
    rfl
  · obtain ⟨p, _, rfl⟩ := List.mem_map.mp hx
    exact fun z => nomatch z
theorem pairs_lay : ∀ ps : List (Int × Int), PyData.canLayAll0 (ps.map pairD) = true
  | [] => rfl
  | p :: ps => by simp [PyData.canLayAll0, PyData.canLay0, pairD, pairs_lay ps]
theorem pairs_depth : ∀ ps : List (Int × Int), PyData.depthAll (ps.map pairD) ≤ 2
  | [] => by simp [PyData.depthAll]
  | p :: ps => by
    have := pairs_depth ps
    simp only [List.map_cons, PyData.depthAll, pairD, PyData.depth]
    omega
/-- a list of pairs, at a -/
def PairsAt (K : PySem.W.Frag) (H : Hp) (a : Addr) (ps : List (Int × Int)) : Prop := ∃ as : List Addr, SqL K H a (as.map V.ref) ∧ as.length = ps.length ∧ ∀ (i : Nat) (t : Addr) (p : Int × Int), as[i]? = some t → ps[i]? = some p → SqT K H t [.int p.1, .int p.2]
theorem pairs_dp {K : PySem.W.Frag} {H : Hp} : ∀ {as : List Addr} {ps : List (Int × Int)}, as.length = ps.length → (∀ (i : Nat) (t : Addr) (p : Int × Int), as[i]? = some t → ps[i]? = some p → SqT K H t [.int p.1, .int p.2]) → DpAll K H (as.map V.ref) (ps.map pairD)
  | [], [], _, _ => .nil
  | [], _ :: _, h, _ => by simp at h
  | _ :: _, [], h, _ => by simp at h
  | a :: as, p :: ps, h, k => .cons (.tup (k 0 a p rfl rfl) (.cons (.int _) (.cons (.int _) .nil))) (pairs_dp (by simpa using h) fun i t q ht hq => k (i + 1) t q (by simpa using ht) (by simpa using hq))
def rMnP (K : PySem.W.Frag) (best : Int × Int → List (Int × Int) → Int × Int) : List V → Hp → VK → Prop := fun xs H Q => ∃ (a : Addr) (p : Int × Int) (ps : List (Int × Int)), xs = [.ref a] ∧ PairsAt K H a (p :: ps) ∧ ∀ t, SqT K H t [.int (best p ps).1, .int (best p ps).2] → Q (.ref t) H
section
variable {X : Cx} {K : PySem.W.Frag}
theorem pick {H : Hp} {s : Shared} {as : List Addr} {ps : List (Int × Int)} {its : List Value} {i : Nat} {v : Value} {h' : Heap} {bs cs : List Addr} {b : Int × Int} (hl : as.length = ps.length)
    (hT : ∀ (i : Nat) (t : Addr) (p : Int × Int), as[i]? = some t → ps[i]? = some p → SqT K H t [.int p.1, .int p.2]) (rv : Vals (as.map V.ref) its) (hr : ReadsAll s.heap its (ps.map pairD) cs) (hv : its.toArray[i]? = some v) (rd : Reads h' v (pairD b) bs)
    (hk : ∀ b o, s.heap.get? b = some o → h'.get? b = some o) : ∃ t, v = .ref t ∧ SqT K H t [.int b.1, .int b.2] := by
  have hv' : its[i]? = some v := by simpa using hv
  have hil : i < its.length := (List.getElem?_eq_some_iff.mp hv').1
  have hvl := rv.length
  rw [List.length_map] at hvl
  obtain ⟨u, hu, ru⟩ := rv.get (show (as.map V.ref)[i]? = some (.ref (as[i]'(by omega))) by rw [List.getElem?_map, List.getElem?_eq_getElem (by omega)]; rfl)
  rw [hv'] at hu
  cases hu
  have hp : ps[i]? = some (ps[i]'(by omega)) := List.getElem?_eq_getElem (by omega)
  obtain ⟨ds, r1, _, _, _⟩ := PySem.W.readsAll_at hr i v hv'
  have e1 : (ps.map pairD).getD i .none = pairD (ps[i]'(by omega)) := by
    rw [List.getD_eq_getElem?_getD, List.getElem?_map, hp]
    rfl
  rw [e1] at r1
  have e2 := PySem.SeqAt.Reads.unique (pairD b) _ v _ _ (by simp [pairD, PyData.canLay0, PyData.canLayAll0]) rd (Reads.keeps hk r1)
  have e3 : b = ps[i]'(by omega) := by
    unfold pairD at e2
    injection e2 with e2
    injection e2 with e4 e5
    injection e5 with e5 _
    injection e4 with e4
    injection e5 with e5
    exact Prod.ext e4 e5
  refine ⟨as[i]'(by omega), ru, ?_⟩
  rw [e3]
  exact hT i _ _ (List.getElem?_eq_getElem (by omega)) hp
theorem k_minP (K : PySem.W.Frag) (h : X.K = K) (hc : X.calm = true) (hu : X.A.units + 65 < cLine) : CallR X (.builtin "min") (rMnP K minP) := by
  subst h
  intro pins s σ H xs us Q I r h
  obtain ⟨a, p, ps, rfl, ⟨as, hS, hl, hT⟩, q⟩ := h
  obtain ⟨its, rv, hL, _⟩ := I.list hS
  rw [Vals.ref1 r]
  obtain ⟨cs, hr⟩ := Dp.readsAll I _ _ its (pairs_dp hl hT) rv
  have hd := pairs_depth (p :: ps)
  refine PySem.W.min_list_data (I.ok.hd hc) hL.isList (show ReadsAll s.heap its.toArray.toList (pairD p :: ps.map pairD) cs by simpa using hr) (pairs_alike (p :: ps)) (by rw [List.map_cons] at hd; omega) fun i v h' tk bs hv rd hk => ?_
  rw [minP_data] at rd
  obtain ⟨t, rfl, ht⟩ := pick hl hT rv hr hv rd hk
  exact ⟨.ref t, H, I.kept hk, rfl, q t ht⟩
theorem k_maxP (K : PySem.W.Frag) (h : X.K = K) (hc : X.calm = true) (hu : X.A.units + 65 < cLine) : CallR X (.builtin "max") (rMnP K maxP) := by
  subst h
  intro pins s σ H xs us Q I r h
  obtain ⟨a, p, ps, rfl, ⟨as, hS, hl, hT⟩, q⟩ := h
  obtain ⟨its, rv, hL, _⟩ := I.list hS
  rw [Vals.ref1 r]
  obtain ⟨cs, hr⟩ := Dp.readsAll I _ _ its (pairs_dp hl hT) rv
  have hd := pairs_depth (p :: ps)
  refine PySem.W.max_list_data (I.ok.hd hc) hL.isList (show ReadsAll s.heap its.toArray.toList (pairD p :: ps.map pairD) cs by simpa using hr) (pairs_alike (p :: ps)) (by rw [List.map_cons] at hd; omega) fun i v h' tk bs hv rd hk => ?_
  rw [maxP_data] at rd
  obtain ⟨t, rfl, ht⟩ := pick hl hT rv hr hv rd hk
  exact ⟨.ref t, H, I.kept hk, rfl, q t ht⟩
theorem huM {k : Nat} {A : Around} (r : Room k A) : A.units + 65 < cLine := by have := r.un; omega
end
end My

namespace My
open PySem PySem.Spec PyProof.Rows L2 Pre
/-! ### data in a heap: what is told of a value by lists and tuples that stand there (none of them frozen) -/
mutual
inductive Dt (H : Hp) : V → PyData → Prop
  | non : Dt H .non .none
  | bl (b : Bool) : Dt H (.bl b) (.bool b)
  | int (n : Int) : Dt H (.int n) (.int n)
  | str (x : Str) : Dt H (.str x) (.str x)
  | lst {a : Addr} {xs : List V} {ds : List PyData} : H a = some (.lst xs) → DtA H xs ds → Dt H (.ref a) (.list ds)
  | tup {a : Addr} {xs : List V} {ds : List PyData} : H a = some (.tup xs) → DtA H xs ds → Dt H (.ref a) (.tuple ds)
inductive DtA (H : Hp) : List V → List PyData → Prop
  | nil : DtA H [] []
  | cons {v : V} {vs : List V} {d : PyData} {ds : List PyData} : Dt H v d → DtA H vs ds → DtA H (v :: vs) (d :: ds)
end
mutual
theorem Dt.same {H H' : Hp} (s : Same H H') : ∀ {d : PyData} {v : V}, Dt H v d → Dt H' v d
  | .none, _, h => by cases h; exact .non
  | .bool _, _, h => by cases h; exact .bl _
  | .int _, _, h => by cases h; exact .int _
  | .str _, _, h => by cases h; exact .str _
  | .list _, _, h => by cases h with | lst a b => exact .lst (s _ _ a) (DtA.same s b)
  | .tuple _, _, h => by cases h with | tup a b => exact .tup (s _ _ a) (DtA.same s b)
  | .dict _, _, h => nomatch h
theorem DtA.same {H H' : Hp} (s : Same H H') : ∀ {ds : List PyData} {vs : List V}, DtA H vs ds → DtA H' vs ds
  | [], _, h => by cases h; exact .nil
  | _ :: _, _, h => by cases h with | cons a b => exact .cons (Dt.same s a) (DtA.same s b)
end
mutual
theorem Dt.dp {K : PySem.W.Frag} {H : Hp} : ∀ {d : PyData} {v : V}, Dt H v d → Dp K H v d
  | .none, _, h => by cases h; exact .non
  | .bool _, _, h => by cases h; exact .bl _
  | .int _, _, h => by cases h; exact .int _
  | .str _, _, h => by cases h; exact .str _
  | .list _, _, h => by cases h with | lst a b => exact .lst (.inl (.inl a)) (DtA.dp b)
  | .tuple _, _, h => by cases h with | tup a b => exact .tup (.inl (.inl a)) (DtA.dp b)
  | .dict _, _, h => nomatch h
theorem DtA.dp {K : PySem.W.Frag} {H : Hp} : ∀ {ds : List PyData} {vs : List V}, DtA H vs ds → DpAll K H vs ds
  | [], _, h => by cases h; exact .nil
  | _ :: _, _, h => by cases h with | cons a b => exact .cons (Dt.dp a) (DtA.dp b)
end
theorem DtA.len {H : Hp} : ∀ {ds : List PyData} {vs : List V}, DtA H vs ds → vs.length = ds.length
  | [], _, h => by cases h; rfl
  | _ :: _, _, h => by cases h with | cons a b => rw [List.length_cons, List.length_cons, DtA.len b]
theorem DtA.app {H : Hp} : ∀ {ds : List PyData} {vs : List V} {es : List PyData} {us : List V}, DtA H vs ds → DtA H us es → DtA H (vs ++ us) (ds ++ es)
  | [], _, _, _, h, k => by cases h; exact k
  | _ :: _, _, _, _, h, k => by cases h with | cons a b => exact .cons a (DtA.app b k)
theorem DtA.get {H : Hp} : ∀ {ds : List PyData} {vs : List V} {i : Nat} {d : PyData}, DtA H vs ds → ds[i]? = some d → ∃ v, vs[i]? = some v ∧ Dt H v d
  | [], _, _, _, _, k => by simp at k
  | _ :: _, _, 0, _, h, k => by
    cases h with
    | cons a b => rw [List.getElem?_cons_zero] at k; cases k; exact ⟨_, rfl, a⟩
  | _ :: _, _, i + 1, _, h, k => by
    cases h with
    | cons a b => rw [List.getElem?_cons_succ] at k; rw [List.getElem?_cons_succ]; exact DtA.get b k
theorem DtA.got {H : Hp} {ds : List PyData} {vs : List V} {i : Nat} {v : V} (h : DtA H vs ds) (k : vs[i]? = some v) : ∃ d, ds[i]? = some d ∧ Dt H v d := by
  have hi := (List.getElem?_eq_some_iff.mp k).1
  have hl := h.len
  obtain ⟨u, hu, d⟩ := h.get (List.getElem?_eq_getElem (show i < ds.length by omega))
  rw [k] at hu
  cases hu
  exact ⟨_, List.getElem?_eq_getElem (by omega), d⟩
theorem DtA.take {H : Hp} : ∀ {ds : List PyData} {vs : List V} (n : Nat), DtA H vs ds → DtA H (vs.take n) (ds.take n)
  | _, _, 0, _ => .nil
  | [], _, _ + 1, h => by cases h; exact .nil
  | _ :: _, _, n + 1, h => by cases h with | cons a b => exact .cons a (DtA.take n b)
theorem DtA.drop {H : Hp} : ∀ {ds : List PyData} {vs : List V} (n : Nat), DtA H vs ds → DtA H (vs.drop n) (ds.drop n)
  | _, _, 0, h => h
  | [], _, _ + 1, h => by cases h; exact .nil
  | _ :: _, _, n + 1, h => by cases h with | cons a b => exact DtA.drop n b
theorem DtA.rev {H : Hp} : ∀ {ds : List PyData} {vs : List V}, DtA H vs ds → DtA H vs.reverse ds.reverse
  | [], _, h => by cases h; exact .nil
  | _ :: _, _, h => by
    cases h with
    | cons a b => rw [List.reverse_cons, List.reverse_cons]; exact DtA.app (DtA.rev b) (.cons a .nil)
theorem DtA.ints {H : Hp} : ∀ ns : List Int, DtA H (ns.map V.int) (ns.map PyData.int)
  | [] => .nil
  | n :: r => .cons (.int n) (DtA.ints r)
theorem DtA.intsE {H : Hp} : ∀ {ns : List Int} {vs : List V}, DtA H vs (ns.map PyData.int) → vs = ns.map V.int
  | [], _, h => by cases h; rfl
  | n :: r, _, h => by
    cases h with
    | cons a b => cases a; rw [DtA.intsE b]; rfl
/-- a list of whole numbers -/
theorem Dt.ints {H : Hp} {a : Addr} {ns : List Int} (h : H a = some (.lst (ns.map V.int))) : Dt H (.ref a) (rowD ns) := .lst h (DtA.ints ns)
theorem Dt.intsE {H : Hp} {v : V} {ns : List Int} (h : Dt H v (rowD ns)) : ∃ a, v = .ref a ∧ H a = some (.lst (ns.map V.int)) := by
  unfold rowD at h
  cases h with
  | lst a b => rw [DtA.intsE b] at a; exact ⟨_, rfl, a⟩
theorem Dt.listE {H : Hp} {v : V} {ds : List PyData} (h : Dt H v (.list ds)) : ∃ a xs, v = .ref a ∧ H a = some (.lst xs) ∧ DtA H xs ds := by
  cases h with
  | lst a b => exact ⟨_, _, rfl, a, b⟩
theorem Dt.tupE {H : Hp} {v : V} {ds : List PyData} (h : Dt H v (.tuple ds)) : ∃ a xs, v = .ref a ∧ H a = some (.tup xs) ∧ DtA H xs ds := by
  cases h with
  | tup a b => exact ⟨_, _, rfl, a, b⟩
/-! ### what is owned (and changes) is left out -/
def rs (S : List Addr) (H : Hp) : Hp := fun a => if a ∈ S then none else H a
theorem rs_nil (H : Hp) : rs [] H = H := by funext a; simp [rs]
theorem rs_in {S : List Addr} {H : Hp} {a : Addr} (h : a ∈ S) : rs S H a = none := if_pos h
theorem rs_out {S : List Addr} {H : Hp} {a : Addr} (h : a ∉ S) : rs S H a = H a := if_neg h
theorem rs_some {S : List Addr} {H : Hp} {a : Addr} {o : HO} (h : rs S H a = some o) : a ∉ S ∧ H a = some o := by
  by_cases m : a ∈ S
  · rw [rs_in m] at h; cases h
  · rw [rs_out m] at h; exact ⟨m, h⟩
theorem rs_le {S : List Addr} {H : Hp} : Same (rs S H) H := fun _ _ h => (rs_some h).2
theorem rs_same {S : List Addr} {H H' : Hp} (s : Same H H') : Same (rs S H) (rs S H') := fun b o h => by
  obtain ⟨m, e⟩ := rs_some h
  rw [rs_out m]
  exact s b o e
theorem rs_upd {S : List Addr} {H : Hp} {p : Addr} {o : HO} (h : p ∈ S) : rs S (L2.upd H p o) = rs S H := by
  funext a
  by_cases m : a ∈ S
  · rw [rs_in m, rs_in m]
  · rw [rs_out m, rs_out m, upd_ne (fun e => m (by rw [e]; exact h))]
/-- all of them stand -/
def Has (S : List Addr) (H : Hp) : Prop := ∀ a ∈ S, ∃ o, H a = some o
theorem Has.nil {H : Hp} : Has [] H := fun _ h => nomatch h
theorem Has.same {S : List Addr} {H H' : Hp} (h : Has S H) (s : Same H H') : Has S H' := fun a m => by
  obtain ⟨o, e⟩ := h a m
  exact ⟨o, s a o e⟩
theorem Has.cons {S : List Addr} {H : Hp} {p : Addr} {o : HO} (h : Has S H) (e : H p = some o) : Has (p :: S) H := fun a m => by
  rcases List.mem_cons.mp m with rfl | m
  · exact ⟨o, e⟩
  · exact h a m
theorem Has.upd {S : List Addr} {H : Hp} {p : Addr} {o : HO} (h : Has S H) : Has S (L2.upd H p o) := fun a m => by
  by_cases e : a = p
  · subst e; exact ⟨o, upd_same⟩
  · rw [upd_ne e]; exact h a m
theorem Has.out {S : List Addr} {H : Hp} {p : Addr} (h : Has S H) (n : H p = none) : p ∉ S := fun m => by
  obtain ⟨o, e⟩ := h p m
  rw [n] at e
  cases e
theorem GenAt.has {H : Hp} {g : Addr} {n : Nat} (h : GenAt H g n) : Has [g] H := by
  obtain ⟨x, y, z, e, _⟩ := h
  exact Has.nil.cons e
/-- all but what is owned stays -/
def Sta (S : List Addr) (H H' : Hp) : Prop := Same (rs S H) (rs S H')
theorem Sta.of {S : List Addr} {H H' : Hp} (s : Same H H') : Sta S H H' := rs_same s
theorem Sta.trans {S : List Addr} {H H1 H2 : Hp} (a : Sta S H H1) (b : Sta S H1 H2) : Sta S H H2 := fun c o h => b c o (a c o h)
theorem Sta.at_ {S : List Addr} {H H' : Hp} (s : Sta S H H') {a : Addr} {o : HO} (m : a ∉ S) (h : H a = some o) : H' a = some o := (rs_some (s a o (by rw [rs_out m]; exact h))).2
theorem Sta.upd {S : List Addr} {H : Hp} {p : Addr} {o : HO} (h : p ∈ S) : Sta S H (L2.upd H p o) := fun c u e => by rw [rs_upd h]; exact e
theorem Sta.more {S : List Addr} {H H' : Hp} {p : Addr} (s : Sta S H H') : Sta (p :: S) H H' := fun c o h => by
  obtain ⟨m, e⟩ := rs_some h
  have m2 : c ∉ S := fun z => m (List.mem_cons_of_mem _ z)
  rw [rs_out m]
  exact s.at_ m2 e
theorem But.sta {g : Addr} {H H' : Hp} (b : But g H H') : Sta [g] H H' := fun c o h => by
  obtain ⟨m, e⟩ := rs_some h
  rw [rs_out m]
  exact b c o (fun z => m (by rw [z]; exact List.mem_cons_self)) e
/-- what was there ahead of a new thing does not speak of it -/
theorem under {S : List Addr} {H H' : Hp} {p : Addr} (n : H p = none) (s : Same H H') : Same (rs S H) (rs (p :: S) H') := fun c o h => by
  obtain ⟨m, e⟩ := rs_some h
  rw [rs_out (fun z => by
    rcases List.mem_cons.mp z with rfl | z
    · rw [n] at e; cases e
    · exact m z)]
  exact s c o e
theorem over {S : List Addr} {H : Hp} {p : Addr} : Same (rs (p :: S) H) (rs S H) := fun c o h => by
  obtain ⟨m, e⟩ := rs_some h
  rw [rs_out (fun z => m (List.mem_cons_of_mem _ z))]
  exact e
/-! ### a new list, a new tuple, a sum of lists -/
theorem dt_new {S : List Addr} {H : Hp} {p : Addr} {xs : List V} {ds : List PyData} (hS : Has S H) (n : H p = none) (h : DtA (rs S H) xs ds) : Dt (rs S (upd H p (.lst xs))) (.ref p) (.list ds) :=
  .lst (by rw [rs_out (hS.out n)]; exact upd_same) (h.same (rs_same (same_upd n)))
theorem dt_newT {S : List Addr} {H : Hp} {p : Addr} {xs : List V} {ds : List PyData} (hS : Has S H) (n : H p = none) (h : DtA (rs S H) xs ds) : Dt (rs S (upd H p (.tup xs))) (.ref p) (.tuple ds) :=
  .tup (by rw [rs_out (hS.out n)]; exact upd_same) (h.same (rs_same (same_upd n)))
theorem d_lst {S : List Addr} {H : Hp} {xs : List V} {ds : List PyData} {Q : VK} (hS : Has S H) (h : DtA (rs S H) xs ds) (hz : xs.length ≤ sizeLine) (k : ∀ p H', Same H H' → H p = none → H' p = some (.lst xs) → Dt (rs S H') (.ref p) (.list ds) → Q (.ref p) H') : xs.length ≤ sizeLine ∧ ∀ p, H p = none → Q (.ref p) (upd H p (.lst xs)) :=
  ⟨hz, fun p n => k p _ (same_upd n) n upd_same (dt_new hS n h)⟩
theorem d_tup {S : List Addr} {H : Hp} {xs : List V} {ds : List PyData} {Q : VK} (hS : Has S H) (h : DtA (rs S H) xs ds) (hz : xs.length ≤ sizeLine) (k : ∀ p H', Same H H' → H p = none → H' p = some (.tup xs) → Dt (rs S H') (.ref p) (.tuple ds) → Q (.ref p) H') : xs.length ≤ sizeLine ∧ ∀ p, H p = none → Q (.ref p) (upd H p (.tup xs)) :=
  ⟨hz, fun p n => k p _ (same_upd n) n upd_same (dt_newT hS n h)⟩
theorem d_cat {S : List Addr} {H : Hp} {v w : V} {ds es : List PyData} {Q : VK} (hS : Has S H) (hv : Dt (rs S H) v (.list ds)) (hw : Dt (rs S H) w (.list es)) (hz : ds.length + es.length ≤ sizeLine) (k : ∀ p H', Same H H' → H p = none → Dt (rs S H') (.ref p) (.list (ds ++ es)) → Q (.ref p) H') : rCat v w H Q := by
  obtain ⟨a, xs, rfl, ha, hx⟩ := hv.listE
  obtain ⟨b, ys, rfl, hb, hy⟩ := hw.listE
  exact ⟨a, b, xs, ys, rfl, rfl, (rs_some ha).2, (rs_some hb).2, by rw [hx.len, hy.len]; exact hz, fun p n => k p _ (same_upd n) n (dt_new hS n (hx.app hy))⟩
theorem d_eq {K : PySem.W.Frag} {H : Hp} {v w : V} {d e : PyData} {Q : VK} (hv : Dt H v d) (hw : Dt H w e) (sd : SeqAt.shaped d = true) (se : SeqAt.shaped e = true) (q : Q (.bl (PyData.eqv d e)) H) : rEqD K v w H Q := ⟨d, e, hv.dp, hw.dp, sd, se, q⟩
theorem d_ne {K : PySem.W.Frag} {H : Hp} {v w : V} {d e : PyData} {Q : VK} (hv : Dt H v d) (hw : Dt H w e) (sd : SeqAt.shaped d = true) (se : SeqAt.shaped e = true) (q : Q (.bl (!PyData.eqv d e)) H) : rNeD K v w H Q := ⟨d, e, hv.dp, hw.dp, sd, se, q⟩
/-! ### comprehensions -/
/-- what comes of an item: nothing, or data -/
def Out (S : List Addr) (H : Hp) : Option PyData → Option V → Prop
  | some d, some v => Dt (rs S H) v d
  | none, none => True
  | _, _ => False
def accP (S : List Addr) (H1 : Hp) (D : Addr) (ds : List PyData) (H : Hp) : Prop := Same H1 H ∧ ∃ ys, H D = some (.lst ys) ∧ DtA (rs (D :: S) H) ys ds
theorem acc_step {S : List Addr} {H1 : Hp} {D : Addr} {sel : List (Option PyData)} {i : Nat} {o : Option PyData} {H H4 : Hp} (nD : H1 D = none) (ho : sel[i]? = some o) (hz : sel.length < sizeLine) (h : accP S H1 D ((sel.take i).filterMap id) H) (s4 : Same H H4) :
    ∀ y : Option V, Out (D :: S) H4 o y → match y with
      | some v => ∃ acc, H4 D = some (.lst acc) ∧ acc.length < sizeLine ∧ accP S H1 D ((sel.take (i + 1)).filterMap id) (upd H4 D (.lst (acc ++ [v])))
      | none => accP S H1 D ((sel.take (i + 1)).filterMap id) H4 := by
  obtain ⟨s, ys, hD, hy⟩ := h
  intro y hO
  rw [take_fm ho]
  cases o with
  | none =>
    cases y with
    | none => exact ⟨s.trans s4, ys, s4 _ _ hD, by simpa using hy.same (rs_same s4)⟩
    | some v => exact absurd hO (fun z => z)
  | some d =>
    cases y with
    | none => exact absurd hO (fun z => z)
    | some v =>
      refine ⟨ys, s4 _ _ hD, ?_, same_over nD (s.trans s4), ys ++ [v], upd_same, ?_⟩
      · rw [hy.len]
        exact Nat.lt_of_le_of_lt (fm_len sel i) hz
      · rw [rs_upd List.mem_cons_self]
        exact (hy.same (rs_same s4)).app (.cons hO .nil)
theorem acc_end {S : List Addr} {H1 : Hp} {D : Addr} {ds : List PyData} {H : Hp} (hS : Has S H1) (nD : H1 D = none) (h : accP S H1 D ds H) : Dt (rs S H) (.ref D) (.list ds) := by
  obtain ⟨s, ys, hD, hy⟩ := h
  exact .lst (by rw [rs_out (hS.out nD)]; exact hD) (hy.same over)
theorem lc_dR {lo : Int} {n : Nat} {j : Nat} {tt : TT} {te : TE} {vs : List Nat} {σ : L2.St} {H1 : Hp} {D : Addr} {Qd : Hp → Prop} {S : List Addr} (hS : Has S H1) (sel : List (Option PyData)) (nD : H1 D = none) (hlen : sel.length = n) (hz : n < sizeLine)
    (hw : ∀ x, wipe ((wipe σ vs).set j (some x)) vs = wipe σ vs)
    (hs : ∀ (i : Nat) (o : Option PyData) (H' : Hp), i < n → sel[i]? = some o → Same H1 H' → Has (D :: S) H' → ∀ Qt : Option V → Hp → Prop, (∀ y H'', Same H' H'' → Out (D :: S) H'' o y → Qt y H'') →
      tt ((wipe σ vs).set j (some (.int (lo + (i : Int))))) H' fun b H3 => if b = true then te ((wipe σ vs).set j (some (.int (lo + (i : Int))))) H3 fun y H4 => Qt (some y) H4 else Qt none H3)
    (hd : ∀ H', Same H1 H' → H' D ≠ none → Dt (rs S H') (.ref D) (.list (sel.filterMap id)) → Qd H') :
    ∃ W : Nat → Nat → Hp → Prop, (∃ m, W 0 m (upd H1 D (.lst []))) ∧ ∀ i m H, W i m H →
      ((Itr lo n).stop i H ∧ Qd H) ∨ ((Itr lo n).go i H ∧ ∃ Nx : Hp → Prop, (∀ H', Nx H' → ∃ m', m' < m ∧ W (i + 1) m' H') ∧ ∀ x H', (Itr lo n).yld i H x H' → gName j x (wipe σ vs) H' fun σ2 H2 => wipe σ2 vs = wipe σ vs ∧ tt σ2 H2 fun b H3 =>
        if b = true then te σ2 H3 fun y H4 => ∃ acc, H4 D = some (.lst acc) ∧ acc.length < sizeLine ∧ Nx (upd H4 D (.lst (acc ++ [y]))) else Nx H3) := by
  refine lc_range (lo := lo) (n := n) (fun i H => accP S H1 D ((sel.take i).filterMap id) H) ⟨same_upd nD, [], upd_same, .nil⟩ ?_ ?_
  · rintro i H hi h
    refine ⟨hw _, ?_⟩
    have ho : sel[i]? = some (sel[i]'(by omega)) := List.getElem?_eq_getElem (by omega)
    obtain ⟨s, ys, hD, hy⟩ := id h
    exact hs i _ H hi ho s ((hS.same s).cons hD) (fun o H4 => match o with
      | some y => ∃ acc, H4 D = some (.lst acc) ∧ acc.length < sizeLine ∧ accP S H1 D ((sel.take (i + 1)).filterMap id) (upd H4 D (.lst (acc ++ [y])))
      | none => accP S H1 D ((sel.take (i + 1)).filterMap id) H4) fun y H4 s4 hO => acc_step nD ho (by omega) h s4 y hO
  · rintro H h
    rw [← hlen, List.take_length] at h
    refine hd H h.1 ?_ (acc_end hS nD h)
    obtain ⟨_, ys, hD, _⟩ := h
    rw [hD]
    exact fun z => nomatch z
theorem lc_dL {K : PySem.W.Frag} {a : Addr} {xs : List V} {j : Nat} {tt : TT} {te : TE} {vs : List Nat} {σ : L2.St} {H1 : Hp} {D : Addr} {Qd : Hp → Prop} {S : List Addr} (hS : Has S H1) (sel : List (Option PyData)) (nD : H1 D = none) (hA : SqL K H1 a xs) (hlen : sel.length = xs.length) (hz : xs.length < sizeLine)
    (hw : ∀ x, wipe ((wipe σ vs).set j (some x)) vs = wipe σ vs)
    (hs : ∀ (i : Nat) (x : V) (o : Option PyData) (H' : Hp), xs[i]? = some x → sel[i]? = some o → Same H1 H' → Has (D :: S) H' → ∀ Qt : Option V → Hp → Prop, (∀ y H'', Same H' H'' → Out (D :: S) H'' o y → Qt y H'') →
      tt ((wipe σ vs).set j (some x)) H' fun b H3 => if b = true then te ((wipe σ vs).set j (some x)) H3 fun y H4 => Qt (some y) H4 else Qt none H3)
    (hd : ∀ H', Same H1 H' → H' D ≠ none → Dt (rs S H') (.ref D) (.list (sel.filterMap id)) → Qd H') :
    ∃ W : Nat → Nat → Hp → Prop, (∃ m, W 0 m (upd H1 D (.lst []))) ∧ ∀ i m H, W i m H →
      ((Itl K a).stop i H ∧ Qd H) ∨ ((Itl K a).go i H ∧ ∃ Nx : Hp → Prop, (∀ H', Nx H' → ∃ m', m' < m ∧ W (i + 1) m' H') ∧ ∀ x H', (Itl K a).yld i H x H' → gName j x (wipe σ vs) H' fun σ2 H2 => wipe σ2 vs = wipe σ vs ∧ tt σ2 H2 fun b H3 =>
        if b = true then te σ2 H3 fun y H4 => ∃ acc, H4 D = some (.lst acc) ∧ acc.length < sizeLine ∧ Nx (upd H4 D (.lst (acc ++ [y]))) else Nx H3) := by
  refine lc_list (K := K) (a := a) (xs := xs) (fun i H => accP S H1 D ((sel.take i).filterMap id) H) ⟨same_upd nD, [], upd_same, .nil⟩ (fun i H _ p => p.1.seq hA) ?_ ?_
  · rintro i x H hx h
    refine ⟨hw _, ?_⟩
    have hi := (List.getElem?_eq_some_iff.mp hx).1
    have ho : sel[i]? = some (sel[i]'(by omega)) := List.getElem?_eq_getElem (by omega)
    obtain ⟨s, ys, hD, hy⟩ := id h
    exact hs i x _ H hx ho s ((hS.same s).cons hD) (fun o H4 => match o with
      | some y => ∃ acc, H4 D = some (.lst acc) ∧ acc.length < sizeLine ∧ accP S H1 D ((sel.take (i + 1)).filterMap id) (upd H4 D (.lst (acc ++ [y])))
      | none => accP S H1 D ((sel.take (i + 1)).filterMap id) H4) fun y H4 s4 hO => acc_step nD ho (by omega) h s4 y hO
  · rintro H h
    rw [← hlen, List.take_length] at h
    refine hd H h.1 ?_ (acc_end hS nD h)
    obtain ⟨_, ys, hD, _⟩ := h
    rw [hD]
    exact fun z => nomatch z
/-- maps: each item's data -/
theorem sel_map {α : Type} (l : List α) (f : α → PyData) : (l.map fun x => some (f x)).filterMap id = l.map f := by
  induction l with
  | nil => rfl
  | cons x l ih =>
    show f x :: (l.map fun x => some (f x)).filterMap id = _
    rw [ih]
    rfl
/-- over any walk -/
theorem lc_dW {J : It} {n : Nat} {G : Hp → Prop} {Y : Nat → Hp → V → Hp → Prop} (w : Walk J n G Y) {g : TG} {tt : TT} {te : TE} {vs : List Nat} {σ : L2.St} {H1 : Hp} {D : Addr} {Qd : Hp → Prop} {S : List Addr} (hS : Has S H1) (sel : List (Option PyData)) (nD : H1 D = none) (hlen : sel.length = n) (hz : n < sizeLine)
    (hG : ∀ H', Same H1 H' → G H')
    (hs : ∀ (i : Nat) (o : Option PyData) (H0 : Hp) (x : V) (H' : Hp), i < n → sel[i]? = some o → Same H1 H0 → Has (D :: S) H0 → Y i H0 x H' → ∀ Qt : Option V → Hp → Prop, (∀ y H'', Same H0 H'' → Out (D :: S) H'' o y → Qt y H'') →
      g x (wipe σ vs) H' fun σ2 H2 => wipe σ2 vs = wipe σ vs ∧ tt σ2 H2 fun b H3 => if b = true then te σ2 H3 fun y H4 => Qt (some y) H4 else Qt none H3)
    (hd : ∀ H', Same H1 H' → H' D ≠ none → Dt (rs S H') (.ref D) (.list (sel.filterMap id)) → Qd H') :
    ∃ W : Nat → Nat → Hp → Prop, (∃ m, W 0 m (upd H1 D (.lst []))) ∧ ∀ i m H, W i m H →
      (J.stop i H ∧ Qd H) ∨ (J.go i H ∧ ∃ Nx : Hp → Prop, (∀ H', Nx H' → ∃ m', m' < m ∧ W (i + 1) m' H') ∧ ∀ x H', J.yld i H x H' → g x (wipe σ vs) H' fun σ2 H2 => wipe σ2 vs = wipe σ vs ∧ tt σ2 H2 fun b H3 =>
        if b = true then te σ2 H3 fun y H4 => ∃ acc, H4 D = some (.lst acc) ∧ acc.length < sizeLine ∧ Nx (upd H4 D (.lst (acc ++ [y]))) else Nx H3) := by
  refine lc_it w (fun i H => accP S H1 D ((sel.take i).filterMap id) H) ⟨same_upd nD, [], upd_same, .nil⟩ (fun i H _ p => hG H p.1) ?_ ?_
  · rintro i x H H' hi h y
    have ho : sel[i]? = some (sel[i]'(by omega)) := List.getElem?_eq_getElem (by omega)
    obtain ⟨s, ys, hD, hy⟩ := id h
    exact hs i _ H x H' hi ho s ((hS.same s).cons hD) y (fun o H4 => match o with
      | some y => ∃ acc, H4 D = some (.lst acc) ∧ acc.length < sizeLine ∧ accP S H1 D ((sel.take (i + 1)).filterMap id) (upd H4 D (.lst (acc ++ [y])))
      | none => accP S H1 D ((sel.take (i + 1)).filterMap id) H4) fun y H4 s4 hO => acc_step nD ho (by omega) h s4 y hO
  · rintro H h
    rw [← hlen, List.take_length] at h
    refine hd H h.1 ?_ (acc_end hS nD h)
    obtain ⟨_, ys, hD, _⟩ := h
    rw [hD]
    exact fun z => nomatch z
theorem dt_pairs {K : PySem.W.Frag} {H : Hp} {a : Addr} {ps : List (Int × Int)} (h : Dt H (.ref a) (.list (ps.map pairD))) : PairsAt K H a ps := by
  cases h with
  | lst ha hx =>
    rename_i xs
    have key : ∀ (ps : List (Int × Int)) (xs : List V), DtA H xs (ps.map pairD) → ∃ as : List Addr, xs = as.map V.ref ∧ as.length = ps.length ∧ ∀ (i : Nat) (t : Addr) (p : Int × Int), as[i]? = some t → ps[i]? = some p → SqT K H t [.int p.1, .int p.2] := fun ps => by
      induction ps with
      | nil => intro xs h; cases h; exact ⟨[], rfl, rfl, fun i t p ht => by simp at ht⟩
      | cons p ps ih =>
        intro xs h
        cases h with
        | cons b c =>
          obtain ⟨as, rfl, hl, k⟩ := ih _ c
          obtain ⟨t, ys, rfl, ht, hy⟩ := (show Dt H _ (.tuple [.int p.1, .int p.2]) from b).tupE
          rw [DtA.intsE (ns := [p.1, p.2]) hy] at ht
          refine ⟨t :: as, rfl, by rw [List.length_cons, List.length_cons, hl], fun i u q hu hq => ?_⟩
          cases i with
          | zero =>
            rw [List.getElem?_cons_zero] at hu hq
            cases hu
            cases hq
            exact .inl (.inl ht)
          | succ i =>
            rw [List.getElem?_cons_succ] at hu hq
            exact k i u q hu hq
    obtain ⟨as, rfl, hl, k⟩ := key ps xs hx
    exact ⟨as, .inl (.inl ha), hl, k⟩
end My

namespace My
open PySem PySem.Spec PyProof.Rows L2 Pre
/-! ### set(a list of whole numbers) -/
/-- a set just made -/
abbrev sE (w : World) : Obj := { cls := .type "set", dict := none, data := .set #[] 0 (.fresh 0 0 (!w.params.followText "set-order")) }
section
variable {P : Program} {w : World} {A : Around} {E : Value → Shared → Prop} {s : Shared}
/-- all that stood ahead stands -/
def Ahead (h h' : Heap) : Prop := ∀ b o, h.get? b = some o → h'.get? b = some o
set_option maxHeartbeats 8000000 in
theorem set_of_list {l : Addr} {its : Array Value} (ns : List Int) {Q : Value → Shared → Prop} (calm : A.handled = none) (lst : s.heap.IsList l its) (are : IntsAre its.toList ns) (few : ns.length + 1 < scanBound)
    (fin : ∀ (h' : Heap) (tk c : Nat), SetR w h' s.heap.objs.size (fun j => decide (j ∈ ns)) c → c ≤ ns.length → Ahead s.heap h' → Q (.ref s.heap.objs.size) { s with heap := h', toks := tk }) :
    wpAny (model P w) A (call (.type "set") [.ref l]) Q E s := by
  have size : its.size = ns.length := (Array.length_toList (xs := its)).symm.trans are.length
  obtain ⟨c0, tl, hmro⟩ := F.called_set.mro; have hmade := F.called_set.made; have hsub := F.called_set.sub; have hlt := F.called_set.notType; have hcr := F.called_set.canCreate; have hct := F.typeCall_set_1 (.ref l)
  refine wpAny_call (codeAny_of_tree ?_); show wpAny _ _ (callAny (.type "set") _) _ _ _
  refine wpAny_pure ⟨Code.quiet_builtin _ (by decide +kernel), codeAny_builtin F.entry_type_call ?_⟩; rw [Around.under_plain (weight_type_call_type "set" [.ref l] []) rfl]
  repeat (any_goals (first | assumption | wp_step))
  let top := s.heap.objs.size
  let h1 := s.heap.push (sE w)
  refine codeAny_mono (code_set_led1 (.ref l) (E := E) (Q₁ := fun x t => x = .ref top ∧ t = { s with heap := h1 }) ⟨rfl, rfl⟩) fun r t hr => ?_
  rcases r with e | fl
  · exact hr
  cases fl with
  | ret x =>
    obtain ⟨rfl, rfl⟩ := hr
    have new : h1.get? top = some (sE w) := Heap.get?_push_size _ rfl
    have isSet : Shared.TypeIs { s with heap := h1 } (.ref top) "set" := ⟨_, new, rfl⟩
    have hli := F.called_set.init.lookup; have hbi := F.called_set.init.bind (.ref top)
    repeat (any_goals (first | assumption | wp_step))
    refine codeAny_mono (codeAny_call_builtin (R := wants (fun y u => y = .none ∧ ∃ h' tk c, u = { s with heap := h', toks := tk } ∧ SetR w h' top (fun j => decide (j ∈ ns)) c ∧ c ≤ ns.length ∧ Ahead s.heap h') E) F.called_set.init.plain F.entry_set_init (check_set_init_1 isSet ?_)) fun r2 u hu => ?_
    · obtain ⟨⟨oc, od, ot, os⟩, at_l, cl, nl, dl⟩ := lst
      simp only at cl dl; subst cl; subst dl
      have at1 : h1.get? l = some { cls := .type "list", dict := od, data := .seq its nl, slots := os } := Heap.get?_push_of_some _ at_l
      have n1 := F.sub_list_set; have n2 := F.sub_list_frozenset; have n3 : (Value.type "list" == Value.type "dict") = false := by decide
      have lst1 : h1.IsList l its := ⟨_, at1, rfl, nl, rfl⟩
      unfold Builtin.«set.__init__» noKeywords Builtin.Frozenset.updateFrom; generalize eI : pyIter = I
      wp_walk
      subst eI
      refine wpAny_pyIter_list lst1 ?_; refine wpAny_bind (wpAny_runValue ?_)
      have lt := Heap.lt_size at_l
      have calm3 : A.in1.in1.in1.handled = none := by simp [calm]
      have hz : h1.objs.size = top + 1 := Heap.size_push ..
      have apart : l ≠ h1.objs.size := by rw [hz]; exact Nat.ne_of_lt (Nat.lt_succ_of_lt lt)
      have notin : top ∉ [h1.objs.size, l] := by
        rw [hz]; intro z
        rcases List.mem_cons.mp z with z | z
        · omega
        · have := List.mem_singleton.mp z; exact Nat.lt_irrefl l (by rw [← this] at lt ⊢; exact lt)
      have each : ∀ (i : Nat) (v : Value), its[i]? = some v → ∃ k t, ns[i]? = some k ∧ v = .int k t := fun i v hv => by
        have hi := (Array.getElem?_eq_some_iff.mp hv).1; rw [size] at hi
        obtain ⟨t, e⟩ := IntsAre.int_at are i v ((Array.getElem?_toList (xs := its)).trans hv)
        exact ⟨ns[i], t, List.getElem?_eq_getElem hi, by rw [e, List.getD_eq_getElem?_getD, List.getElem?_eq_getElem hi]; rfl⟩
      refine set_update_ints ((Walks.list calm3 _ l apart its).toS) top notin ns size few each (its.size - 0) 0 _ (by omega) (Nat.zero_le _) ⟨⟨_, Heap.get?_push_size _ rfl, rfl, rfl⟩, (lst1.push _)⟩ ⟨0, Nat.le_refl 0, setR_new_at (Heap.get?_push_of_some _ new)⟩ fun s2 c mv hc set2 => ?_
      have es : s2 = { s with heap := s2.heap, toks := s2.toks } := by
        obtain ⟨a1, a2, a3, a4, a5⟩ := s2
        obtain rfl : a2 = s.gens := mv.gens
        obtain rfl : a3 = s.drawn := mv.drawn
        obtain rfl : a5 = s.os := mv.os
        rfl
      rw [size] at hc
      show wpAny _ _ _ _ _ _
      refine wpAny_pure ?_
      show wpAny _ _ (ret Value.none) _ _ _
      refine wpAny_pure ⟨rfl, s2.heap, s2.toks, c, es, set2, hc, fun b o e => mv.heap b o (fun z => ?_) (Heap.get?_push_of_some _ (Heap.get?_push_of_some _ e))⟩
      have lb := Heap.lt_size e
      rcases List.mem_cons.mp z with z | z
      · exact Nat.lt_irrefl _ (by rw [z] at lb; exact lb)
      · rw [List.mem_singleton.mp z, hz] at lb; exact absurd lb (by show ¬ top + 1 < top; omega)
    · rcases r2 with e | fl2
      · exact hu
      cases fl2 with
      | ret y =>
        obtain ⟨rfl, h', tk, c, rfl, a1, a2, a3⟩ := hu
        repeat (any_goals (first | assumption | wp_step))
        exact fin _ _ _ a1 a2 a3
      | _ => exact hu.elim
  | _ => exact hr.elim
end
section
variable {X : Cx}
def rSetL (K : PySem.W.Frag) (w : World) : List V → Hp → VK → Prop := fun xs H Q => ∃ (l : Addr) (ns : List Int), xs = [.ref l] ∧ SqL K H l (ns.map V.int) ∧ ns.length ≤ 1000 ∧ ∀ p c, H p = none → c ≤ ns.length → Q (.ref p) (upd H p (SetO w p (fun j => decide (j ∈ ns)) c))
theorem k_setL (K : PySem.W.Frag) (h : X.K = K) (hc : X.calm = true) : CallR X (.type "set") (rSetL K X.w) := by
  subst h
  intro pins s σ H xs us Q I r h
  obtain ⟨l, ns, rfl, hl, hz, q⟩ := h
  rw [Vals.ref1 r]
  obtain ⟨its, rv, pl, _⟩ := I.list hl
  have are : IntsAre its.toArray.toList ns := ints_of_vals rv
  exact set_of_list ns (I.ok.hd hc) pl.isList are (by unfold scanBound; omega) fun h' tk c R le kp => ⟨.ref _, _, I.laid (t' := tk) kp (Nat.le_refl _) (setO_new R), rfl, q _ c (I.hok.fresh (Nat.le_refl _)) le⟩
/-- sorted(a set of whole numbers) -/
theorem k_sortedSet (h : X.calm = true) : CallR X (.builtin "sorted") (rSortedSet X.w) := cr_sortedSet h
/-- not in a range -/
theorem op_notin_rng : OpR X (compareOp .NotIn) (fun x y H Q => ∃ i a lo hi, x = V.int i ∧ y = V.ref a ∧ H a = some (.rng lo hi) ∧ Q (.bl (!decide (lo ≤ i ∧ i < hi))) H) := by
  intro pins s σ H x y v u Q I rx ry h
  obtain ⟨i, a, lo, hi, rfl, rfl, ha, q⟩ := h
  obtain ⟨k, rfl⟩ := rx
  obtain rfl : u = Value.ref a := ry
  obtain ⟨t1, t2, t3, ho⟩ := I.hok a _ ha
  show wpAny _ _ (do return Value.bool (!(← contains (Value.ref a) (Value.int i k)))) _ _ s
  refine wpAny_bind (wpAny_contains_slot (T := "range") ⟨_, ho, rfl⟩ F.slot_range_contains (call_meets F.slot_range_contains ⟨_, ho, rfl⟩ F.entry_range_contains (F.args_range_contains_2 _ _) (q_contains a lo hi i t1 t2 t3 k) ⟨ho, wpAny_truthy_bool (wpAny_pure ⟨.bl _, H, I, rfl, ?_⟩)⟩))
  rw [place1]; exact q
variable {a b c d : Expr} {ta tb tc td : TE} {pos : Pos} {o1 o2 o3 : CmpOp} {r1 r2 r3 : R2}
def tChain3 (r1 r2 r3 : R2) (ta tb tc td : TE) : TE := fun σ H Q => ta σ H fun x H1 => tb σ H1 fun y H2 => r1 x y H2 fun z H3 => ∃ k, z = .bl k ∧ (if k = true then tc σ H3 fun u H4 => r2 y u H4 fun z2 H5 => ∃ k2, z2 = .bl k2 ∧ (if k2 = true then td σ H5 fun v H6 => r3 u v H6 Q else Q (.bl false) H5) else Q (.bl false) H3)
theorem pe_chain3 (h1 : OpR X (compareOp o1) r1) (h2 : OpR X (compareOp o2) r2) (h3 : OpR X (compareOp o3) r3) (ha : PE X a ta) (hb : PE X b tb) (hc : PE X c tc) (hd : PE X d td)
    (hm : lastMarks [o1, o2, o3] [b, c, d] = false := by with_unfolding_all rfl) : PE X (.Compare a [o1, o2, o3] [b, c, d] pos) (tChain3 r1 r2 r3 ta tb tc td) := by
  refine ⟨fun pins s σ H Q I h => Compare_chain (thn (ha.run pins s σ H _ I h) fun v s1 ⟨x, H1, I1, rx, q1⟩ => chain_link (thn (hb.run pins s1 σ H1 _ I1 q1) fun u s2 ⟨y, H2, I2, ry, q2⟩ => thn (h1 pins s2 σ H2 x y v u _ I2 rx ry q2) fun _ s3 ⟨_, H3, I3, rz, k, e, q3⟩ => ?_)) hm⟩
  subst e; cases rz; refine wpAny_truthy_bool ?_
  cases k
  · exact ite_ff ⟨.bl false, H3, I3, rfl, q3⟩
  refine ite_tt (chain_link (thn (hc.run pins s3 σ H3 _ I3 q3) fun w' s4 ⟨z', H4, I4, r4, q4⟩ => thn (h2 pins s4 σ H4 y z' u w' _ I4 ry r4 q4) fun _ s5 ⟨_, H5, I5, rz, k2, e, q5⟩ => ?_))
  subst e; cases rz; refine wpAny_truthy_bool ?_
  cases k2
  · exact ite_ff ⟨.bl false, H5, I5, rfl, q5⟩
  exact ite_tt (chain_last (thn (hd.run pins s5 σ H5 _ I5 q5) fun v6 s6 ⟨z6, H6, I6, r6, q6⟩ => h3 pins s6 σ H6 z' z6 w' v6 Q I6 r4 r6 q6))
theorem pt_chain3 (h1 : OpR X (compareOp o1) r1) (h2 : OpR X (compareOp o2) r2) (h3 : OpR X (compareOp o3) r3) (ha : PE X a ta) (hb : PE X b tb) (hc : PE X c tc) (hd : PE X d td)
    (hm : lastMarks [o1, o2, o3] [b, c, d] = false := by with_unfolding_all rfl) : PT X (.Compare a [o1, o2, o3] [b, c, d] pos) (tTest (tChain3 r1 r2 r3 ta tb tc td)) := by
  refine ⟨fun pins s σ H Q I h => isTrue_chain (thn (ha.run pins s σ H _ I h) fun v s1 ⟨x, H1, I1, rx, q1⟩ => test_link (thn (hb.run pins s1 σ H1 _ I1 q1) fun u s2 ⟨y, H2, I2, ry, q2⟩ => thn (h1 pins s2 σ H2 x y v u _ I2 rx ry q2) fun _ s3 ⟨_, H3, I3, rz, k, e, q3⟩ => ?_)) hm⟩
  subst e; cases rz; refine wpAny_truthy_bool ?_
  cases k
  · obtain ⟨k', e', q'⟩ := q3; cases e'; exact ite_ff ⟨H3, I3, q'⟩
  refine ite_tt (test_link (thn (hc.run pins s3 σ H3 _ I3 q3) fun w' s4 ⟨z', H4, I4, r4, q4⟩ => thn (h2 pins s4 σ H4 y z' u w' _ I4 ry r4 q4) fun _ s5 ⟨_, H5, I5, rz, k2, e, q5⟩ => ?_))
  subst e; cases rz; refine wpAny_truthy_bool ?_
  cases k2
  · obtain ⟨k', e', q'⟩ := q5; cases e'; exact ite_ff ⟨H5, I5, q'⟩
  refine ite_tt (test_last (thn (hd.run pins s5 σ H5 _ I5 q5) fun v6 s6 ⟨z6, H6, I6, r6, q6⟩ => thn (h3 pins s6 σ H6 z' z6 w' v6 _ I6 r4 r6 q6) fun _ s7 ⟨_, H7, I7, rz, k3, e, q7⟩ => ?_))
  subst e; cases rz; exact wpAny_truthy_bool ⟨H7, I7, q7⟩
end
end My

namespace My
open PySem PySem.Spec PyProof.Rows L2 Pre
/-! ### promises for callers that stand in no repr: within them repr of lists shows its items -/
structure FnG (P : Program) (w : World) (K : PySem.W.Frag) (mg : Str → Option Value) (base : Heap) (CX : CXT) (k : Nat) (f : Addr) (fd : FuncData) (ps : List Str) (sp : Sp) : Prop where
  many : ∀ xs H Q E, sp xs H Q E → xs.length = ps.length
  does : ∀ (A : Around), A.guards = some [] → Room k A → ∀ (fr : List Env) (t : Shared) (H : Hp), Env0 P w K mg base A fr t H → ∀ (ar : Args) (us : List Value) (xs : List V), BindsTo t fd ar (ps.zip us) → Vals xs us →
    ∀ (Q : VK) (E : XK), sp xs H Q E → codeAny (model P w) A (.call (.ref f) ar) (CR CX fr P w H t Q E) t
section
variable {P : Program} {w : World} {K : PySem.W.Frag} {mg : Str → Option Value} {base : Heap} {CX : CXT} {k : Nat} {f : Addr} {fd : FuncData} {ps : List Str} {sp : Sp}
theorem FnG.of (F : FnOk P w K mg base CX k f fd ps sp) : FnG P w K mg base CX k f fd ps sp :=
  ⟨F.len, fun A _ hr fr t H e ar us xs b v Q E h => F.run A fr t H ar us xs Q E hr e b v h⟩
/-- a body makes a promise -/
theorem FnG.body {x qual : Str} {pr : Arguments} {bd : List Stmt} {sc : Scope} {dvs : List V} {kws : List (Str × V)} {N : List Str} (F : FunD K x qual pr bd sc dvs kws f fd) (S : FnScope N ps sc) (hm : ∀ xs H Q E, sp xs H Q E → xs.length = ps.length)
    (go : ∀ (cv : Value) (A : Around) (fr : List Env) (t : Shared) (H : Hp) (xs : List V) (Q : VK) (E : XK), A.guards = some [] → Room k (A.deeper (envOfC qual sc t.heap.objs.size f cv)) → sp xs H Q E →
      ∃ τ, PSs (cxOf CX P w K mg base N qual sc f cv A fr t H E) bd τ ∧ τ { nx := fun _ H1 => Q .non H1, rt := Q } (start N xs) H) : FnG P w K mg base CX (k + 1) f fd ps sp := by
  obtain ⟨c0, d0, dv, kv, dc, pm, an, cv, ct, sl, rfl, lk, hcode, _, _⟩ := F.ex
  refine ⟨hm, fun A gd hr fr t H e0 ar us xs hb rv Q E hs => ?_⟩
  have hin : K.In t.heap := e0.mod.kin.keeps fun b o z => (e0.bs b o z).1
  have hno : t.heap.NoLimit := e0.mod.nolimit.keeps fun b o z => (e0.bs b o z).1
  refine codeAny_call_function hr.depth (hin _ _ lk) rfl S.co S.gen rfl (PySem.W.codeRec_of hin hcode) (hb _ _ _ _ ?_)
  refine wpAny_newFunctionEnv_cells S.kind (fun y hy => ?_) fun env he t1 hx => ?_
  · obtain ⟨n, u⟩ := y
    rcases S.par n (List.of_mem_zip hy).1 with z | z
    · exact Or.inl z
    · exact Or.inr ⟨z, PySem.W.cellsFrom_some _ _ _ (Or.inl z)⟩
  · subst he
    refine ⟨hno.keeps hx.toInCall.keep, codeAny_func ?_⟩
    obtain ⟨τ, hτ, hq⟩ := go cv A fr t H xs Q E gd (hr.deeper _) hs
    have J := inv_start (CX := CX) (E := E) S hr.hd e0 (hm _ _ _ _ hs) rv hx
    refine wpAny_mono (hτ.run [] t1 (start N xs) H _ J hq) (fun fl t2 h2 => ?_) fun _ _ z => z
    cases fl with
    | brk => exact False.elim h2.choose_spec.choose_spec.2
    | cont => exact False.elim h2.choose_spec.choose_spec.2
    | next =>
      obtain ⟨σ2, H2, J2, q2⟩ := h2
      exact ⟨V.non, H2, J2.os, J2.bare, J2.base, J2.hok, rfl, q2⟩
    | ret u =>
      obtain ⟨v2, σ2, H2, J2, r2, q2⟩ := h2
      exact ⟨v2, H2, J2.os, J2.bare, J2.base, J2.hok, r2, q2⟩
end
section
variable {X : Cx} {CX : CXT} {k : Nat} {f : Addr} {fd : FuncData} {ps : List Str} {sp : Sp} {dvs : List V} {ds : List Value} {E : XK} {x : Str} {p pos : Pos} {e : Expr} {es : List Expr} {t : TA}
theorem go_g {pins : List (Addr × Obj)} {σ : L2.St} {H : Hp} {s : Shared} {Q : VK} {us : List Value} {xs : List V} (F : FnG X.prog X.w X.K X.mg X.base CX k f fd ps sp) (gd : X.A.guards = some []) (hr : Room k X.A) (hb : Binds X.K fd ps ds) (hd : Vals dvs ds)
    (hx : Passes CX X E) (I : Inv X pins σ H s) (r : Vals xs us) (h : sp (xs ++ dvs) H Q E) : wpAny (model X.prog X.w) X.A (call (.ref f) us) (EP X pins σ Q) X.xe s := by
  have rr := Vals.append r hd
  refine wpAny_call (codeAny_mono (F.does X.A gd hr X.stack s H I.env0 ⟨us, []⟩ (us ++ ds) (xs ++ dvs) (hb s us I.kIn (by rw [← rr.length]; exact F.many _ _ _ _ h)) rr Q E h) fun z s2 hz => ?_)
  match z, hz with
  | .error e, hz => exact hx pins σ H s e s2 I hz
  | .ok (.ret u), hz => exact I.after hz
theorem pe_callG (F : FnG X.prog X.w X.K X.mg X.base CX k f fd ps sp) (gd : X.A.guards = some []) (hr : Room k X.A) (hg : Gl X x) (hm : X.mg x = some (.ref f)) (hk : PySem.W.keepIn X.K (.ref f) = true) (hb : Binds X.K fd ps ds) (hd : Vals dvs ds) (hx : Passes CX X E)
    (ha : PA X (e :: es) t) (hdb : (x == ("__debug__" : Str)) = false := by decide) (he : starEach (e :: es) X.env = (false, eval e X.env) :: starEach es X.env := by rfl) (hpl : (backTo pos (starEach es X.env)).any (·.1) = false := by rfl) :
    PE X (.Call (.Name x p) (e :: es) [] pos) (tCall sp dvs E t) :=
  ⟨fun pins s σ H Q I h => wpAny_Call_Name_kw (ld_glob I hg hm (PySem.W.callWith_K (h₀ := X.base) I.ok.mod.kin hk (thn (ha.run pos pins s σ H _ I h) fun us s1 ⟨vs, H1, J, r, q⟩ => ⟨J.kIn, go_g F gd hr hb hd hx J r q⟩) he hpl) hdb)⟩
theorem pe_callG0 (F : FnG X.prog X.w X.K X.mg X.base CX k f fd ps sp) (gd : X.A.guards = some []) (hr : Room k X.A) (hg : Gl X x) (hm : X.mg x = some (.ref f)) (hk : PySem.W.keepIn X.K (.ref f) = true) (hb : Binds X.K fd ps ds) (hd : Vals dvs ds) (hx : Passes CX X E)
    (hdb : (x == ("__debug__" : Str)) = false := by decide) : PE X (.Call (.Name x p) [] [] pos) (tCall sp dvs E tNil) :=
  ⟨fun pins s σ H Q I h => wpAny_Call_Name_kw (ld_glob I hg hm (PySem.W.callWith_K0 I.kIn hk (go_g (us := []) F gd hr hb hd hx I .nil h)) hdb)⟩
end
/-! ### repr -/
def rRepr (K : PySem.W.Frag) : List V → Hp → VK → Prop := fun xs H Q => ∃ (x : V) (d : PyData), xs = [x] ∧ Dp K H x d ∧ d.showable = true ∧ SeqAt.shaped d = true ∧ d.shown.length ≤ sizeLine ∧ Q (.str d.shown) H
theorem call_repr {X : Cx} (gd : X.A.guards = some []) (hu : X.A.units + 65 < cLine) : CallR X (.builtin "repr") (rRepr X.K) := by
  intro pins s σ H xs us Q I r h
  obtain ⟨x, d, rfl, hd, hs, hsh, hl, q⟩ := h
  cases r with
  | cons rx rr =>
    cases rr
    rename_i u
    have hlay : d.canLay0 = true := SeqAt.canLay_of_shaped hsh
    have hdep : d.depth ≤ 64 := by
      have z : (d.canLay0 && decide (d.depth ≤ 64)) = true := hsh
      exact of_decide_eq_true (Bool.and_eq_true_iff.mp z).2
    obtain ⟨as, rd⟩ := Dp.reads I d x u hd rx
    have fin : ∀ h' v tk, (∀ b o, s.heap.get? b = some o → h'.get? b = some o) → EP X pins σ Q (.str d.shown v) { s with heap := h', toks := tk } := fun h' v tk hk => ⟨.str d.shown, H, I.kept hk, ⟨v, rfl⟩, q⟩
    cases hd with
    | non => cases rx; exact PySem.P.repr_of_none (fin _ _ _ fun _ _ z => z)
    | bl b => cases rx; exact PySem.P.repr_of_bool (fin _ _ _ fun _ _ z => z)
    | int i => obtain ⟨t, rfl⟩ := rx; exact PySem.P.repr_of_int (of_decide_eq_true hs) (fin _ _ _ fun _ _ z => z)
    | str y => obtain ⟨t, rfl⟩ := rx; exact PySem.P.repr_of_str (fin _ _ _ fun _ _ z => z) hl
    | lst _ _ => cases rx; exact repr_of_reads' rd hs (PyData.noDict_hsm (PyData.hasDict_of_canLay _ hlay)) gd (by omega) (fun _ _ z => z) fin hl
    | tup _ _ => cases rx; exact repr_of_reads' rd hs (PyData.noDict_hsm (PyData.hasDict_of_canLay _ hlay)) gd (by omega) (fun _ _ z => z) fin hl
theorem k_repr {X : Cx} (K : PySem.W.Frag) (h : X.K = K) (gd : X.A.guards = some []) (hu : X.A.units + 65 < cLine) : CallR X (.builtin "repr") (rRepr K) := by subst h; exact call_repr gd hu
theorem hu65 {k : Nat} {A : Around} (r : Room k A) : A.units + 65 < cLine := by have := r.un; omega
/-- rows of whole numbers, shown -/
theorem dp_ints {K : PySem.W.Frag} {H : Hp} : ∀ ns : List Int, DpAll K H (ns.map V.int) (ns.map PyData.int)
  | [] => .nil
  | n :: ns => .cons (.int n) (dp_ints ns)
theorem dp_row {K : PySem.W.Frag} {H : Hp} {a : Addr} {ns : List Int} (h : SqL K H a (ns.map V.int)) : Dp K H (.ref a) (.list (ns.map PyData.int)) := .lst h (dp_ints ns)
def shownR (ns : List Int) : Str := PyData.shown (.list (ns.map PyData.int))
theorem ints_lay : ∀ ns : List Int, PyData.canLayAll0 (ns.map PyData.int) = true
  | [] => rfl
  | n :: ns => by simp [PyData.canLayAll0, PyData.canLay0, ints_lay ns]
theorem ints_depth : ∀ ns : List Int, PyData.depthAll (ns.map PyData.int) ≤ 1
  | [] => by simp [PyData.depthAll]
  | n :: ns => by
    have := ints_depth ns
    simp only [List.map_cons, PyData.depthAll, PyData.depth]
    omega
theorem row_shaped (ns : List Int) : SeqAt.shaped (.list (ns.map PyData.int)) = true := by
  have h := ints_depth ns
  show (PyData.canLay0 (.list (ns.map PyData.int)) && decide (PyData.depth (.list (ns.map PyData.int)) ≤ 64)) = true
  rw [Bool.and_eq_true]
  exact ⟨by simp only [PyData.canLay0]; exact ints_lay ns, decide_eq_true (by simp only [PyData.depth]; omega)⟩
theorem ints_show : ∀ ns : List Int, (∀ n ∈ ns, n.natAbs.log2 < 1920) → PyData.showableAll (ns.map PyData.int) = true
  | [], _ => rfl
  | n :: ns, h => by
    simp only [List.map_cons, PyData.showableAll, PyData.showable]
    rw [decide_eq_true (h n List.mem_cons_self), ints_show ns fun m hm => h m (List.mem_cons_of_mem _ hm)]
    rfl
/-! ### sorted, any number -/
theorem k_sortedI {X : Cx} (K : PySem.W.Frag) (h : X.K = K) : CallR X (.builtin "sorted") (rSortedI K) := by subst h; exact cr_sortedI
def rSortedA (K : PySem.W.Frag) : List V → Hp → VK → Prop := fun vs H Q => ∃ (a : Addr) (xs : List Str), vs = [V.ref a] ∧ SqL K H a (xs.map V.str) ∧ ∀ (ys : List Str) (p : Addr), ys.Perm xs → sortedS ys = true → H p = none → Q (.ref p) (upd H p (.lst (ys.map V.str)))
theorem k_sortedS {X : Cx} (K : PySem.W.Frag) (h : X.K = K) : CallR X (.builtin "sorted") (rSortedA K) := by
  subst h
  intro pins s σ H vs us Q I r h
  obtain ⟨a, xs, rfl, hs, q⟩ := h
  obtain ⟨its, rv, hl, hz⟩ := I.list hs
  rw [Vals.ref1 r]
  refine sorted_strsAny hl.isList rv.strs (by rw [← rv.length]; exact hz) fun out ys h1 h2 h3 => ?_
  obtain ⟨ep, at_⟩ := sortedAll_at s.heap its out
  refine ⟨.ref _, upd H (s.heap.objs.size + 1) (.lst (ys.map V.str)), I.laid (t' := s.toks) (fun _ _ => sortedAll_old) (Nat.le_succ _) ⟨?_, out.toList, ep, vals_of_strs h1, at_⟩, rfl, q ys _ h2 h3 (I.hok.fresh (Nat.le_succ _))⟩
  rw [List.length_map, h2.length_eq]
  rw [List.length_map] at hz
  exact hz
theorem sorted_le : ∀ (l : List Str) (p : Str), risingS p l = true → (p :: l).Pairwise fun x y => x.cps.toList ≤ y.cps.toList
  | [], p, _ => List.pairwise_singleton _ _
  | x :: r, p, h => by
    obtain ⟨h1, h2⟩ := Bool.and_eq_true_iff.mp (show (!ltCps x.cps.toList p.cps.toList && risingS x r) = true from h)
    have hpx : p.cps.toList ≤ x.cps.toList := by
      rw [ltCps_eq] at h1
      intro z
      rw [decide_eq_true z] at h1
      cases h1
    have ih := sorted_le r x h2
    refine List.pairwise_cons.mpr ⟨fun y hy => ?_, ih⟩
    rcases List.mem_cons.mp hy with rfl | hy
    · exact hpx
    · exact List.le_trans hpx ((List.pairwise_cons.mp ih).1 y hy)
theorem sorted_uniq {xs ys : List Str} (h : xs.Perm ys) (hx : sortedS xs = true) (hy : sortedS ys = true) : xs = ys := by
  have pw : ∀ l : List Str, sortedS l = true → l.Pairwise fun x y => x.cps.toList ≤ y.cps.toList := fun l hl => by
    cases l with
    | nil => exact .nil
    | cons x r => exact sorted_le r x hl
  refine List.Perm.eq_of_pairwise (fun x y _ _ h1 h2 => ?_) (pw _ hx) (pw _ hy) h
  have e := List.le_antisymm h1 h2
  cases x with | mk a => cases y with | mk b => exact congrArg Str.mk (Array.toList_inj.mp e)
end My

namespace My
open PySem PySem.Spec PyProof.Rows L2 Pre
/-! ### texts of bits -/
def sgn (b : Bool) : Nat := if b = true then 49 else 48
def bS (bs : List Bool) : Str := ⟨(bs.map sgn).toArray⟩
theorem bS_len (bs : List Bool) : (bS bs).length = bs.length := by simp [bS, Str.length]
theorem bS_size (bs : List Bool) : (bS bs).cps.size = bs.length := by simp [bS]
theorem bS_app (a b : List Bool) : bS a ++ bS b = bS (a ++ b) := by
  show (⟨(bS a).cps ++ (bS b).cps⟩ : Str) = _
  unfold bS
  rw [List.map_append, List.append_toArray]
theorem sgn_inj {a b : Bool} (h : sgn a = sgn b) : a = b := by cases a <;> cases b <;> first | rfl | (simp [sgn] at h)
theorem bS_inj {a b : List Bool} (h : bS a = bS b) : a = b := by
  have e : a.map sgn = b.map sgn := by
    have := congrArg (fun z : Str => z.cps.toList) h
    simpa [bS] using this
  induction a generalizing b with
  | nil => cases b with
    | nil => rfl
    | cons _ _ => simp at e
  | cons x r ih => cases b with
    | nil => simp at e
    | cons y q =>
      rw [List.map_cons, List.map_cons, List.cons.injEq] at e
      have hr : bS r = bS q := by
        have z : r.map sgn = q.map sgn := e.2
        unfold bS
        rw [z]
      rw [sgn_inj e.1, ih hr e.2]
theorem bS_at {bs : List Bool} {i c : Nat} (h : (bS bs).cps[i]? = some c) : ∃ b, bs[i]? = some b ∧ (⟨#[c]⟩ : Str) = bS [b] := by
  have e : (bs.map sgn)[i]? = some c := by
    unfold bS at h
    rw [← h]
    simp
  rw [List.getElem?_map] at e
  obtain ⟨b, hb, rfl⟩ := Option.map_eq_some_iff.mp e
  exact ⟨b, hb, rfl⟩
theorem bS_atI {bs : List Bool} {i : Nat} {b : Bool} (h : bs[i]? = some b) : atI (bS bs).cps.toList (i : Int) = some (sgn b) := by
  refine atI_nat ?_
  unfold bS
  simp [h]
theorem bS_one (b : Bool) : (⟨#[sgn b]⟩ : Str) = bS [b] := rfl
theorem str_one : (("1" : String) : Str) = bS [true] := by decide +kernel
theorem str_nil : (("" : String) : Str) = bS [] := by decide +kernel
theorem str_zero : (("0" : String) : Str) = bS [false] := by decide +kernel
theorem dec_bS (a b : List Bool) : decide (V.str (bS a) = V.str (bS b)) = decide (a = b) := by
  by_cases h : a = b
  · subst h; simp
  · rw [decide_eq_false h, decide_eq_false]
    exact fun z => h (bS_inj (V.str.inj z))
theorem one_sign (b : Bool) : decide (V.str (bS [b]) = V.str (("1" : String) : Str)) = b := by
  rw [str_one, dec_bS]
  cases b <;> rfl
theorem reps_list (c : List Nat) : ∀ (k : Nat) (acc : List Nat), (List.replicate k c.toArray).foldl (· ++ ·) acc.toArray = (acc ++ (List.replicate k c).flatten).toArray
  | 0, acc => by simp
  | k + 1, acc => by
    rw [List.replicate_succ, List.foldl_cons, List.append_toArray, reps_list c k, List.replicate_succ, List.flatten_cons, List.append_assoc]
theorem bS_mul (k : Nat) : Txt.mul (("0" : String) : Str) (k : Int) = bS (List.replicate k false) := by
  rw [str_zero]
  unfold Txt.mul
  by_cases h0 : (k : Int) < 1
  · rw [if_pos h0, show k = 0 by omega]
    rfl
  · rw [if_neg h0]
    by_cases h1 : k = 1
    · subst h1
      rfl
    · rw [if_neg (by
        rw [Bool.or_eq_true, beq_iff_eq, beq_iff_eq, bS_len]
        simp
        omega), Int.toNat_natCast]
      have := reps_list [48] k []
      unfold bS
      rw [List.map_replicate]
      show (⟨(List.replicate k ([48] : List Nat).toArray).foldl (· ++ ·) ([] : List Nat).toArray⟩ : Str) = _
      rw [this, List.nil_append]
      have e : (List.replicate k [48]).flatten = List.replicate k 48 := by
        clear this h0 h1
        induction k with
        | zero => rfl
        | succ k ih => rw [List.replicate_succ, List.flatten_cons, ih, List.replicate_succ]; rfl
      rw [e]
      rfl
theorem join_bits (bs : List Bool) : Txt.join (("" : String) : Str) (bs.map fun b => bS [b]) = bS bs := by
  rw [TL.join_eq]
  have e0 : TL.tl ((("" : String) : Str)) = [] := by rw [str_nil]; rfl
  have key : ∀ bs : List Bool, TL.joinL [] ((bs.map fun b => bS [b]).map TL.tl) = bs.map sgn := by
    intro bs
    induction bs with
    | nil => rfl
    | cons b r ih =>
      cases r with
      | nil => rfl
      | cons c q =>
        show TL.tl (bS [b]) ++ ([] ++ TL.joinL [] (((c :: q).map fun b => bS [b]).map TL.tl)) = _
        rw [ih]
        rfl
  have h := TL.tl_join (("" : String) : Str) (bs.map fun b => bS [b])
  rw [e0, key] at h
  unfold bS
  rw [← h]
  exact (TL.mk_tl _).symm
section
variable {X : Cx}
def rRepS : R2 := fun x y H Q => ∃ (z : Str) (n : Nat), x = .str z ∧ y = .int n ∧ z.length ≤ 100 ∧ n ≤ 10000 ∧ Q (.str (Txt.mul z n)) H
theorem op_rep_str : OpR X (binaryOp .Mult) rRepS := by
  intro pins s σ H x y v u Q I rx ry h
  obtain ⟨z, n, rfl, rfl, hz, hn, q⟩ := h
  obtain ⟨t, rfl⟩ := rx
  obtain ⟨t', rfl⟩ := ry
  exact PySem.SB.mul (mulOk_of 100 10000 hz (by omega) (by omega) (by decide) (by decide)) fun t' k => ⟨.str (Txt.mul z n), H, I.tok _, ⟨_, rfl⟩, q⟩
end
end My

namespace My
/-! ### folds in bits, read one by one -/
def vF (a : Nat) (bs : List Bool) : Nat := bs.foldl (fun n b => 2 * n + b.toNat) a
theorem vF_nil (a : Nat) : vF a [] = a := rfl
theorem vF_cons (a : Nat) (b : Bool) (r : List Bool) : vF a (b :: r) = vF (2 * a + b.toNat) r := rfl
theorem vF_app (a : Nat) (x y : List Bool) : vF a (x ++ y) = vF (vF a x) y := by unfold vF; rw [List.foldl_append]
theorem vF_eq (a : Nat) (bs : List Bool) : vF a bs = a * 2 ^ bs.length + vF 0 bs := by
  induction bs generalizing a with
  | nil => simp [vF]
  | cons b r ih =>
    rw [vF_cons, ih, vF_cons, ih (2 * 0 + b.toNat), List.length_cons, Nat.pow_succ, Nat.add_mul]
    have : 2 * a * 2 ^ r.length = a * (2 ^ r.length * 2) := by rw [Nat.mul_comm 2 a, Nat.mul_assoc, Nat.mul_comm 2]
    simp only [Nat.mul_zero, Nat.zero_add]
    omega
theorem vF_lt (bs : List Bool) : vF 0 bs < 2 ^ bs.length := by
  induction bs with
  | nil => simp [vF]
  | cons b r ih =>
    rw [vF_cons, vF_eq, List.length_cons, Nat.pow_succ]
    cases b <;> simp <;> omega
theorem vF_mono {a b : Nat} (h : a ≤ b) (bs : List Bool) : vF a bs ≤ vF b bs := by
  rw [vF_eq a, vF_eq b]
  have := Nat.mul_le_mul_right (2 ^ bs.length) h
  omega
theorem vF_ge (a : Nat) (bs : List Bool) : a ≤ vF a bs := by
  rw [vF_eq]
  have : a * 1 ≤ a * 2 ^ bs.length := Nat.mul_le_mul_left a (Nat.one_le_two_pow)
  omega
theorem vF_inj : ∀ {x y : List Bool}, x.length = y.length → vF 0 x = vF 0 y → x = y
  | [], [], _, _ => rfl
  | [], _ :: _, h, _ => nomatch h
  | _ :: _, [], h, _ => nomatch h
  | a :: x, b :: y, h, e => by
    have hl : x.length = y.length := Nat.succ.inj h
    rw [vF_cons, vF_cons, vF_eq (2 * 0 + a.toNat), vF_eq (2 * 0 + b.toNat), hl] at e
    have h1 := vF_lt x
    have h2 := vF_lt y
    rw [hl] at h1
    cases a <;> cases b <;> simp at e
    · rw [vF_inj hl e]
    · omega
    · omega
    · rw [vF_inj hl e]
/-- the low bits of a number, the high ones first -/
def bB (n : Nat) : Nat → List Bool
  | 0 => []
  | k + 1 => (n / 2 ^ k % 2 == 1) :: bB n k
theorem bB_len (n : Nat) : ∀ k, (bB n k).length = k
  | 0 => rfl
  | k + 1 => by unfold bB; rw [List.length_cons, bB_len n k]
theorem bB_val (n : Nat) : ∀ k, vF 0 (bB n k) = n % 2 ^ k
  | 0 => by simp [bB, vF, Nat.mod_one]
  | k + 1 => by
    unfold bB
    rw [vF_cons, vF_eq, bB_val n k, bB_len, Nat.pow_succ, Nat.mod_mul]
    rcases Nat.mod_two_eq_zero_or_one (n / 2 ^ k) with h | h <;> rw [h] <;> simp <;> omega
theorem bB_of (m : Nat) (bs : List Bool) : bB (m * 2 ^ bs.length + vF 0 bs) bs.length = bs := by
  refine vF_inj (bB_len _ _) ?_
  rw [bB_val, Nat.mul_add_mod_of_lt' (vF_lt bs)]
where
  Nat.mul_add_mod_of_lt' {a b c : Nat} (h : c < b) : (a * b + c) % b = c := by
    rw [Nat.add_comm, Nat.add_mul_mod_self_right, Nat.mod_eq_of_lt h]
def ones : List Bool → Nat
  | true :: r => ones r + 1
  | _ => 0
theorem ones_le : ∀ bs : List Bool, ones bs ≤ bs.length
  | [] => Nat.le_refl _
  | true :: r => by unfold ones; rw [List.length_cons]; have := ones_le r; omega
  | false :: r => by simp [ones]
theorem ones_at : ∀ (bs : List Bool) (i : Nat), i < ones bs → bs[i]? = some true
  | [], i, h => by simp [ones] at h
  | false :: r, i, h => by simp [ones] at h
  | true :: r, 0, _ => rfl
  | true :: r, i + 1, h => by
    rw [List.getElem?_cons_succ]
    exact ones_at r i (by unfold ones at h; omega)
theorem ones_stop : ∀ bs : List Bool, bs[ones bs]? ≠ some true
  | [] => by simp
  | false :: r => by simp [ones]
  | true :: r => by
    unfold ones
    rw [List.getElem?_cons_succ]
    exact ones_stop r
theorem ones_uniq {bs : List Bool} {k : Nat} (h1 : ∀ i, i < k → bs[i]? = some true) (h2 : bs[k]? ≠ some true) : ones bs = k := by
  rcases Nat.lt_trichotomy (ones bs) k with h | h | h
  · exact absurd (h1 _ h) (ones_stop bs)
  · exact h
  · exact absurd (ones_at bs k h) h2
theorem ones_split : ∀ (bs : List Bool), ones bs < bs.length → bs = List.replicate (ones bs) true ++ false :: bs.drop (ones bs + 1)
  | [], h => by simp at h
  | false :: r, _ => by simp [ones]
  | true :: r, h => by
    unfold ones at h ⊢
    rw [List.replicate_succ, List.drop_succ_cons, List.cons_append]
    rw [← ones_split r (by rw [List.length_cons] at h; omega)]
theorem ones_of (k : Nat) (r : List Bool) : ones (List.replicate k true ++ false :: r) = k := by
  induction k with
  | zero => rfl
  | succ k ih => rw [List.replicate_succ, List.cons_append]; unfold ones; rw [ih]
/-- the first fold of some bits, and how many bits it has -/
def foldR (w : Nat) (bs : List Bool) : Option (Nat × Nat) :=
  if ones bs + 1 + w ≤ bs.length then some (vF (ones bs) ((bs.drop (ones bs + 1)).take w), ones bs + 1 + w) else none
def rd (w : Nat) : Nat → List Bool → Nat → List (Nat × Nat)
  | 0, _, _ => []
  | k + 1, bs, p => match foldR w bs with
    | none => []
    | some x => (x.1, p + x.2) :: rd w k (bs.drop x.2) (p + x.2)
theorem rd_none {w k : Nat} {bs : List Bool} {p : Nat} (h : foldR w bs = none) : rd w (k + 1) bs p = [] := by
  show (match foldR w bs with
    | none => []
    | some x => (x.1, p + x.2) :: rd w k (bs.drop x.2) (p + x.2)) = _
  rw [h]
theorem rd_some {w k : Nat} {bs : List Bool} {p : Nat} {x : Nat × Nat} (h : foldR w bs = some x) : rd w (k + 1) bs p = (x.1, p + x.2) :: rd w k (bs.drop x.2) (p + x.2) := by
  show (match foldR w bs with
    | none => []
    | some x => (x.1, p + x.2) :: rd w k (bs.drop x.2) (p + x.2)) = _
  rw [h]
/-- all folds of some bits, each with the place behind it -/
def rdT (w : Nat) (bs : List Bool) : List (Nat × Nat) := rd w bs.length bs 0
theorem foldR_le {w : Nat} {bs : List Bool} {x : Nat × Nat} (h : foldR w bs = some x) : 0 < x.2 ∧ x.2 ≤ bs.length := by
  unfold foldR at h
  split at h
  · cases h; exact ⟨by show 0 < ones bs + 1 + w; omega, by assumption⟩
  · cases h
theorem rd_at (w : Nat) : ∀ (k : Nat) (bs : List Bool) (p0 : Nat), bs.length ≤ k → ∀ (j p : Nat), (p0 :: (rd w k bs p0).map (·.2))[j]? = some p →
    p0 ≤ p ∧ p ≤ p0 + bs.length ∧ (foldR w (bs.drop (p - p0))).map (fun x => (x.1, p + x.2)) = (rd w k bs p0)[j]?
  | 0, bs, p0, h, j, p, e => by
    have hb : bs = [] := List.eq_nil_of_length_eq_zero (by omega)
    subst hb
    cases j with
    | zero =>
      cases e
      refine ⟨Nat.le_refl _, Nat.le_refl _, ?_⟩
      have : foldR w ([] : List Bool) = none := by
        unfold foldR
        rw [if_neg (by simp [ones])]
      simp [this, rd]
    | succ j => simp [rd] at e
  | k + 1, bs, p0, h, j, p, e => by
    cases hf : foldR w bs with
    | none =>
      have e1 : rd w (k + 1) bs p0 = [] := rd_none hf
      rw [e1] at e ⊢
      cases j with
      | zero =>
        cases e
        exact ⟨Nat.le_refl _, by omega, by simp [hf]⟩
      | succ j => simp at e
    | some x =>
      obtain ⟨l1, l2⟩ := foldR_le hf
      have e1 : rd w (k + 1) bs p0 = (x.1, p0 + x.2) :: rd w k (bs.drop x.2) (p0 + x.2) := rd_some hf
      rw [e1] at e ⊢
      cases j with
      | zero =>
        cases e
        exact ⟨Nat.le_refl _, by omega, by simp [hf]⟩
      | succ j =>
        rw [List.getElem?_cons_succ, List.map_cons] at e
        obtain ⟨q1, q2, q3⟩ := rd_at w k (bs.drop x.2) (p0 + x.2) (by rw [List.length_drop]; omega) j p e
        rw [List.length_drop] at q2
        refine ⟨by omega, by omega, ?_⟩
        rw [List.getElem?_cons_succ, ← q3, List.drop_drop]
        have : x.2 + (p - (p0 + x.2)) = p - p0 := by omega
        rw [this]
/-- the place at which the fold number j begins -/
def plc (w : Nat) (bs : List Bool) (j : Nat) : Nat := ((0 :: (rdT w bs).map (·.2))[j]?).getD 0
theorem plc_get {w : Nat} {bs : List Bool} {j : Nat} (h : j ≤ (rdT w bs).length) : (0 :: (rdT w bs).map (·.2))[j]? = some (plc w bs j) := by
  unfold plc
  rw [List.getElem?_eq_getElem (by simp; omega), Option.getD_some]
theorem plc_zero (w : Nat) (bs : List Bool) : plc w bs 0 = 0 := rfl
theorem plc_step {w : Nat} {bs : List Bool} {j : Nat} (h : j ≤ (rdT w bs).length) : plc w bs j ≤ bs.length ∧ (foldR w (bs.drop (plc w bs j))).map (fun x => (x.1, plc w bs j + x.2)) = (rdT w bs)[j]? := by
  obtain ⟨q1, q2, q3⟩ := rd_at w bs.length bs 0 (Nat.le_refl _) j _ (plc_get h)
  rw [Nat.sub_zero] at q3
  exact ⟨by omega, q3⟩
theorem plc_next {w : Nat} {bs : List Bool} {j : Nat} {x : Nat × Nat} (h : (rdT w bs)[j]? = some x) : plc w bs (j + 1) = x.2 := by
  unfold plc
  rw [List.getElem?_cons_succ, List.getElem?_map, h]
  rfl
theorem rd_len (w : Nat) : ∀ (k : Nat) (bs : List Bool) (p : Nat), (rd w k bs p).length ≤ bs.length
  | 0, _, _ => by simp [rd]
  | k + 1, bs, p => by
    cases hf : foldR w bs with
    | none => rw [rd_none hf]; simp
    | some x =>
      rw [rd_some hf]
      obtain ⟨l1, l2⟩ := foldR_le hf
      have := rd_len w k (bs.drop x.2) (p + x.2)
      rw [List.length_drop] at this
      simp only [List.length_cons]
      omega
theorem rdT_len (w : Nat) (bs : List Bool) : (rdT w bs).length ≤ bs.length := rd_len w _ _ _
/-- the bits of one fold -/
def tx1 (w f : Nat) : List Bool := List.replicate (f / 2 ^ w) true ++ false :: bB f w
def txF (w : Nat) (fs : List Nat) : List Bool := fs.flatMap (tx1 w)
theorem tx1_len (w f : Nat) : (tx1 w f).length = f / 2 ^ w + 1 + w := by
  unfold tx1
  rw [List.length_append, List.length_replicate, List.length_cons, bB_len]
  omega
theorem foldR_tx1 (w f : Nat) (r : List Bool) : foldR w (tx1 w f ++ r) = some (f, (tx1 w f).length) := by
  have e : tx1 w f ++ r = List.replicate (f / 2 ^ w) true ++ false :: (bB f w ++ r) := by
    unfold tx1
    rw [List.append_assoc, List.cons_append]
  unfold foldR
  rw [tx1_len, e, ones_of]
  rw [if_pos (by rw [List.length_append, List.length_replicate, List.length_cons, List.length_append, bB_len]; omega)]
  have e2 : (List.replicate (f / 2 ^ w) true ++ false :: (bB f w ++ r)).drop (f / 2 ^ w + 1) = bB f w ++ r := by
    rw [List.drop_append_of_le_length' , List.length_replicate]
    · have : f / 2 ^ w + 1 - f / 2 ^ w = 1 := by omega
      rw [this]
      simp
  have e3 : (bB f w ++ r).take w = bB f w := by
    rw [List.take_append_of_le_length (by rw [bB_len]; exact Nat.le_refl _), List.take_of_length_le (by rw [bB_len]; exact Nat.le_refl _)]
  rw [e2, e3, vF_eq, bB_val, bB_len]
  have := Nat.div_add_mod f (2 ^ w)
  rw [Nat.mul_comm, ] at this
  rw [this]
where
  List.drop_append_of_le_length' {n : Nat} {a b : List Bool} : (a ++ b).drop n = a.drop n ++ b.drop (n - a.length) := List.drop_append
/-- written and read -/
theorem rd_tx (w : Nat) : ∀ (fs : List Nat) (more : List Bool) (k p : Nat), (txF w fs ++ more).length ≤ k →
    ((rd w k (txF w fs ++ more) p).take fs.length).map (·.1) = fs ∧ (p :: (rd w k (txF w fs ++ more) p).map (·.2))[fs.length]? = some (p + (txF w fs).length)
  | [], more, k, p, _ => by simp [txF]
  | f :: fs, more, k, p, h => by
    have e : txF w (f :: fs) ++ more = tx1 w f ++ (txF w fs ++ more) := by
      show (tx1 w f ++ txF w fs) ++ more = _
      rw [List.append_assoc]
    have el : (txF w (f :: fs)).length = (tx1 w f).length + (txF w fs).length := by
      show (tx1 w f ++ txF w fs).length = _
      rw [List.length_append]
    rw [e] at h ⊢
    have hp : 1 ≤ (tx1 w f).length := by
      rw [tx1_len]
      exact Nat.le_trans (Nat.le_add_left 1 _) (Nat.le_add_right _ _)
    rw [List.length_append] at h
    cases k with
    | zero => omega
    | succ k =>
      rw [rd_some (foldR_tx1 w f _)]
      have e2 : (tx1 w f ++ (txF w fs ++ more)).drop (tx1 w f).length = txF w fs ++ more := by simp
      rw [e2]
      obtain ⟨q1, q2⟩ := rd_tx w fs more k (p + (tx1 w f).length) (by omega)
      refine ⟨?_, ?_⟩
      · rw [List.length_cons, List.take_succ_cons, List.map_cons, q1]
      · rw [List.length_cons, List.getElem?_cons_succ, List.map_cons, q2, el]
        congr 1
        omega
theorem rdT_tx (w : Nat) (fs : List Nat) (more : List Bool) : ((rdT w (txF w fs ++ more)).take fs.length).map (·.1) = fs ∧ fs.length ≤ (rdT w (txF w fs ++ more)).length ∧ plc w (txF w fs ++ more) fs.length = (txF w fs).length := by
  obtain ⟨q1, q2⟩ := rd_tx w fs more _ 0 (Nat.le_refl _)
  refine ⟨q1, ?_, ?_⟩
  · have := congrArg List.length q1
    rw [List.length_map, List.length_take] at this
    have : min fs.length (rdT w (txF w fs ++ more)).length = fs.length := this
    omega
  · unfold plc
    show ((0 :: (rd w _ (txF w fs ++ more) 0).map (·.2))[fs.length]?).getD 0 = _
    rw [q2, Option.getD_some, Nat.zero_add]
/-! ### read whole -/
def whole (w : Nat) (bs : List Bool) : Bool := plc w bs (rdT w bs).length == bs.length
theorem lastE {w : Nat} {bs : List Bool} : (0 :: (rdT w bs).map (·.2)).getLast (by simp) = plc w bs (rdT w bs).length := by
  unfold plc
  rw [List.getLast_eq_getElem]
  simp
def goS (w s : Int) (b : Bool) : Int := if 0 < s then s - 1 else if b = true then -1 else w
def runS (w s : Int) (bs : List Bool) : Int := bs.foldl (goS w) s
theorem run_cons (w s : Int) (b : Bool) (r : List Bool) : runS w s (b :: r) = runS w (goS w s b) r := rfl
theorem run_app (w s : Int) (x y : List Bool) : runS w s (x ++ y) = runS w (runS w s x) y := by unfold runS; rw [List.foldl_append]
theorem run_ones (w : Int) (k : Nat) : runS w 0 (List.replicate k true) = if k = 0 then 0 else -1 := by
  cases k with
  | zero => rfl
  | succ k =>
    rw [if_neg (by omega), List.replicate_succ, run_cons]
    show runS w (-1) _ = -1
    induction k with
    | zero => rfl
    | succ k ih => rw [List.replicate_succ, run_cons]; exact ih
theorem run_down (w : Nat) : ∀ (n : Nat) (bs : List Bool), runS w n bs = if bs.length < n then ((n - bs.length : Nat) : Int) else runS w 0 (bs.drop n)
  | 0, bs => by rw [if_neg (by omega)]; rfl
  | n + 1, [] => by rw [if_pos (by simp)]; rfl
  | n + 1, b :: r => by
    rw [run_cons]
    have e : goS w ((n + 1 : Nat) : Int) b = (n : Nat) := by
      unfold goS
      rw [if_pos (by omega)]
      omega
    rw [e, run_down w n r, List.length_cons, List.drop_succ_cons]
    by_cases h : r.length < n
    · rw [if_pos h, if_pos (by omega)]
      congr 1
      omega
    · rw [if_neg h, if_neg (by omega)]
def lastP (p : Nat) (l : List (Nat × Nat)) : Nat := (p :: l.map (·.2)).getLast (by simp)
theorem lastP_cons (p : Nat) (x : Nat × Nat) (l : List (Nat × Nat)) : lastP p (x :: l) = lastP x.2 l := by
  unfold lastP
  simp
theorem whole_run (w : Nat) : ∀ (k : Nat) (bs : List Bool) (p : Nat), bs.length ≤ k → (lastP p (rd w k bs p) = p + bs.length ↔ runS w 0 bs = 0)
  | 0, bs, p, h => by
    have hb : bs = [] := List.eq_nil_of_length_eq_zero (by omega)
    subst hb
    simp [rd, lastP, runS]
  | k + 1, bs, p, h => by
    have ho := ones_le bs
    by_cases h0 : ones bs < bs.length
    · have sp := ones_split bs h0
      have hrun : runS w 0 bs = runS w w (bs.drop (ones bs + 1)) := by
        conv => lhs; rw [sp]
        rw [run_app, run_ones, run_cons]
        have : goS w (if ones bs = 0 then 0 else -1) false = w := by
          unfold goS
          rw [if_neg (by split <;> omega), if_neg (by simp)]
        rw [this]
      rw [hrun, run_down, List.length_drop]
      by_cases h1 : ones bs + 1 + w ≤ bs.length
      · have hf : foldR w bs = some (vF (ones bs) ((bs.drop (ones bs + 1)).take w), ones bs + 1 + w) := by
          unfold foldR
          rw [if_pos h1]
        rw [if_neg (by omega), rd_some hf, lastP_cons, List.drop_drop]
        have ih := whole_run w k (bs.drop (ones bs + 1 + w)) (p + (ones bs + 1 + w)) (by rw [List.length_drop]; omega)
        rw [List.length_drop] at ih
        show lastP (p + (ones bs + 1 + w)) (rd w k (bs.drop (ones bs + 1 + w)) (p + (ones bs + 1 + w))) = _ ↔ _
        rw [← ih]
        constructor <;> intro e <;> omega
      · have hf : foldR w bs = none := by
          unfold foldR
          rw [if_neg h1]
        rw [if_pos (by omega), rd_none hf]
        show p = p + bs.length ↔ _
        constructor <;> intro e <;> omega
    · have e1 : ones bs = bs.length := by omega
      have hf : foldR w bs = none := by
        unfold foldR
        rw [if_neg (by omega)]
      rw [rd_none hf]
      have hr : bs = List.replicate (ones bs) true := by
        refine List.eq_replicate_iff.mpr ⟨e1.symm, fun b hb => ?_⟩
        obtain ⟨i, hi, rfl⟩ := List.getElem_of_mem hb
        have := ones_at bs i (by omega)
        rw [List.getElem?_eq_getElem hi] at this
        exact Option.some.inj this
      have hrun : runS w 0 bs = if ones bs = 0 then 0 else -1 := by
        conv => lhs; rw [hr]
        exact run_ones _ _
      rw [hrun]
      show p = p + bs.length ↔ _
      by_cases h2 : ones bs = 0
      · rw [if_pos h2]; constructor <;> intro e <;> omega
      · rw [if_neg h2]; constructor <;> intro e <;> omega
theorem whole_iff (w : Nat) (bs : List Bool) : whole w bs = true ↔ runS w 0 bs = 0 := by
  rw [← whole_run w bs.length bs 0 (Nat.le_refl _), Nat.zero_add]
  unfold whole
  rw [beq_iff_eq, ← lastE]
  exact Iff.rfl
theorem tx_rd (w : Nat) : ∀ (k : Nat) (bs : List Bool) (p : Nat), bs.length ≤ k → lastP p (rd w k bs p) = p + bs.length → txF w ((rd w k bs p).map (·.1)) = bs
  | 0, bs, p, h, _ => by
    have hb : bs = [] := List.eq_nil_of_length_eq_zero (by omega)
    subst hb
    rfl
  | k + 1, bs, p, h, e => by
    cases hf : foldR w bs with
    | none =>
      rw [rd_none hf] at e ⊢
      have e' : p = p + bs.length := e
      have hb : bs = [] := List.eq_nil_of_length_eq_zero (by omega)
      subst hb
      rfl
    | some x =>
      obtain ⟨l1, l2⟩ := foldR_le hf
      rw [rd_some hf, lastP_cons] at e
      rw [rd_some hf]
      have ih := tx_rd w k (bs.drop x.2) (p + x.2) (by rw [List.length_drop]; omega) (by rw [List.length_drop]; simp only at e; omega)
      show tx1 w x.1 ++ txF w ((rd w k (bs.drop x.2) (p + x.2)).map (·.1)) = bs
      rw [ih]
      unfold foldR at hf
      split at hf
      · rename_i h1
        cases hf
        have hl : ((bs.drop (ones bs + 1)).take w).length = w := by rw [List.length_take, List.length_drop]; omega
        have lo := vF_lt ((bs.drop (ones bs + 1)).take w)
        rw [hl] at lo
        show tx1 w (vF (ones bs) ((bs.drop (ones bs + 1)).take w)) ++ bs.drop (ones bs + 1 + w) = bs
        unfold tx1
        have e1 : vF (ones bs) ((bs.drop (ones bs + 1)).take w) = ones bs * 2 ^ w + vF 0 ((bs.drop (ones bs + 1)).take w) := by rw [vF_eq, hl]
        have e2 : vF (ones bs) ((bs.drop (ones bs + 1)).take w) / 2 ^ w = ones bs := by
          rw [e1, Nat.add_comm, Nat.add_mul_div_right _ _ (Nat.two_pow_pos w), Nat.div_eq_of_lt lo, Nat.zero_add]
        have e3 : bB (vF (ones bs) ((bs.drop (ones bs + 1)).take w)) w = (bs.drop (ones bs + 1)).take w := by
          rw [e1]
          conv => lhs; arg 2; rw [← hl]
          rw [show ones bs * 2 ^ w = ones bs * 2 ^ ((bs.drop (ones bs + 1)).take w).length by rw [hl]]
          exact bB_of _ _
        have e4 : bs.drop (ones bs + 1 + w) = (bs.drop (ones bs + 1)).drop w := List.drop_drop.symm
        rw [e2, e3, e4, List.append_assoc, List.cons_append, List.take_append_drop]
        exact (ones_split bs (by omega)).symm
      · cases hf
theorem tx_whole {w : Nat} {bs : List Bool} (h : whole w bs = true) : txF w ((rdT w bs).map (·.1)) = bs := by
  refine tx_rd w _ bs 0 (Nat.le_refl _) ?_
  rw [Nat.zero_add]
  unfold whole at h
  rw [beq_iff_eq, ← lastE] at h
  exact h
end My

namespace My
/-! ### the shortest bits that lead back: a search in order -/
section
variable {α : Type} (go : α → Bool → α) (z : α)
def runG (s : α) (bs : List Bool) : α := bs.foldl go s
theorem runG_app (s : α) (x y : List Bool) : runG go s (x ++ y) = runG go (runG go s x) y := by unfold runG; rw [List.foldl_append]
/-- a search: entry i of the pile is gone on with, its signs before c are done -/
structure Bfs (P : List (List Bool)) (i c : Nat) : Prop where
  first : P[0]? = some []
  asc : ∀ (a b : Nat) (t u : List Bool), a < b → P[a]? = some t → P[b]? = some u → vF 1 t < vF 1 u
  dist : ∀ (a b : Nat) (t u : List Bool), P[a]? = some t → P[b]? = some u → runG go z t = runG go z u → a = b
  below : ∀ (a : Nat) (t u : List Bool), P[a]? = some t → P[i]? = some u → vF 1 t < 2 * vF 1 u + c
  done : ∀ (a : Nat) (t : List Bool) (d : Bool), P[a]? = some t → (a < i ∨ (a = i ∧ d.toNat < c)) → runG go z (t ++ [d]) ≠ z ∧ ∃ (k : Nat) (u : List Bool), P[k]? = some u ∧ runG go z u = runG go z (t ++ [d]) ∧ vF 1 u ≤ 2 * vF 1 t + d.toNat
variable {go : α → Bool → α} {z : α} {P : List (List Bool)} {i c : Nat}
theorem vF_snoc (t : List Bool) (d : Bool) : vF 1 (t ++ [d]) = 2 * vF 1 t + d.toNat := by rw [vF_app]; rfl
theorem bfs_start : Bfs go z [[]] 0 0 where
  first := rfl
  asc := fun a b t u h ha hb => by
    have h1 := (List.getElem?_eq_some_iff.mp hb).1
    simp at h1
    omega
  dist := fun a b t u ha hb _ => by
    have h1 := (List.getElem?_eq_some_iff.mp ha).1
    have h2 := (List.getElem?_eq_some_iff.mp hb).1
    simp at h1 h2
    omega
  below := fun a t u ha hb => by
    have h1 := (List.getElem?_eq_some_iff.mp ha).1
    simp at h1
    subst h1
    cases ha
    cases hb
    decide
  done := fun a t d ha h => by omega
theorem Bfs.old (B : Bfs go z P i c) {t : List Bool} {d : Bool} (ht : P[i]? = some t) (hc : c = d.toNat) (hz : runG go z (t ++ [d]) ≠ z) (hk : ∃ (k : Nat) (u : List Bool), P[k]? = some u ∧ runG go z u = runG go z (t ++ [d])) : Bfs go z P i (c + 1) where
  first := B.first
  asc := B.asc
  dist := B.dist
  below := fun a x u ha hb => by have := B.below a x u ha hb; omega
  done := fun a x e ha h => by
    by_cases he : a < i ∨ (a = i ∧ e.toNat < c)
    · exact B.done a x e ha he
    · have e1 : a = i := by omega
      subst e1
      rw [ht] at ha
      cases ha
      have e2 : e = d := by
        have : e.toNat = d.toNat := by omega
        cases e <;> cases d <;> first | rfl | simp at this
      subst e2
      obtain ⟨k, u, hu, hr⟩ := hk
      refine ⟨hz, k, u, hu, hr, ?_⟩
      have := B.below k u t hu ht
      omega
theorem Bfs.new (B : Bfs go z P i c) {t : List Bool} {d : Bool} (ht : P[i]? = some t) (hc : c = d.toNat) (hz : runG go z (t ++ [d]) ≠ z) (hk : ¬ ∃ (k : Nat) (u : List Bool), P[k]? = some u ∧ runG go z u = runG go z (t ++ [d])) : Bfs go z (P ++ [t ++ [d]]) i (c + 1) := by
  have hi : i < P.length := (List.getElem?_eq_some_iff.mp ht).1
  have gt : ∀ {a : Nat} {x : List Bool}, (P ++ [t ++ [d]])[a]? = some x → (a < P.length ∧ P[a]? = some x) ∨ (a = P.length ∧ x = t ++ [d]) := fun {a x} h => by
    by_cases ha : a < P.length
    · rw [List.getElem?_append_left ha] at h
      exact .inl ⟨ha, h⟩
    · have h1 := (List.getElem?_eq_some_iff.mp h).1
      rw [List.length_append, List.length_singleton] at h1
      have e : a = P.length := by omega
      subst e
      rw [List.getElem?_append_right (Nat.le_refl _), Nat.sub_self] at h
      cases h
      exact .inr ⟨rfl, rfl⟩
  have old : ∀ {a : Nat} {x : List Bool}, P[a]? = some x → (P ++ [t ++ [d]])[a]? = some x := fun {a x} h => by
    rw [List.getElem?_append_left (List.getElem?_eq_some_iff.mp h).1]
    exact h
  have last : (P ++ [t ++ [d]])[P.length]? = some (t ++ [d]) := by
    rw [List.getElem?_append_right (Nat.le_refl _), Nat.sub_self]
    rfl
  have sn := vF_snoc t d
  refine ⟨old B.first, fun a b x u h ha hb => ?_, fun a b x u ha hb e => ?_, fun a x u ha hb => ?_, fun a x e ha h => ?_⟩
  · rcases gt ha with ⟨l1, q1⟩ | ⟨l1, rfl⟩ <;> rcases gt hb with ⟨l2, q2⟩ | ⟨l2, rfl⟩
    · exact B.asc a b x u h q1 q2
    · have := B.below a x t q1 ht
      omega
    · omega
    · omega
  · rcases gt ha with ⟨l1, q1⟩ | ⟨l1, rfl⟩ <;> rcases gt hb with ⟨l2, q2⟩ | ⟨l2, rfl⟩
    · exact B.dist a b x u q1 q2 e
    · exact absurd ⟨a, x, q1, e⟩ hk
    · exact absurd ⟨b, u, q2, e.symm⟩ hk
    · omega
  · rcases gt hb with ⟨l2, q2⟩ | ⟨l2, rfl⟩
    · rw [ht] at q2
      cases q2
      rcases gt ha with ⟨l1, q1⟩ | ⟨l1, rfl⟩
      · have := B.below a x t q1 ht
        omega
      · omega
    · omega
  · have up : ∀ {y : List Bool} {n : Nat}, (∃ (k : Nat) (u : List Bool), P[k]? = some u ∧ runG go z u = runG go z y ∧ vF 1 u ≤ n) → ∃ (k : Nat) (u : List Bool), (P ++ [t ++ [d]])[k]? = some u ∧ runG go z u = runG go z y ∧ vF 1 u ≤ n := fun ⟨k, u, h1, h2⟩ => ⟨k, u, old h1, h2⟩
    have ai : a < P.length := by omega
    rcases gt ha with ⟨l1, q1⟩ | ⟨l1, rfl⟩
    · by_cases he : a < i ∨ (a = i ∧ e.toNat < c)
      · obtain ⟨h1, h2⟩ := B.done a x e q1 he
        exact ⟨h1, up h2⟩
      · have e1 : a = i := by omega
        subst e1
        rw [ht] at q1
        cases q1
        have e2 : e = d := by
          have : e.toNat = d.toNat := by omega
          cases e <;> cases d <;> first | rfl | simp at this
        subst e2
        exact ⟨hz, _, _, last, rfl, by omega⟩
    · omega
theorem Bfs.next (B : Bfs go z P i 2) : Bfs go z P (i + 1) 0 where
  first := B.first
  asc := B.asc
  dist := B.dist
  below := fun a t u ha hb => by
    have hi : i + 1 < P.length := (List.getElem?_eq_some_iff.mp hb).1
    have h1 := B.below a t _ ha (List.getElem?_eq_getElem (show i < P.length by omega))
    have h2 := B.asc i (i + 1) _ u (Nat.lt_succ_self i) (List.getElem?_eq_getElem (show i < P.length by omega)) hb
    omega
  done := fun a t d ha h => by
    refine B.done a t d ha ?_
    rcases h with h | h
    · by_cases e : a < i
      · exact .inl e
      · exact .inr ⟨by omega, by cases d <;> decide⟩
    · omega
theorem Bfs.ahead (B : Bfs go z P i c) : ∀ (u : List Bool) (k : Nat) (t : List Bool) (N : Nat), P[k]? = some t → u ≠ [] → runG go (runG go z t) u = z → vF (vF 1 t) u ≤ N →
    ∃ k' t' d u', P[k']? = some t' ∧ (i < k' ∨ (k' = i ∧ c ≤ d.toNat)) ∧ vF (vF 1 t') (d :: u') ≤ N
  | [], _, _, _, _, h, _, _ => absurd rfl h
  | d :: u, k, t, N, ht, _, hr, hN => by
    by_cases hd : k < i ∨ (k = i ∧ d.toNat < c)
    · obtain ⟨h1, k', u', h2, h3, h4⟩ := B.done k t d ht hd
      have e : runG go z (t ++ [d]) = go (runG go z t) d := by rw [runG_app]; rfl
      have hr' : runG go (runG go z u') u = z := by
        rw [h3, e]
        exact hr
      have hne : u ≠ [] := fun z' => by
        subst z'
        rw [e] at h1
        exact h1 hr
      exact B.ahead u k' u' N h2 hne hr' (Nat.le_trans (vF_mono h4 u) hN)
    · exact ⟨k, t, d, u, ht, by omega, hN⟩
theorem Bfs.found (B : Bfs go z P i c) {t : List Bool} {d : Bool} (ht : P[i]? = some t) (hc : c = d.toNat) {R : List Bool} (hR : R ≠ []) (hz : runG go z R = z) : vF 1 (t ++ [d]) ≤ vF 1 R := by
  obtain ⟨k, x, e, u, hx, h1, h2⟩ := B.ahead R 0 [] (vF 1 R) B.first hR hz (Nat.le_refl _)
  rw [vF_cons] at h2
  have h3 := vF_ge (2 * vF 1 x + e.toNat) u
  rw [vF_snoc]
  rcases h1 with h1 | ⟨rfl, h1⟩
  · have h4 := B.asc i k t x h1 ht hx
    cases d <;> simp at hc ⊢ <;> omega
  · rw [ht] at hx
    cases hx
    omega
theorem Bfs.goes (B : Bfs go z P i c) {R : List Bool} (hR : R ≠ []) (hz : runG go z R = z) : i < P.length ∧ ∀ t, P[i]? = some t → vF 1 t ≤ vF 1 R := by
  obtain ⟨k, x, e, u, hx, h1, h2⟩ := B.ahead R 0 [] (vF 1 R) B.first hR hz (Nat.le_refl _)
  rw [vF_cons] at h2
  have h3 := vF_ge (2 * vF 1 x + e.toNat) u
  have hk := (List.getElem?_eq_some_iff.mp hx).1
  refine ⟨by omega, fun t ht => ?_⟩
  rcases h1 with h1 | ⟨rfl, h1⟩
  · have h4 := B.asc i k t x h1 ht hx
    omega
  · rw [ht] at hx
    cases hx
    omega
end
theorem pigeon : ∀ (N : Nat) (l : List Nat), l.Nodup → (∀ x ∈ l, x < N) → l.length ≤ N
  | 0, [], _, _ => Nat.le_refl _
  | 0, x :: _, _, h => absurd (h x List.mem_cons_self) (Nat.not_lt_zero _)
  | N + 1, l, hn, h => by
    have ih := pigeon N (l.erase N) (hn.erase N) fun x hx => by
      have h1 := h x (List.mem_of_mem_erase hx)
      have h2 : x ≠ N := fun e => by
        subst e
        exact (List.Nodup.not_mem_erase hn) hx
      omega
    have := List.length_erase (a := N) (l := l)
    split at this <;> omega
/-! ### two widths at once -/
def go2 (w v : Nat) (s : Int × Int) (b : Bool) : Int × Int := (goS w s.1 b, goS v s.2 b)
theorem run2 (w v : Nat) (s : Int × Int) (bs : List Bool) : runG (go2 w v) s bs = (runS w s.1 bs, runS v s.2 bs) := by
  induction bs generalizing s with
  | nil => rfl
  | cons b r ih => exact ih _
theorem run2_whole (w v : Nat) (bs : List Bool) : runG (go2 w v) (0, 0) bs = (0, 0) ↔ (whole w bs && whole v bs) = true := by
  rw [run2, Bool.and_eq_true, whole_iff, whole_iff, Prod.mk.injEq]
theorem goS_box {w : Nat} {s : Int} (h : -1 ≤ s ∧ s ≤ w) (b : Bool) : -1 ≤ goS w s b ∧ goS w s b ≤ w := by
  unfold goS
  split
  · omega
  · split <;> omega
theorem runS_box {w : Nat} (bs : List Bool) : ∀ {s : Int}, (-1 ≤ s ∧ s ≤ w) → -1 ≤ runS w s bs ∧ runS w s bs ≤ w := by
  induction bs with
  | nil => intro s h; exact h
  | cons b r ih => intro s h; exact ih (goS_box h b)
theorem run_noughts (w : Nat) (m : Nat) : runS w 0 (List.replicate ((w + 1) * m) false) = 0 := by
  induction m with
  | zero => rfl
  | succ m ih =>
    rw [Nat.mul_succ, ← List.replicate_append_replicate, run_app, ih, List.replicate_succ, run_cons]
    have e : goS w 0 false = w := by unfold goS; simp
    rw [e, run_down, List.length_replicate, if_neg (by omega)]
    have : (List.replicate w false).drop w = [] := by simp
    rw [this]
    rfl
def backN (w v : Nat) : List Bool := List.replicate ((w + 1) * (v + 1)) false
theorem backN_run (w v : Nat) : runG (go2 w v) (0, 0) (backN w v) = (0, 0) := by
  rw [run2]
  unfold backN
  rw [run_noughts]
  show (0, runS v 0 (List.replicate ((w + 1) * (v + 1)) false)) = _
  rw [Nat.mul_comm, run_noughts]
theorem backN_ne (w v : Nat) : backN w v ≠ [] := fun h => by
  have := congrArg List.length h
  unfold backN at this
  rw [List.length_replicate] at this
  have h2 : 0 < (w + 1) * (v + 1) := Nat.mul_pos (by omega) (by omega)
  simp at this
theorem vF_len {t R : List Bool} (h : vF 1 t ≤ vF 1 R) : t.length ≤ R.length := by
  rw [vF_eq 1 t, vF_eq 1 R] at h
  have := vF_lt R
  by_cases e : t.length ≤ R.length
  · exact e
  · have : 2 ^ (R.length + 1) ≤ 2 ^ t.length := Nat.pow_le_pow_right (by omega) (by omega)
    rw [Nat.pow_succ] at this
    omega
theorem vF_short {t R : List Bool} (h : R.length < t.length) : ¬ vF 1 t ≤ vF 1 R := fun e => by
  have := vF_len e
  omega
/-- the pile is no longer than there are pairs -/
theorem Bfs.size {w v : Nat} {P : List (List Bool)} {i c : Nat} (B : Bfs (go2 w v) (0, 0) P i c) : P.length ≤ (w + 2) * (v + 2) := by
  let f : List Bool → Nat := fun t => (runS w 0 t + 1).toNat * (v + 2) + (runS v 0 t + 1).toNat
  have key : ((P.map f)).length ≤ (w + 2) * (v + 2) := by
    refine pigeon _ _ ?_ ?_
    · rw [List.nodup_iff_pairwise_ne, List.pairwise_iff_getElem]
      intro a b ha hb hab e
      rw [List.length_map] at ha hb
      rw [List.getElem_map, List.getElem_map] at e
      have q : runG (go2 w v) (0, 0) P[a] = runG (go2 w v) (0, 0) P[b] := by
        rw [run2, run2]
        have x1 := runS_box (w := w) P[a] (s := 0) ⟨by omega, by omega⟩
        have x2 := runS_box (w := v) P[a] (s := 0) ⟨by omega, by omega⟩
        have y1 := runS_box (w := w) P[b] (s := 0) ⟨by omega, by omega⟩
        have y2 := runS_box (w := v) P[b] (s := 0) ⟨by omega, by omega⟩
        have e' : (runS w 0 P[a] + 1).toNat * (v + 2) + (runS v 0 P[a] + 1).toNat = (runS w 0 P[b] + 1).toNat * (v + 2) + (runS v 0 P[b] + 1).toNat := e
        have d1 : ((runS w 0 P[a] + 1).toNat * (v + 2) + (runS v 0 P[a] + 1).toNat) / (v + 2) = (runS w 0 P[a] + 1).toNat := by
          rw [Nat.add_comm, Nat.add_mul_div_right _ _ (by omega), Nat.div_eq_of_lt (by omega), Nat.zero_add]
        have d2 : ((runS w 0 P[b] + 1).toNat * (v + 2) + (runS v 0 P[b] + 1).toNat) / (v + 2) = (runS w 0 P[b] + 1).toNat := by
          rw [Nat.add_comm, Nat.add_mul_div_right _ _ (by omega), Nat.div_eq_of_lt (by omega), Nat.zero_add]
        rw [e', d2] at d1
        have h1 : runS w 0 P[a] = runS w 0 P[b] := by omega
        rw [d1] at e'
        have h2 : runS v 0 P[a] = runS v 0 P[b] := by omega
        show (runS w 0 P[a], runS v 0 P[a]) = (runS w 0 P[b], runS v 0 P[b])
        rw [h1, h2]
      have := B.dist a b _ _ (List.getElem?_eq_getElem ha) (List.getElem?_eq_getElem hb) q
      omega
    · intro x hx
      obtain ⟨t, _, rfl⟩ := List.mem_map.mp hx
      have x1 := runS_box (w := w) t (s := 0) ⟨by omega, by omega⟩
      have x2 := runS_box (w := v) t (s := 0) ⟨by omega, by omega⟩
      show (runS w 0 t + 1).toNat * (v + 2) + (runS v 0 t + 1).toNat < _
      have h1 : (runS w 0 t + 1).toNat ≤ w + 1 := by omega
      have h2 := Nat.mul_le_mul_right (v + 2) h1
      have e : (w + 2) * (v + 2) = (w + 1) * (v + 2) + (v + 2) := by rw [← Nat.succ_mul]
      omega
  rwa [List.length_map] at key
/-- the first bits in order that both widths read whole -/
def IsBoth (w v : Nat) (T : List Bool) : Prop := T ≠ [] ∧ whole w T = true ∧ whole v T = true ∧ ∀ R : List Bool, R ≠ [] → whole w R = true → whole v R = true → vF 1 T ≤ vF 1 R
theorem IsBoth.len {w v : Nat} {T : List Bool} (h : IsBoth w v T) : T.length ≤ (w + 1) * (v + 1) := by
  have h1 := (run2_whole w v _).mp (backN_run w v)
  rw [Bool.and_eq_true] at h1
  have := vF_len (h.2.2.2 _ (backN_ne w v) h1.1 h1.2)
  unfold backN at this
  rwa [List.length_replicate] at this
end My

namespace My
open PySem PySem.Spec PyProof.Rows L2 Pre
/-! ### a dict display of one tuple; sets in comprehensions; texts of bits -/
def tDisp1T (tk tv : TE) : TE := fun σ H Q => ∀ p, H p = none → tk σ (L2.upd H p (.dT [])) fun x H1 => tv σ H1 fun y H2 => H2 p = some (.dT []) ∧ ∃ (b : Addr) (k : List Key), x = .ref b ∧ H2 b = some (.tup (k.map kV)) ∧ Q (.ref p) (L2.upd H2 p (.dT [(k, y)]))
section
variable {X : Cx} {k v : Expr} {tk tv : TE} {pos : Pos}
theorem pe_disp1T (hu : X.A.units + 1 < cLine) (hk : PE X k tk) (hv : PE X v tv) : PE X (.Dict [some k] [v] pos) (tDisp1T tk tv) := by
  refine ⟨fun pins s σ H Q I q => ?_⟩
  have hn := I.hok.fresh (Nat.le_refl s.heap.objs.size)
  have I1 := I.laid (a := s.heap.objs.size) (o := .dT []) (h' := s.heap.push { cls := .type "dict", data := .dict #[] }) (t' := s.toks) (fun _ _ q => Heap.get?_push_of_some _ q) (Nat.le_refl _) (dt_empty s.heap I.big)
  have hl := pairTrees_length [some k] [v] X.env pos rfl rfl
  rw [arm_eval_Dict, zip_pairTrees [some k] [v] X.env pos rfl rfl, dictDisplay_pairs _ (fun e => by rw [e] at hl; cases hl) (by rw [hl]; show 1 < 17; decide)]
  refine wpAny_bind (wpAny_standAt (wpAny_bind (wpAny_subDictH (knd := tupleKind (mixKind X.prog X.w)) (show X.A.units < cLine by omega) (by rw [hl]; show 1 ≤ 15; decide) ?_)))
  refine pairTrees_cons_walk (thn (hk.run pins _ σ _ _ I1 (q _ hn)) fun u s1 ⟨x, H1, I2, rx, q2⟩ => thn (hv.run pins s1 σ H1 _ I2 q2) fun w s2 ⟨y, H2, I3, ry, e, b, kk, ex, eb, q3⟩ => pairTrees_nil_walk ?_)
  subst ex
  cases (show u = Value.ref b from rx)
  obtain ⟨z, hd, xs, rel, dd⟩ := dt_of I3.hok e
  cases rel
  refine ⟨[(kk, b, w)], ⟨rfl, rfl, key_of I3.hok eb, trivial⟩, dd, fun h' tk' dd' hs => wpAny_pure ⟨.ref s.heap.objs.size, _, ?_, rfl, q3⟩⟩
  obtain ⟨qo, es, ep, hq, h2, h3, h4, _, h5⟩ := dd'
  have hne : b ≠ s.heap.objs.size := ne_of eb e (fun z => nomatch z)
  refine d_write I3 (by rw [e]; exact True.intro) hs ⟨qo, hq⟩ ⟨by show 1 ≤ sizeLine; decide, hd, _, .cons ⟨rfl, ?_, ry⟩ .nil, qo, es, ep, hq, h2, h3, h4, h5⟩
  show (L2.upd H2 s.heap.objs.size _) b = _
  rw [upd_ne hne]
  exact eb
theorem k_sIn (w : World) (h : X.w = w) : OpR X (compareOp .In) (rSIn w) := by subst h; exact or_sin
theorem k_setLW (K : PySem.W.Frag) (w : World) (h : X.K = K) (hw : X.w = w) (hc : X.calm = true) : CallR X (.type "set") (rSetL K w) := by subst hw; exact k_setL K h hc
end
/-! ### texts -/
theorem bS_tl (bs : List Bool) : (bS bs).cps.toList = bs.map sgn := by unfold bS; simp
theorem find_at {bs : List Bool} {i : Nat} : StrLaws.At (bS bs) (bS [false]) (bS bs).length i ↔ bs[i]? = some false := by
  have h := StrLaws.subAt_one (bS bs) 48 i
  show (i + (⟨#[48]⟩ : Str).length ≤ (bS bs).length ∧ Builtin.Str.subAt (bS bs) ⟨#[48]⟩ i = true) ↔ _
  rw [h, bS_tl, List.getElem?_map]
  constructor
  · intro e
    obtain ⟨b, hb, eb⟩ := Option.map_eq_some_iff.mp e
    cases b with
    | false => exact hb
    | true => simp [sgn] at eb
  · intro e
    rw [e]
    rfl
theorem range'_splitN {s n a : Nat} {pre post : List Nat} (h : List.range' s n = pre ++ a :: post) : a < s + n ∧ s ≤ a ∧ ∀ k, s ≤ k → k < a → k ∈ pre := by
  have hm : a ∈ List.range' s n := by rw [h]; simp
  have hr := List.mem_range'_1.mp hm
  refine ⟨hr.2, hr.1, fun k h1 h2 => ?_⟩
  have hk : k ∈ List.range' s n := List.mem_range'_1.mpr ⟨h1, by omega⟩
  rw [h] at hk
  rcases List.mem_append.mp hk with hk | hk
  · exact hk
  · rcases List.mem_cons.mp hk with hk | hk
    · omega
    · have pw : (List.range' s n).Pairwise (· < ·) := List.pairwise_lt_range'
      rw [h] at pw
      have := (List.pairwise_cons.mp (List.pairwise_append.mp pw).2.1).1 k hk
      omega
/-- the first 0 from a place on -/
theorem find_zero {bs : List Bool} {p : Nat} (hp : p ≤ bs.length) : Txt.find3 (bS bs) (bS [false]) (p : Int) = if p + ones (bs.drop p) < bs.length then ((p + ones (bs.drop p) : Nat) : Int) else -1 := by
  unfold Txt.find3
  have ef : fromIndex (bS bs).length (p : Int) = p := by
    unfold fromIndex
    rw [if_neg (by omega)]
    omega
  rw [ef, StrLaws.occ_eq]
  have key := StrLaws.occ_first (bS bs) (bS [false]) (bS bs).length 1 (Nat.le_refl 1) (List.range' p ((bS bs).length + 1 - p)) p (fun i hi => (List.mem_range'_1.mp hi).1)
  generalize (forIn (List.range' p ((bS bs).length + 1 - p)) ((#[] : Array Nat), p) (StrLaws.occBody (bS bs) (bS [false]) (bS bs).length 1)).run.fst = arr at key
  have hl : (bS bs).length = bs.length := bS_len bs
  rcases key with ⟨h0, hn⟩ | ⟨pre, a, post, e, h0, ha, hn⟩
  · rw [if_neg, h0]
    intro hlt
    have h1 := ones_stop (bs.drop p)
    have h2 : (bs.drop p)[ones (bs.drop p)]? = some false := by
      have h3 : ones (bs.drop p) < (bs.drop p).length := by rw [List.length_drop]; omega
      rw [List.getElem?_eq_getElem h3] at h1 ⊢
      cases h4 : (bs.drop p)[ones (bs.drop p)] with
      | true => rw [h4] at h1; exact absurd rfl h1
      | false => rfl
    rw [List.getElem?_drop] at h2
    exact hn _ (List.mem_range'_1.mpr ⟨by omega, by rw [hl]; omega⟩) (find_at.mpr h2)
  · obtain ⟨s1, s2, s3⟩ := range'_splitN e
    have ha' := find_at.mp ha
    have eo : ones (bs.drop p) = a - p := by
      refine ones_uniq (fun i hi => ?_) ?_
      · rw [List.getElem?_drop]
        have hx := hn (p + i) (s3 _ (by omega) (by omega))
        rw [find_at] at hx
        have hlt : p + i < bs.length := by
          have := (List.getElem?_eq_some_iff.mp ha').1
          omega
        rw [List.getElem?_eq_getElem hlt] at hx ⊢
        cases hb : bs[p + i] with
        | true => rfl
        | false => rw [hb] at hx; exact absurd rfl hx
      · rw [List.getElem?_drop]
        have : p + (a - p) = a := by omega
        rw [this, ha']
        simp
    have hlt := (List.getElem?_eq_some_iff.mp ha').1
    rw [if_pos (by omega)]
    have h1 : arr.toList[0]? = some a := by simpa using h0
    cases hL : arr.toList with
    | nil => rw [hL] at h1; cases h1
    | cons b t =>
      rw [hL] at h1
      simp at h1
      subst h1
      show ((b : Nat) : Int) = _
      omega
theorem bS_mul1 (k : Nat) : Txt.mul (("1" : String) : Str) (k : Int) = bS (List.replicate k true) := by
  rw [str_one]
  unfold Txt.mul
  by_cases h0 : (k : Int) < 1
  · rw [if_pos h0, show k = 0 by omega]
    rfl
  · rw [if_neg h0]
    by_cases h1 : k = 1
    · subst h1
      rfl
    · rw [if_neg (by
        rw [Bool.or_eq_true, beq_iff_eq, beq_iff_eq, bS_len]
        simp
        omega), Int.toNat_natCast]
      have := reps_list [49] k []
      unfold bS
      rw [List.map_replicate]
      show (⟨(List.replicate k ([49] : List Nat).toArray).foldl (· ++ ·) ([] : List Nat).toArray⟩ : Str) = _
      rw [this, List.nil_append]
      have e : (List.replicate k [49]).flatten = List.replicate k 49 := by
        clear this h0 h1
        induction k with
        | zero => rfl
        | succ k ih => rw [List.replicate_succ, List.flatten_cons, ih, List.replicate_succ]; rfl
      rw [e]
      rfl
theorem bit_int (b : Bool) : PySem.intText? (bS [b]) = some (b.toNat : Int) := by cases b <;> decide +kernel
theorem str_01 : (("01" : String) : Str) = bS [false, true] := by decide +kernel
theorem str_10 : (("10" : String) : Str) = bS [true, false] := by decide +kernel
theorem join_texts (ts : List (List Bool)) : Txt.join (("" : String) : Str) (ts.map bS) = bS ts.flatten := by
  rw [TL.join_eq]
  have e0 : TL.tl ((("" : String) : Str)) = [] := by rw [str_nil]; rfl
  have key : ∀ ts : List (List Bool), TL.joinL [] ((ts.map bS).map TL.tl) = ts.flatten.map sgn := by
    intro ts
    induction ts with
    | nil => rfl
    | cons b r ih =>
      have eb : TL.tl (bS b) = b.map sgn := bS_tl b
      cases r with
      | nil =>
        show TL.tl (bS b) = _
        rw [eb]
        simp
      | cons c q =>
        show TL.tl (bS b) ++ ([] ++ TL.joinL [] (((c :: q).map bS).map TL.tl)) = _
        rw [ih, eb]
        simp
  have h := TL.tl_join (("" : String) : Str) (ts.map bS)
  rw [e0, key] at h
  show _ = (⟨(ts.flatten.map sgn).toArray⟩ : Str)
  rw [← h]
end My

namespace My
open PySem PySem.Spec PyProof.Rows L2 Pre
/-! ### texts of bits in a program: slices, numbers, lists of counts -/
theorem shrN (a k : Nat) : (a : Int) / 2 ^ ((k : Int)).toNat = ((a / 2 ^ k : Nat) : Int) := by
  rw [Int.toNat_natCast, Int.natCast_ediv, Int.natCast_pow]
  rfl
theorem shlN (a k : Nat) : (a : Int) * 2 ^ ((k : Int)).toNat = ((a * 2 ^ k : Nat) : Int) := by
  rw [Int.toNat_natCast, Int.natCast_mul, Int.natCast_pow]
  rfl
theorem and1N (n : Nat) : Builtin.bitAnd (n : Int) 1 = ((n % 2 : Nat) : Int) := by
  rw [bitAnd_m1]
  omega
theorem small4 {n : Nat} (h : n ≤ 100000) : n < sizeLine := by rw [sizeLine_eq]; omega
theorem cut_list {α : Type} (l : List α) (i j : Nat) : (l.drop (min i l.length)).take (min j l.length - min i l.length) = (l.drop i).take (j - i) := by
  rcases Nat.le_total i l.length with h | h
  · rw [Nat.min_eq_left h]
    rcases Nat.le_total j l.length with k | k
    · rw [Nat.min_eq_left k]
    · rw [Nat.min_eq_right k, List.take_of_length_le (l := l.drop i) (i := l.length - i) (by rw [List.length_drop]; exact Nat.le_refl _), List.take_of_length_le (by rw [List.length_drop]; omega)]
  · rw [Nat.min_eq_right h, List.drop_of_length_le (Nat.le_refl _), List.drop_of_length_le h]
    simp
theorem bS_list (bs : List Bool) : (bS bs).cps.toList = bs.map sgn := by unfold bS; simp
theorem cut_bS (bs : List Bool) (i j : Nat) : cutS (bS bs) (some (i : Int)) (some (j : Int)) = bS ((bs.drop i).take (j - i)) := by
  unfold cutS
  rw [HT.sIx_nat, HT.sIx_nat, bS_list, bS_len]
  have h := cut_list (bs.map sgn) i j
  rw [List.length_map] at h
  rw [h, ← List.map_drop, ← List.map_take]
  rfl
theorem cut_bSd (bs : List Bool) (i : Nat) : cutS (bS bs) (some (i : Int)) none = bS (bs.drop i) := by
  unfold cutS
  rw [HT.sIx_nat, HT.sIx_none, bS_list, bS_len]
  have h := cut_list (bs.map sgn) i bs.length
  rw [List.length_map, Nat.min_self] at h
  rw [h, ← List.map_drop, ← List.map_take, List.take_of_length_le (by rw [List.length_drop]; exact Nat.le_refl _)]
  rfl
theorem cut_bSt (bs : List Bool) (j : Nat) : cutS (bS bs) none (some (j : Int)) = bS (bs.take j) := by
  unfold cutS
  rw [HT.sIx_nat, HT.sIx_none, bS_list, bS_len]
  have h := cut_list (bs.map sgn) 0 j
  rw [List.length_map, Nat.zero_min] at h
  rw [h, List.drop_zero, Nat.sub_zero, ← List.map_take]
  rfl
theorem bB_get (n : Nat) : ∀ k i, i < k → (bB n k)[i]? = some (n / 2 ^ (k - 1 - i) % 2 == 1)
  | k + 1, 0, _ => by unfold bB; simp
  | k + 1, i + 1, h => by
    unfold bB
    rw [List.getElem?_cons_succ, bB_get n k i (by omega)]
    have : k - 1 - i = k + 1 - 1 - (i + 1) := by omega
    rw [this]
theorem bit_nat (x : Nat) : x % 2 = (x % 2 == 1).toNat := by
  rcases Nat.mod_two_eq_zero_or_one x with h | h <;> rw [h] <;> rfl
theorem fm_noneN {α β : Type} (l : List α) : (l.map fun _ => (none : Option β)).filterMap id = [] := by
  induction l with
  | nil => rfl
  | cons n r ih => simp
theorem sign_01 (b : Bool) : decide (sgn b ∈ ((("01" : String) : Str)).cps.toList) = true := by
  have e : (("01" : String) : Str).cps.toList = [48, 49] := by decide +kernel
  rw [e]
  cases b <;> decide
/-- a list of counts -/
abbrev nI (fs : List Nat) : List Int := fs.map fun (n : Nat) => (n : Int)
theorem nI_len (fs : List Nat) : ((nI fs).map V.int).length = fs.length := by rw [List.length_map, List.length_map]
theorem nI_at {fs : List Nat} {i : Nat} {x : V} (h : ((nI fs).map V.int)[i]? = some x) : ∃ n : Nat, fs[i]? = some n ∧ x = .int n := by
  obtain ⟨n, hn, rfl⟩ := int_at h
  rw [List.getElem?_map] at hn
  obtain ⟨m, hm, rfl⟩ := Option.map_eq_some_iff.mp hn
  exact ⟨m, hm, rfl⟩
theorem nI_get {fs : List Nat} {i n : Nat} (h : fs[i]? = some n) : ((nI fs).map V.int)[i]? = some (.int n) := by
  rw [List.getElem?_map, List.getElem?_map, h]
  rfl
theorem nI_inj {a b : List Nat} : nI a = nI b ↔ a = b := ⟨fun h => (List.map_inj_right fun x y e => by omega).mp h, fun h => by rw [h]⟩
theorem bool_nat (b : Bool) : (if b = true then (1 : Int) else 0) = ((b.toNat : Nat) : Int) := by cases b <;> rfl
theorem bit_int' (b : Bool) : PySem.intText? (bS [b]) = some (b.toNat : Int) := by cases b <;> decide +kernel
theorem vF_take {bs : List Bool} {i : Nat} {b : Bool} (h : bs[i]? = some b) : vF 0 (bs.take (i + 1)) = 2 * vF 0 (bs.take i) + b.toNat := by
  rw [List.take_add_one, h, vF_app]
  rfl
local macro_rules | `(tactic| walk_at "go") => `(tactic| repeat (first | (with_reducible first | refine iteT ?_ | refine iteF ?_ | refine iteNtt ?_ | refine iteNff ?_ | refine iteET (by omega) ?_ | refine iteEF (by omega) ?_ | refine iteENT (by omega) ?_ | refine iteENF (by omega) ?_ | refine iteDT (by omega) ?_ | refine iteDF (by omega) ?_ | refine iteNT (by omega) ?_ | refine iteNF (by omega) ?_) | refine ⟨_, rfl, ?_⟩ | refine ⟨_, _, rfl, rfl, ?_⟩ | refine ⟨_, _, rfl, ?_⟩ | refine ⟨rfl, ?_⟩ | refine .inl ⟨_, rfl, ?_⟩ | refine .inr ⟨_, rfl, ?_⟩))
local macro_rules | `(tactic| walk_at "b") => `(tactic| try dsimp (config := { proj := false, iota := false, eta := false, zeta := false }) only)
section
variable {P : Program} {w : World} {K : PySem.W.Frag} {mg : Str → Option Value} {base : Heap}
def sp_is_bits : Sp := fun vs H Q _ => ∃ bs : List Bool, vs = [.str (bS bs)] ∧ bs.length ≤ 100000 ∧ ∀ H', Same H H' → Q (.bl true) H'
theorem G_is_bits (T : Top K mg) : FnOk P w K mg base CX0 1 T.f_is_bits T.fd_is_bits ["value"] sp_is_bits := by
  refine T.F_is_bits.ok sc_is_bits (fun vs H Q E h => by obtain ⟨bs, rfl, _⟩ := h; rfl) (fun cdv A outer s H vs Q E hr h => ?_)
  obtain ⟨bs, rfl, hz, q⟩ := h
  refine ⟨_, PSs.nox (pss_one (ps_ret (pe_and (pe_callB (k_isi K rfl) (by rfl) T.n_isinstance (by decide +kernel) (pa_cons (pv 0) (pa_cons (pe_bltn (v := .ty "str") (by rfl) T.n_str (by decide +kernel) rfl) pa_nil))) (pe_one (pe_cmpR (k_eqD K rfl hr.units) (pe_lc (own := [("sign", 1)]) (g := gName 1) (by rfl) sc_is_bits.nd (pi_str (pv 0)) (blkOk_by (own := [("sign", 1)]) (N := N_is_bits) (sc := defScope s_is_bits) (by decide +kernel)) (fun _ _ _ _ _ => (pg_name (i := 1) sc_is_bits.nd rfl (by first | exact Or.inl rfl | exact Or.inr rfl))) (fun _ _ _ _ _ => (pts_one (pt_cmpR op_notIn_sign (pv 1) pe_str (by rfl)))) (fun _ _ _ _ _ => (pv 1))) (pe_lst pa_nil) (nomark _)))))), ?_⟩
  refine ⟨_, rfl, _, _, _, _, true, rfl, .ty _, .base (.str _), kit_ty (by decide +kernel), true, rfl, iteT ?_⟩
  refine ⟨_, rfl, _, rfl, fun D nD => ?_⟩
  refine lc_dW walk_str (Has.nil (H := H)) ((List.range bs.length).map fun _ => none) nD (by rw [List.length_map, List.length_range, bS_size]) (by rw [bS_size]; exact small4 hz) (fun _ _ => trivial) ?_ ?_
  · rintro i o H0 x H' hi ho s0 hS ⟨rfl, c, hc, rfl⟩ Qt qt
    obtain ⟨b, hb, ec⟩ := bS_at hc
    rw [ec]
    refine ⟨rfl, ?_⟩
    rw [List.getElem?_map] at ho
    obtain ⟨_, _, rfl⟩ := Option.map_eq_some_iff.mp ho
    refine ⟨_, rfl, sgn b, _, rfl, rfl, _, rfl, ?_⟩
    rw [sign_01]
    exact iteF (qt none _ (Same.refl _) trivial)
  · intro H' s hD hd
    rw [fm_noneN] at hd
    rw [rs_nil] at hd
    obtain ⟨a, xs, e, ha, hx⟩ := hd.listE
    cases e
    cases hx
    refine ⟨Nat.zero_le _, fun p np => ?_⟩
    refine eq_lst (ns := []) (.inl (.inl (same_upd np _ _ ha))) (.inl (.inl upd_same)) ?_
    exact q _ (s.trans (same_upd np))
def sp_check_bits : Sp := fun vs H Q _ => ∃ bs : List Bool, vs = [.str (bS bs)] ∧ bs.length ≤ 100000 ∧ ∀ H', Same H H' → Q .non H'
theorem G_check_bits (T : Top K mg) : FnOk P w K mg base CX0 2 T.f_check_bits T.fd_check_bits ["bits"] sp_check_bits := by
  refine T.F_check_bits.ok sc_check_bits (fun vs H Q E h => by obtain ⟨bs, rfl, _⟩ := h; rfl) (fun cdv A outer s H vs Q E hr h => ?_)
  obtain ⟨bs, rfl, hz, q⟩ := h
  refine ⟨_, PSs.nox (pss_one (ps_if (pt_not (pt_val (pe_call (G_is_bits T) (hr.mono (by decide)) (by rfl) T.g_is_bits T.F_is_bits.kp T.b_is_bits .nil pass0 (pa_cons (pv 0) pa_nil))))
    (pss_one ps_never)
    pss_nil)), ?_⟩
  exact ⟨_, rfl, bs, rfl, hz, fun H' s => ⟨_, rfl, iteF (q _ s)⟩⟩
def sp_bits_of : Sp := fun vs H Q _ => ∃ (n k : Nat), vs = [.int n, .int k] ∧ k ≤ 1000 ∧ ∀ H', Same H H' → Q (.str (bS (bB n k))) H'
theorem G_bits_of (T : Top K mg) : FnOk P w K mg base CX0 1 T.f_bits_of T.fd_bits_of ["number", "many"] sp_bits_of := by
  refine T.F_bits_of.ok sc_bits_of (fun vs H Q E h => by obtain ⟨n, k, rfl, _⟩ := h; rfl) (fun cdv A outer s H vs Q E hr h => ?_)
  obtain ⟨n, k, rfl, hk, q⟩ := h
  refine ⟨_, PSs.nox (pss_one (ps_ret (pe_join pe_str (pe_lc (own := [("at", 2)]) (g := gName 2) (tt := tYes) (by rfl) sc_bits_of.nd (pi_range1 (by rfl) T.n_range (pa_cons (pv 1) pa_nil)) (blkOk_by (own := [("at", 2)]) (N := N_bits_of) (sc := defScope s_bits_of) (by decide +kernel)) (fun _ _ _ _ _ => (pg_name (i := 2) sc_bits_of.nd rfl (by first | exact Or.inl rfl | exact Or.inr rfl))) (fun _ _ _ _ _ => pts_nil) (fun _ _ _ _ _ => (pe_ix ix_str pe_str (pe_op op_and (pe_op op_shr (pv 0) (pe_op op_sub (pe_op op_sub (pv 1) pe_int) (pv 2))) pe_int) (fun _ _ => rfl))))))), ?_⟩
  refine ⟨⟨_, rfl⟩, _, rfl, _, rfl, by omega, by omega, fun D nD => ?_⟩
  refine lc_mapR (lo := 0) (n := ((k : Int)).toNat) ((bB n k).map fun b => V.str (bS [b])) nD (by rw [List.length_map, bB_len]; rfl) (small4 (by omega)) (fun x => rfl) ?_ ?_
  · intro i y H' hi hy s Qt qt
    rw [Int.toNat_natCast] at hi
    rw [List.getElem?_map, bB_get n k i hi] at hy
    cases hy
    refine ⟨_, rfl, _, rfl, _, _, rfl, rfl, _, rfl, _, _, rfl, rfl, _, _, rfl, rfl, by omega, _, _, rfl, rfl, ?_⟩
    have e1 : ((k : Int) - 1 - (0 + (i : Int))) = ((k - 1 - i : Nat) : Int) := by omega
    dsimp only
    rw [e1, shrN, and1N, bit_nat]
    have e01 : (("01" : String) : Str) = bS [false, true] := by decide +kernel
    refine ⟨_, _, sgn (n / 2 ^ (k - 1 - i) % 2 == 1), rfl, rfl, by rw [e01, bS_len]; decide, ?_, qt _ (Same.refl _)⟩
    rw [e01]
    exact bS_atI (by cases n / 2 ^ (k - 1 - i) % 2 == 1 <;> rfl)
  · intro H' s hD
    refine ⟨_, D, (bB n k).map fun b => bS [b], rfl, rfl, .inl (.inl (.inl ?_)), ?_, ?_⟩
    · rw [hD, List.map_map]
      rfl
    · have e0 : ((("" : String) : Str)).length = 0 := by rw [str_nil]; rfl
      rw [List.map_map, e0, Nat.mul_zero]
      have : ∀ l : List Bool, (l.map ((fun z : Str => z.length) ∘ fun b => bS [b])).sum = l.length := fun l => by
        induction l with
        | nil => rfl
        | cons b r ih => rw [List.map_cons, List.sum_cons, ih, List.length_cons]; show 1 + _ = _; omega
      have hz : ((bB n k).map ((fun x : Str => x.length) ∘ fun b => bS [b])).sum = k := by rw [this, bB_len]
      exact Nat.le_trans (Nat.le_of_eq hz) (by omega)
    · rw [join_bits]
      exact q _ s
def sp_number_of : Sp := fun vs H Q _ => ∃ bs : List Bool, vs = [.str (bS bs)] ∧ Q (.int (vF 0 bs)) H
theorem G_number_of (T : Top K mg) : FnOk P w K mg base CX0 1 T.f_number_of T.fd_number_of ["bits"] sp_number_of := by
  refine T.F_number_of.ok sc_number_of (fun vs H Q E h => by obtain ⟨bs, rfl, _⟩ := h; rfl) (fun cdv A outer s H vs Q E hr h => ?_)
  obtain ⟨bs, rfl, q⟩ := h
  refine ⟨_, PSs.nox (pss_cons (ps_set (i := 1) sc_number_of.nd rfl (by first | exact Or.inl rfl | exact Or.inr rfl) pe_int)
  (pss_cons (ps_for PassesOwn.never rfl (pi_str (pv 0)) (pg_name (i := 2) sc_number_of.nd rfl (by first | exact Or.inl rfl | exact Or.inr rfl))
    (pss_one (ps_set (i := 1) sc_number_of.nd rfl (by first | exact Or.inl rfl | exact Or.inr rfl) (pe_op op_add (pe_op op_mul pe_int (pv 1)) (pe_callTy call_int_str (by rfl) T.n_int (by decide +kernel) (pa_cons (pv 2) pa_nil))))))
  (pss_one (ps_ret (pv 1))))), ?_⟩
  refine ⟨_, rfl, _, rfl, ?_⟩
  refine for_it walk_str (fun i σ H1 => ∃ v, σ = [some (.str (bS bs)), some (.int (vF 0 (bs.take i))), v] ∧ H1 = H) ⟨none, rfl, rfl⟩ (fun _ _ _ _ _ => trivial) ?_ ?_
  · rintro i x σ H1 H2 hi ⟨v, rfl, rfl⟩ ⟨rfl, c, hc, rfl⟩
    obtain ⟨b, hb, ec⟩ := bS_at hc
    rw [ec]
    refine ⟨_, rfl, _, _, rfl, rfl, .inl ⟨by decide, by decide⟩, _, rfl, _, _, rfl, bit_int' b, by rw [bS_len]; show 1 ≤ 640; decide, _, _, rfl, rfl, ?_⟩
    have e2 : (2 : Int) * ((vF 0 (bs.take i) : Nat) : Int) + ((b.toNat : Nat) : Int) = ((vF 0 (bs.take (i + 1)) : Nat) : Int) := by rw [vF_take hb]; omega
    dsimp only
    rw [e2]
    exact ⟨_, rfl, rfl⟩
  · rintro σ H1 ⟨v, rfl, rfl⟩
    rw [bS_size, List.take_length]
    exact ⟨_, rfl, q⟩
end
end My

namespace My
open PySem PySem.Spec PyProof.Rows L2 Pre
theorem snoc_of {α : Type} {l : List α} {n : Nat} {x : α} (hl : l.length = n + 1) (hx : l[n]? = some x) : ∃ r, r.length = n ∧ l = r ++ [x] := ⟨l.take n, by rw [List.length_take]; omega, by
  have hn : n < l.length := by omega
  have e : l[n] = x := by rw [List.getElem?_eq_getElem hn] at hx; exact Option.some.inj hx
  conv => lhs; rw [← List.take_append_drop n l]
  rw [List.drop_eq_getElem_cons hn, e, List.drop_of_length_le (by omega)]⟩
/-- the first folds, the places behind them -/
def fN (w : Nat) (bs : List Bool) (j : Nat) : List Nat := ((rdT w bs).take j).map (·.1)
def eN (w : Nat) (bs : List Bool) (j : Nat) : List Nat := ((rdT w bs).take j).map (·.2)
theorem fN_len {w : Nat} {bs : List Bool} {j : Nat} (h : j ≤ (rdT w bs).length) : (fN w bs j).length = j := by unfold fN; rw [List.length_map, List.length_take]; omega
theorem eN_len {w : Nat} {bs : List Bool} {j : Nat} (h : j ≤ (rdT w bs).length) : (eN w bs j).length = j := by unfold eN; rw [List.length_map, List.length_take]; omega
theorem fN_next {w : Nat} {bs : List Bool} {j : Nat} {x : Nat × Nat} (h : (rdT w bs)[j]? = some x) : fN w bs (j + 1) = fN w bs j ++ [x.1] := by
  unfold fN; rw [List.take_add_one, h, List.map_append]; rfl
theorem eN_next {w : Nat} {bs : List Bool} {j : Nat} {x : Nat × Nat} (h : (rdT w bs)[j]? = some x) : eN w bs (j + 1) = eN w bs j ++ [x.2] := by
  unfold eN; rw [List.take_add_one, h, List.map_append]; rfl
theorem eN_last {w : Nat} {bs : List Bool} {j : Nat} (h : j + 1 ≤ (rdT w bs).length) : ∃ r, eN w bs (j + 1) = r ++ [plc w bs (j + 1)] := by
  have h1 : (rdT w bs)[j]? = some (rdT w bs)[j] := List.getElem?_eq_getElem (by omega)
  refine ⟨eN w bs j, ?_⟩
  rw [eN_next h1, plc_next h1]
theorem eN_last0 {w : Nat} {bs : List Bool} {j : Nat} (h : j ≤ (rdT w bs).length) : ∃ r, 0 :: eN w bs j = r ++ [plc w bs j] := by
  cases j with
  | zero => exact ⟨[], rfl⟩
  | succ j =>
    obtain ⟨r, e⟩ := eN_last h
    exact ⟨0 :: r, by rw [e]; rfl⟩
theorem nI_app (a b : List Nat) : nI (a ++ b) = nI a ++ nI b := List.map_append
theorem lastI {l r : List Nat} {x : Nat} (e : l = r ++ [x]) : atI ((nI l).map V.int) (-1) = some (V.int (x : Int)) := by
  rw [e, nI_app, List.map_append]
  exact atI_last _ _
local macro_rules | `(tactic| walk_at "go") => `(tactic| repeat (first | (with_reducible first | refine iteT ?_ | refine iteF ?_ | refine iteNtt ?_ | refine iteNff ?_ | refine iteET (by omega) ?_ | refine iteEF (by omega) ?_ | refine iteENT (by omega) ?_ | refine iteENF (by omega) ?_ | refine iteDT (by omega) ?_ | refine iteDF (by omega) ?_ | refine iteNT (by omega) ?_ | refine iteNF (by omega) ?_) | refine ⟨_, rfl, ?_⟩ | refine ⟨_, _, rfl, rfl, ?_⟩ | refine ⟨_, _, rfl, ?_⟩ | refine ⟨rfl, ?_⟩ | refine .inl ⟨_, rfl, ?_⟩ | refine .inr ⟨_, rfl, ?_⟩))
local macro_rules | `(tactic| walk_at "b") => `(tactic| try dsimp (config := { proj := false, iota := false, eta := false, zeta := false }) only)
section
variable {P : Program} {w : World} {K : PySem.W.Frag} {mg : Str → Option Value} {base : Heap}
def sp_check_number : Sp := fun vs H Q _ => ∃ (i lo : Int) (hi : Option Int), vs = [.int i, .int lo, (match hi with | some j => .int j | none => .non)] ∧ lo ≤ i ∧ (∀ j, hi = some j → i ≤ j) ∧ Q .non H
theorem G_check_number (T : Top K mg) : FnOk P w K mg base CX0 3 T.f_check_number T.fd_check_number ["number", "low", "high"] sp_check_number := by
  refine T.F_check_number.ok sc_check_number (fun vs H Q E h => by obtain ⟨i, lo, hi, rfl, _⟩ := h; rfl) (fun cdv A outer s H vs Q E hr h => ?_)
  obtain ⟨i, lo, hi, rfl, h0, h1, q⟩ := h
  refine ⟨_, PSs.nox (pss_one (ps_if (pt_not (pt_val (pe_call (G_is_between T) (hr.mono (by decide)) (by rfl) T.g_is_between T.F_is_between.kp T.b_is_between .nil pass0 (pa_cons (pv 0) (pa_cons (pv 1) (pa_cons (pv 2) pa_nil))))))
    (pss_one ps_never)
    pss_nil)), ?_⟩
  refine ⟨_, rfl, _, rfl, _, rfl, i, lo, hi, rfl, _, rfl, ?_⟩
  rw [decide_eq_true ⟨h0, h1⟩]
  exact iteF q
def sp_check_folds (K : PySem.W.Frag) : Sp := fun vs H Q _ => ∃ (a : Addr) (fs : List Nat), vs = [.ref a] ∧ H a = some (.lst ((nI fs).map V.int)) ∧ fs.length ≤ 100000 ∧ ∀ H', Same H H' → Q .non H'
theorem G_check_folds (T : Top K mg) : FnOk P w K mg base CX0 3 T.f_check_folds T.fd_check_folds ["folds"] (sp_check_folds K) := by
  refine T.F_check_folds.ok sc_check_folds (fun vs H Q E h => by obtain ⟨a, fs, rfl, _⟩ := h; rfl) (fun cdv A outer s H vs Q E hr h => ?_)
  obtain ⟨a, fs, rfl, hA, hz, q⟩ := h
  refine ⟨_, PSs.nox (pss_one (ps_if (PW.pt (pw_or (pt_not (pt_val (pe_callB (k_isi K rfl) (by rfl) T.n_isinstance (by decide +kernel) (pa_cons (pv 0) (pa_cons (pe_bltn (v := .ty "list") (by rfl) T.n_list (by decide +kernel) rfl) pa_nil))))) (pw_or1 (pt_cmpR (k_neD K rfl hr.units) (pe_lc (own := [("unit", 1)]) (g := gName 1) (by rfl) sc_check_folds.nd (k_piL K rfl (pv 0)) (blkOk_by (own := [("unit", 1)]) (N := N_check_folds) (sc := defScope s_check_folds) (by decide +kernel)) (fun _ _ _ _ _ => (pg_name (i := 1) sc_check_folds.nd rfl (by first | exact Or.inl rfl | exact Or.inr rfl))) (fun _ _ _ _ _ => (pts_one (pt_not (pt_val (pe_call (G_is_between T) (hr.mono (by decide)) (by rfl) T.g_is_between T.F_is_between.kp T.b_is_between .nil pass0 (pa_cons (pv 1) (pa_cons pe_int (pa_cons pe_non pa_nil)))))))) (fun _ _ _ _ _ => (pv 1))) (pe_lst pa_nil) (nomark _)))))
    (pss_one ps_never)
    pss_nil)), ?_⟩
  refine ⟨_, rfl, _, _, _, _, true, rfl, .ty _, .base (.lst hA), kit_ty (by decide +kernel), true, rfl, iteF ?_⟩
  have hS : SqL K H a ((nI fs).map V.int) := .inl (.inl hA)
  refine ⟨_, rfl, a, rfl, ⟨_, hS⟩, fun D nD => ?_⟩
  refine lc_selL (K := K) (xs := (nI fs).map V.int) (fs.map fun _ => none) nD hS (by rw [nI_len, List.length_map]) (by rw [nI_len]; exact small4 hz) (fun x => rfl) ?_ ?_
  · intro i x o H' hx ho s Qt qt
    obtain ⟨n, hn, rfl⟩ := nI_at hx
    rw [List.getElem?_map] at ho
    obtain ⟨_, _, rfl⟩ := Option.map_eq_some_iff.mp ho
    refine ⟨_, rfl, (n : Int), 0, none, rfl, _, rfl, ?_⟩
    rw [decide_eq_true ⟨Int.natCast_nonneg n, fun j h => nomatch h⟩]
    exact iteF (qt _ (Same.refl _))
  · intro H' s hD
    rw [fm_noneN] at hD
    refine ⟨Nat.zero_le _, fun p np => ?_⟩
    refine ne_lst (ns := []) (.inl (.inl (same_upd np _ _ hD))) (.inl (.inl upd_same)) ?_
    exact ⟨_, rfl, iteF (q _ (s.trans (same_upd np)))⟩
/-- folds whose bits are few -/
def Few (w : Nat) (fs : List Nat) : Prop := w ≤ 1000 ∧ (∀ f ∈ fs, f / 2 ^ w ≤ 1000) ∧ fs.length ≤ 10000 ∧ (txF w fs).length ≤ 100000
def sp_text_of (K : PySem.W.Frag) : Sp := fun vs H Q _ => ∃ (a : Addr) (fs : List Nat) (wd : Nat), vs = [.ref a, .int wd] ∧ SqL K H a ((nI fs).map V.int) ∧ Few wd fs ∧ ∀ H', Same H H' → Q (.str (bS (txF wd fs))) H'
theorem G_text_of (T : Top K mg) : FnOk P w K mg base CX0 2 T.f_text_of T.fd_text_of ["folds", "width"] (sp_text_of K) := by
  refine T.F_text_of.ok sc_text_of (fun vs H Q E h => by obtain ⟨a, fs, wd, rfl, _⟩ := h; rfl) (fun cdv A outer s H vs Q E hr h => ?_)
  obtain ⟨a, fs, wd, rfl, hS, ⟨hw, hf, hl, hz⟩, q⟩ := h
  refine ⟨_, PSs.nox (pss_one (ps_ret (pe_join pe_str (pe_lc (own := [("unit", 2)]) (g := gName 2) (tt := tYes) (by rfl) sc_text_of.nd (k_piL K rfl (pv 0)) (blkOk_by (own := [("unit", 2)]) (N := N_text_of) (sc := defScope s_text_of) (by decide +kernel)) (fun _ _ _ _ _ => (pg_name (i := 2) sc_text_of.nd rfl (by first | exact Or.inl rfl | exact Or.inr rfl))) (fun _ _ _ _ _ => pts_nil) (fun _ _ _ _ _ => (pe_op op_add_str (pe_op op_add_str (pe_op op_rep_str pe_str (pe_op op_shr (pv 2) (pv 1))) pe_str) (pe_call (G_bits_of T) (hr.mono (by decide)) (by rfl) T.g_bits_of T.F_bits_of.kp T.b_bits_of .nil pass0 (pa_cons (pv 2) (pa_cons (pv 1) pa_nil))))))))), ?_⟩
  refine ⟨⟨_, rfl⟩, _, rfl, a, rfl, ⟨_, hS⟩, fun D nD => ?_⟩
  refine lc_mapL (K := K) (xs := (nI fs).map V.int) (fs.map fun f => V.str (bS (tx1 wd f))) nD hS (by rw [nI_len, List.length_map]) (by rw [nI_len]; exact small4 (by omega)) (fun x => rfl) ?_ ?_
  · intro i x y H' hx hy s Qt qt
    obtain ⟨n, hn, rfl⟩ := nI_at hx
    rw [List.getElem?_map, hn] at hy
    cases hy
    have hn1 := hf n (List.mem_of_getElem? hn)
    refine ⟨_, rfl, _, rfl, _, _, rfl, rfl, by omega, ?_⟩
    dsimp only
    rw [shrN]
    refine ⟨_, n / 2 ^ wd, rfl, rfl, by rw [str_one, bS_len]; decide, by omega, ?_⟩
    rw [bS_mul1]
    refine ⟨_, _, rfl, rfl, by rw [str_zero, bS_len, bS_len, List.length_replicate]; exact Nat.le_of_lt (small4 (by simp; omega)), ?_⟩
    rw [str_zero, bS_app]
    refine ⟨_, rfl, _, rfl, n, wd, rfl, hw, fun H2 s2 => ?_⟩
    refine ⟨_, _, rfl, rfl, by rw [bS_len, bS_len, bB_len, List.length_append, List.length_replicate]; exact Nat.le_of_lt (small4 (by simp; omega)), ?_⟩
    rw [bS_app, List.append_assoc]
    exact qt _ s2
  · intro H' s hD
    refine ⟨_, D, (fs.map (tx1 wd)).map bS, rfl, rfl, .inl (.inl (.inl ?_)), ?_, ?_⟩
    · rw [hD, List.map_map, List.map_map]
      rfl
    · have e0 : ((("" : String) : Str)).length = 0 := by rw [str_nil]; rfl
      rw [e0, Nat.mul_zero]
      have : ∀ l : List Nat, (((l.map (tx1 wd)).map bS).map fun z : Str => z.length).sum = (txF wd l).length := fun l => by
        induction l with
        | nil => rfl
        | cons b r ih =>
          rw [List.map_cons, List.map_cons, List.map_cons, List.sum_cons, ih, bS_len]
          show _ = (tx1 wd b ++ txF wd r).length
          rw [List.length_append]
      have h := this fs
      exact Nat.le_trans (Nat.le_of_eq h) (by omega)
    · rw [join_texts]
      exact q _ s
def sp_written (K : PySem.W.Frag) : Sp := fun vs H Q _ => ∃ (a : Addr) (fs : List Nat) (wd : Nat), vs = [.ref a, .int wd] ∧ H a = some (.lst ((nI fs).map V.int)) ∧ Few wd fs ∧ wd ≤ 120 ∧ ∀ H', Same H H' → Q (.str (bS (txF wd fs))) H'
theorem G_written (T : Top K mg) : FnOk P w K mg base CX0 4 T.f_written T.fd_written ["folds", "width"] (sp_written K) := by
  refine T.F_written.ok sc_written (fun vs H Q E h => by obtain ⟨a, fs, wd, rfl, _⟩ := h; rfl) (fun cdv A outer s H vs Q E hr h => ?_)
  obtain ⟨a, fs, wd, rfl, hA, hF, hw, q⟩ := h
  refine ⟨_, PSs.nox (pss_cons (ps_expr (pe_call (G_check_folds T) (hr.mono (by decide)) (by rfl) T.g_check_folds T.F_check_folds.kp T.b_check_folds .nil pass0 (pa_cons (pv 0) pa_nil)))
  (pss_cons (ps_expr (pe_call (G_check_width T) (hr.mono (by decide)) (by rfl) T.g_check_width T.F_check_width.kp T.b_check_width .nil pass0 (pa_cons (pv 1) pa_nil)))
  (pss_one (ps_ret (pe_call (G_text_of T) (hr.mono (by decide)) (by rfl) T.g_text_of T.F_text_of.kp T.b_text_of .nil pass0 (pa_cons (pv 0) (pa_cons (pv 1) pa_nil))))))), ?_⟩
  refine ⟨_, rfl, a, fs, rfl, hA, by have := hF.2.2.1; omega, fun H1 s1 => ?_⟩
  refine ⟨_, rfl, wd, rfl, by omega, by omega, ?_⟩
  exact ⟨_, rfl, _, rfl, a, fs, wd, rfl, .inl (.inl (s1 _ _ hA)), hF, fun H2 s2 => q _ (s1.trans s2)⟩
def sp_fold_at : Sp := fun vs H Q _ => ∃ (bs : List Bool) (p wd : Nat), vs = [.str (bS bs), .int p, .int wd] ∧ p ≤ bs.length ∧ bs.length ≤ 100000 ∧ wd ≤ 1000 ∧ (foldR wd (bs.drop p) = none → Q .non H) ∧
  ∀ x, foldR wd (bs.drop p) = some x → ∀ H' t, Same H H' → H t = none → H' t = some (.tup [.int x.1, .int ((p + x.2 : Nat) : Int)]) → Q (.ref t) H'
theorem G_fold_at (T : Top K mg) : FnOk P w K mg base CX0 2 T.f_fold_at T.fd_fold_at ["bits", "place", "width"] sp_fold_at := by
  refine T.F_fold_at.ok sc_fold_at (fun vs H Q E h => by obtain ⟨bs, p, wd, rfl, _⟩ := h; rfl) (fun cdv A outer s H vs Q E hr h => ?_)
  obtain ⟨bs, p, wd, rfl, hp, hz, hw, q0, q1⟩ := h
  refine ⟨_, PSs.nox (pss_cons (ps_set (i := 3) sc_fold_at.nd rfl (by first | exact Or.inl rfl | exact Or.inr rfl) (pe_bm PySem.F.plainAttrs_str PySem.F.slot_str_find PySem.F.type_str_find mt_find3 (pv 0) (pa_cons pe_str (pa_cons (pv 1) pa_nil))))
  (pss_cons (ps_if (PW.pt (pw_or (pt_cmpR op_lt (pv 3) pe_int (nomark _)) (pw_or1 (pt_cmpR op_gt (pe_op op_add (pe_op op_add (pv 3) pe_int) (pv 2)) (pe_callB call_len_str (by rfl) T.n_len (by decide +kernel) (pa_cons (pv 0) pa_nil)) (nomark _)))))
    (pss_one (ps_ret pe_non))
    pss_nil)
  (pss_cons (ps_set (i := 4) sc_fold_at.nd rfl (by first | exact Or.inl rfl | exact Or.inr rfl) (pe_op op_add (pe_op op_add (pv 3) pe_int) (pv 2)))
  (pss_one (ps_ret (pe_tup (pa_cons (pe_op op_add (pe_op op_shl (pe_op op_sub (pv 3) (pv 1)) (pv 2)) (pe_call (G_number_of T) (hr.mono (by decide)) (by rfl) T.g_number_of T.F_number_of.kp T.b_number_of .nil pass0 (pa_cons (pe_slice sl_str (pv 0) (po_some (pe_op op_add (pv 3) pe_int)) (po_some (pv 4))) pa_nil))) (pa_cons (pv 4) pa_nil)))))))), ?_⟩
  refine ⟨_, rfl, rfl, _, rfl, _, _, _, rfl, rfl, ?_⟩
  rw [str_zero, find_zero hp]
  unfold foldR at q0 q1
  rw [List.length_drop] at q0 q1
  by_cases h0 : p + ones (bs.drop p) < bs.length
  · rw [if_pos h0]
    refine ⟨_, rfl, _, _, rfl, rfl, _, rfl, iteDF (by omega) ?_⟩
    refine ⟨_, rfl, _, _, rfl, rfl, _, rfl, _, _, rfl, rfl, _, rfl, _, rfl, by rw [bS_len]; exact Nat.le_of_lt (small4 hz), _, _, rfl, rfl, _, rfl, ?_⟩
    rw [bS_len]
    by_cases h1 : p + ones (bs.drop p) + 1 + wd ≤ bs.length
    · refine iteDF (by omega) ?_
      rw [if_pos (by omega)] at q1
      refine ⟨_, rfl, _, _, rfl, rfl, _, rfl, _, _, rfl, rfl, ?_⟩
      refine ⟨_, rfl, _, rfl, _, _, rfl, rfl, _, rfl, _, _, rfl, rfl, ⟨by omega, by omega, ?_⟩, ?_⟩
      · show ((p + ones (bs.drop p) : Nat) - (p : Int)).natAbs < 2 ^ 64
        omega
      refine ⟨_, rfl, _, rfl, _, _, rfl, rfl, _, rfl, _, rfl, _, rfl, _, rfl, by rw [bS_len]; exact Nat.le_of_lt (small4 hz), ?_⟩
      have ec : cutS (bS bs) (some (((p + ones (bs.drop p) : Nat) : Int) + 1)) (some (((p + ones (bs.drop p) : Nat) : Int) + 1 + (wd : Int))) = bS (((bs.drop p).drop (ones (bs.drop p) + 1)).take wd) := by
        have := cut_bS bs (p + ones (bs.drop p) + 1) (p + ones (bs.drop p) + 1 + wd)
        rw [show p + ones (bs.drop p) + 1 + wd - (p + ones (bs.drop p) + 1) = wd by omega] at this
        rw [List.drop_drop, show p + (ones (bs.drop p) + 1) = p + ones (bs.drop p) + 1 by omega, ← this]
        congr 2
      rw [ec]
      refine ⟨_, rfl, ?_⟩
      refine ⟨_, _, rfl, rfl, _, rfl, (show 2 ≤ sizeLine by decide), fun t nt => ?_⟩
      refine q1 _ rfl _ t (same_upd nt) nt ?_
      rw [upd_same]
      have hl : (((bs.drop p).drop (ones (bs.drop p) + 1)).take wd).length = wd := by rw [List.length_take, List.length_drop, List.length_drop]; omega
      have e1 : ((((p + ones (bs.drop p) : Nat) : Int) - (p : Int)) * 2 ^ ((wd : Int)).toNat + (vF 0 (((bs.drop p).drop (ones (bs.drop p) + 1)).take wd) : Int)) = ((vF (ones (bs.drop p)) (((bs.drop p).drop (ones (bs.drop p) + 1)).take wd) : Nat) : Int) := by
        rw [show (((p + ones (bs.drop p) : Nat) : Int) - (p : Int)) = ((ones (bs.drop p) : Nat) : Int) by omega, shlN, vF_eq (ones (bs.drop p)), hl]
        omega
      have e2 : (((p + ones (bs.drop p) : Nat) : Int) + 1 + (wd : Int)) = ((p + (ones (bs.drop p) + 1 + wd) : Nat) : Int) := by omega
      dsimp only
      rw [e1, e2]
    · refine iteDT (by omega) ?_
      exact q0 (if_neg (by omega))
  · rw [if_neg h0]
    refine ⟨_, rfl, _, _, rfl, rfl, _, rfl, iteDT (by omega) ?_⟩
    exact q0 (if_neg (by omega))
end
end My

namespace My
open PySem PySem.Spec PyProof.Rows L2 Pre
local macro_rules | `(tactic| walk_at "go") => `(tactic| repeat (first | (with_reducible first | refine iteT ?_ | refine iteF ?_ | refine iteNtt ?_ | refine iteNff ?_ | refine iteET (by omega) ?_ | refine iteEF (by omega) ?_ | refine iteENT (by omega) ?_ | refine iteENF (by omega) ?_ | refine iteDT (by omega) ?_ | refine iteDF (by omega) ?_ | refine iteNT (by omega) ?_ | refine iteNF (by omega) ?_) | refine ⟨_, rfl, ?_⟩ | refine ⟨_, _, rfl, rfl, ?_⟩ | refine ⟨_, _, rfl, ?_⟩ | refine ⟨rfl, ?_⟩ | refine .inl ⟨_, rfl, ?_⟩ | refine .inr ⟨_, rfl, ?_⟩))
local macro_rules | `(tactic| walk_at "b") => `(tactic| try dsimp (config := { proj := false, iota := false, eta := false, zeta := false }) only)
section
variable {P : Program} {w : World} {K : PySem.W.Frag} {mg : Str → Option Value} {base : Heap}
/-- None or a count -/
abbrev optN : Option Nat → V
  | some k => .int (k : Int)
  | none => .non
/-- as many folds as asked for, or all there are -/
def cntN (w : Nat) (bs : List Bool) : Option Nat → Nat
  | some k => min k (rdT w bs).length
  | none => (rdT w bs).length
theorem cntN_le (w : Nat) (bs : List Bool) (m : Option Nat) : cntN w bs m ≤ (rdT w bs).length := by
  cases m with
  | none => exact Nat.le_refl _
  | some k => exact Nat.min_le_right _ _
def sp_folds_in : Sp := fun vs H Q _ => ∃ (bs : List Bool) (wd : Nat) (m : Option Nat), vs = [.str (bS bs), .int wd, optN m] ∧ bs.length ≤ 10000 ∧ wd ≤ 1000 ∧
  ∀ H' t a b, Same H H' → H t = none → H a = none → H b = none → a ≠ b → H' t = some (.tup [.ref a, .ref b]) → H' a = some (.lst ((nI (fN wd bs (cntN wd bs m))).map V.int)) → H' b = some (.lst ((nI (eN wd bs (cntN wd bs m))).map V.int)) → Q (.ref t) H'
theorem G_folds_in (T : Top K mg) : FnOk P w K mg base CX0 3 T.f_folds_in T.fd_folds_in ["bits", "width", "many"] sp_folds_in := by
  refine T.F_folds_in.ok sc_folds_in (fun vs H Q E h => by obtain ⟨bs, wd, m, rfl, _⟩ := h; rfl) (fun cdv A outer s H vs Q E hr h => ?_)
  obtain ⟨bs, wd, m, rfl, hz, hw, q⟩ := h
  refine ⟨_, PSs.nox (pss_cons (ps_par (by rfl) sc_folds_in.nd (i := 3) (j := 4) rfl rfl (by decide) rfl rfl (pa_cons (pe_lst pa_nil) (pa_cons (pe_lst pa_nil) pa_nil)) (by rfl))
  (pss_cons (ps_while PassesOwn.never (PW.pt (pw_or (pt_cmpR op_isN (pv 2) pe_non (nomark _)) (pw_or1 (pt_cmpR op_lt (pe_callB (k_len K rfl) (by rfl) T.n_len (by decide +kernel) (pa_cons (pv 3) pa_nil)) (pv 2) (nomark _)))))
    (pss_cons (ps_set (i := 5) sc_folds_in.nd rfl (by first | exact Or.inl rfl | exact Or.inr rfl) (pe_call (G_fold_at T) (hr.mono (by decide)) (by rfl) T.g_fold_at T.F_fold_at.kp T.b_fold_at .nil pass0 (pa_cons (pv 0) (pa_cons (pe_ifExp (pt_cmpR (k_neD K rfl hr.units) (pv 4) (pe_lst pa_nil) (nomark _)) (pe_ix (k_ixL K rfl) (pv 4) (pe_un un_neg pe_int) (fun _ _ => rfl)) pe_int) (pa_cons (pv 1) pa_nil)))))
  (pss_cons (ps_if (pt_cmpR op_isN (pv 5) pe_non (nomark _))
    (pss_one ps_break)
    pss_nil)
  (pss_cons (ps_expr (pe_bm PySem.F.plainAttrs_list PySem.F.slot_list_append PySem.F.type_list_append mt_append (pv 3) (pa_cons (pe_ix (k_ixT K rfl) (pv 5) pe_int (fun _ _ => rfl)) pa_nil)))
  (pss_one (ps_expr (pe_bm PySem.F.plainAttrs_list PySem.F.slot_list_append PySem.F.type_list_append mt_append (pv 4) (pa_cons (pe_ix (k_ixT K rfl) (pv 5) pe_int (fun _ _ => rfl)) pa_nil))))))))
  (pss_one (ps_ret (pe_tup (pa_cons (pv 3) (pa_cons (pv 4) pa_nil))))))), ?_⟩
  refine ⟨Nat.zero_le _, fun a na => ?_⟩
  obtain ⟨H1, e1, s1, ha1⟩ := fresh (.lst ([] : List V)) na
  rw [e1]
  refine ⟨Nat.zero_le _, fun b nb => ?_⟩
  obtain ⟨H2, e2, s2, hb2⟩ := fresh (.lst ([] : List V)) nb
  rw [e2]
  have ab : a ≠ b := ne_of_none ha1 nb
  have nb0 : H b = none := s1.free nb
  have hle := rdT_len wd bs
  refine ⟨_, _, rfl, ?_⟩
  refine ⟨fun mm σ H3 => ∃ (j : Nat) (v5 : Option V), mm + j = (rdT wd bs).length ∧ σ = [some (.str (bS bs)), some (.int wd), some (optN m), some (.ref a), some (.ref b), v5] ∧ j ≤ cntN wd bs m ∧ Same H H3 ∧
      H3 a = some (.lst ((nI (fN wd bs j)).map V.int)) ∧ H3 b = some (.lst ((nI (eN wd bs j)).map V.int)),
    ⟨(rdT wd bs).length, 0, none, by omega, rfl, Nat.zero_le _, s1.trans s2, s2 _ _ ha1, hb2⟩, ?_⟩
  rintro mm σ H3 ⟨j, v5, hm, rfl, hj, s3, ha3, hb3⟩
  have hcl := cntN_le wd bs m
  have hS : SqL K H3 a ((nI (fN wd bs j)).map V.int) := .inl (.inl ha3)
  have hT : SqL K H3 b ((nI (eN wd bs j)).map V.int) := .inl (.inl hb3)
  have hlen : (fN wd bs j).length = j := fN_len (by omega)
  have fin : cntN wd bs m = j → ∀ t H4, Same H3 H4 → H3 t = none → H4 t = some (.tup [.ref a, .ref b]) → Q (.ref t) H4 := fun e t H4 s4 nt ht => by
    refine q H4 t a b (s3.trans s4) (s3.free nt) na nb0 ab ht ?_ ?_
    · rw [e]; exact s4 _ _ ha3
    · rw [e]; exact s4 _ _ hb3
  have hst := plc_step (w := wd) (bs := bs) (show j ≤ (rdT wd bs).length by omega)
  have hnx : ∀ j', j' < cntN wd bs m → ∀ k, m = some k → j' < k := fun j' h k e => by subst e; exact Nat.lt_of_lt_of_le h (Nat.min_le_left _ _)
  by_cases hc : j < cntN wd bs m
  · -- one more
    have hx : (rdT wd bs)[j]? = some ((rdT wd bs)[j]'(by omega)) := List.getElem?_eq_getElem (by omega)
    generalize (rdT wd bs)[j]'(by omega) = x at hx
    obtain ⟨x0, h0, ex0⟩ : ∃ x0, foldR wd (bs.drop (plc wd bs j)) = some x0 ∧ x = (x0.1, plc wd bs j + x0.2) := by
      have h2 := hst.2
      rw [hx] at h2
      obtain ⟨x0, h3, h4⟩ := Option.map_eq_some_iff.mp h2
      exact ⟨x0, h3, h4.symm⟩
    refine ⟨_, rfl, rfl, _, rfl, ?_⟩
    rcases m with _ | k
    all_goals first
    | refine iteT (iteT ⟨fun σ' H' => ∃ v : Option V, σ' = [some (.str (bS bs)), some (.int wd), some (optN none), some (.ref a), some (.ref b), v] ∧ j + 1 ≤ cntN wd bs none ∧ Same H H' ∧ H' a = some (.lst ((nI (fN wd bs (j + 1))).map V.int)) ∧ H' b = some (.lst ((nI (eN wd bs (j + 1))).map V.int)), fun σ' H' ⟨v, h⟩ => ⟨mm - 1, by omega, j + 1, v, by omega, h⟩, ?_⟩)
    | refine iteF ⟨_, rfl, a, _, rfl, .inl hS, _, rfl, _, _, rfl, rfl, _, rfl, iteDT (by rw [nI_len, hlen]; have := hnx j hc k rfl; omega) ⟨fun σ' H' => ∃ v : Option V, σ' = [some (.str (bS bs)), some (.int wd), some (optN (some k)), some (.ref a), some (.ref b), v] ∧ j + 1 ≤ cntN wd bs (some k) ∧ Same H H' ∧ H' a = some (.lst ((nI (fN wd bs (j + 1))).map V.int)) ∧ H' b = some (.lst ((nI (eN wd bs (j + 1))).map V.int)), fun σ' H' ⟨v, h⟩ => ⟨mm - 1, by omega, j + 1, v, by omega, h⟩, ?_⟩⟩
    all_goals
      refine ⟨_, rfl, _, rfl, Nat.zero_le _, fun p np => ?_⟩
      obtain ⟨H4, e4, s4, hp4⟩ := fresh (.lst ([] : List V)) np
      rw [e4]
      refine neD_lst (ns := nI (eN wd bs j)) (ms := []) (.inl (.inl (s4 _ _ hb3))) (.inl (.inl hp4)) ⟨_, rfl, ?_⟩
      have ask : ∀ i : V, i = .int ((plc wd bs j : Nat) : Int) → [V.str (bS bs), i, V.int wd] = [.str (bS bs), .int ((plc wd bs j : Nat) : Int), .int wd] := fun i e => by rw [e]
      rcases Nat.eq_zero_or_pos j with z | z
      all_goals first
      | refine iteNF (by rw [z]; rfl) ⟨_, rfl, bs, plc wd bs j, wd, ask _ (by rw [z]; rfl), hst.1, by omega, hw, fun e => ?_, fun x' hx' H5 t s5 nt ht => ?_⟩
      | refine iteNT (by intro e; have := congrArg List.length e; rw [List.length_map, eN_len (by omega)] at this; simp at this; omega) ⟨_, rfl, _, rfl, b, _, _, _, rfl, rfl, .inl (.inl (s4 _ _ hb3)), by
          obtain ⟨r, er⟩ := eN_last (w := wd) (bs := bs) (j := j - 1) (by omega)
          rw [show j - 1 + 1 = j by omega] at er
          exact lastI er, _, rfl, bs, plc wd bs j, wd, rfl, hst.1, by omega, hw, fun e => ?_, fun x' hx' H5 t s5 nt ht => ?_⟩
      all_goals first
        | (exact absurd (h0.symm.trans e) (fun z => nomatch z))
        | skip
      all_goals
        rw [h0] at hx'
        cases hx'
        have ha5 := s5 _ _ (s4 _ _ ha3)
        have hb5 := s5 _ _ (s4 _ _ hb3)
        have hS5 : SqL K H5 a ((nI (fN wd bs j)).map V.int) := .inl (.inl ha5)
        have ht5 : SqT K H5 t [.int x0.1, .int ((plc wd bs j + x0.2 : Nat) : Int)] := .inl (.inl ht)
        refine ⟨_, rfl, rfl, _, rfl, iteF ?_⟩
        refine ⟨_, rfl, .inl ⟨rfl, _, hS5⟩, _, rfl, t, _, _, _, rfl, rfl, ht5, rfl, a, _, _, rfl, rfl, ha5, by rw [nI_len, hlen]; exact small4 (by omega), ?_⟩
        have ta : t ≠ a := ne_of ht ha5 (by intro z; cases z)
        have na0 : H a = none := na
        obtain ⟨H6, e6⟩ : ∃ H6, upd H5 a (.lst ((nI (fN wd bs j)).map V.int ++ [.int x0.1])) = H6 := ⟨_, rfl⟩
        rw [e6]
        have ha6 : H6 a = some (.lst ((nI (fN wd bs (j + 1))).map V.int)) := by rw [← e6, upd_same, fN_next hx, nI_app, List.map_append, ex0]; rfl
        have hb6 : H6 b = some (.lst ((nI (eN wd bs j)).map V.int)) := by rw [← e6, upd_ne ab.symm]; exact hb5
        have ht6 : SqT K H6 t [.int x0.1, .int ((plc wd bs j + x0.2 : Nat) : Int)] := .inl (.inl (by rw [← e6, upd_ne ta]; exact ht))
        have s6 : Same H H6 := by rw [← e6]; exact same_over na0 (s3.trans (s4.trans s5))
        refine ⟨_, rfl, .inl ⟨rfl, _, .inl (.inl hb6)⟩, _, rfl, t, _, _, _, rfl, rfl, ht6, rfl, b, _, _, rfl, rfl, hb6, by rw [nI_len, eN_len (by omega)]; exact small4 (by omega), ?_⟩
        refine ⟨_, rfl, hc, same_over nb0 s6, ?_, ?_⟩
        · rw [upd_ne ab]; exact ha6
        · rw [upd_same, eN_next hx, nI_app, List.map_append, ex0]; rfl
  · -- no more
    have ej : cntN wd bs m = j := by omega
    refine ⟨_, rfl, rfl, _, rfl, ?_⟩
    by_cases hk : ∃ k, m = some k ∧ k ≤ j
    · obtain ⟨k, rfl, hk⟩ := hk
      refine iteF ⟨_, rfl, a, _, rfl, .inl hS, _, rfl, _, _, rfl, rfl, _, rfl, iteDF (by rw [nI_len, hlen]; omega) ?_⟩
      exact ⟨_, rfl, _, rfl, (show 2 ≤ sizeLine by decide), fun t nt => fin ej t _ (same_upd nt) nt upd_same⟩
    · have ejl : j = (rdT wd bs).length := by
        rcases m with _ | k
        · exact ej.symm
        · have h1 : min k (rdT wd bs).length = j := ej
          have h2 : ¬ k ≤ j := fun z => hk ⟨k, rfl, z⟩
          omega
      have h0 : foldR wd (bs.drop (plc wd bs j)) = none := by
        have h2 := hst.2
        rw [show (rdT wd bs)[j]? = none from List.getElem?_eq_none (by omega)] at h2
        exact Option.map_eq_none_iff.mp h2
      rcases m with _ | k
      all_goals first
      | refine iteT (iteT ⟨fun _ _ => False, fun _ _ h => h.elim, ?_⟩)
      | refine iteF ⟨_, rfl, a, _, rfl, .inl hS, _, rfl, _, _, rfl, rfl, _, rfl, iteDT (by rw [nI_len, hlen]; have h2 : ¬ k ≤ j := fun z => hk ⟨k, rfl, z⟩; omega) ⟨fun _ _ => False, fun _ _ h => h.elim, ?_⟩⟩
      all_goals
        refine ⟨_, rfl, _, rfl, Nat.zero_le _, fun p np => ?_⟩
        obtain ⟨H4, e4, s4, hp4⟩ := fresh (.lst ([] : List V)) np
        rw [e4]
        refine neD_lst (ns := nI (eN wd bs j)) (ms := []) (.inl (.inl (s4 _ _ hb3))) (.inl (.inl hp4)) ⟨_, rfl, ?_⟩
        have ask : ∀ i : V, i = .int ((plc wd bs j : Nat) : Int) → [V.str (bS bs), i, V.int wd] = [.str (bS bs), .int ((plc wd bs j : Nat) : Int), .int wd] := fun i e => by rw [e]
        rcases Nat.eq_zero_or_pos j with z | z
        all_goals first
        | refine iteNF (by rw [z]; rfl) ⟨_, rfl, bs, plc wd bs j, wd, ask _ (by rw [z]; rfl), hst.1, by omega, hw, fun e => ?_, fun x' hx' H5 t s5 nt ht => ?_⟩
        | refine iteNT (by intro e; have := congrArg List.length e; rw [List.length_map, eN_len (by omega)] at this; simp at this; omega) ⟨_, rfl, _, rfl, b, _, _, _, rfl, rfl, .inl (.inl (s4 _ _ hb3)), by
            obtain ⟨r, er⟩ := eN_last (w := wd) (bs := bs) (j := j - 1) (by omega)
            rw [show j - 1 + 1 = j by omega] at er
            exact lastI er, _, rfl, bs, plc wd bs j, wd, rfl, hst.1, by omega, hw, fun e => ?_, fun x' hx' H5 t s5 nt ht => ?_⟩
        all_goals first
        | (exact absurd (h0.symm.trans hx') (fun z => nomatch z))
        | (refine ⟨_, rfl, rfl, _, rfl, iteT ?_⟩
           exact ⟨_, rfl, _, rfl, (show 2 ≤ sizeLine by decide), fun t nt => fin ej t _ (s4.trans (same_upd nt)) (s4.free nt) upd_same⟩)
end
end My

namespace My
open PySem PySem.Spec PyProof.Rows L2 Pre
theorem nI_lst {l : List Nat} : (nI l).map V.int = l.map fun (n : Nat) => V.int (n : Int) := by rw [List.map_map]; rfl
local macro_rules | `(tactic| walk_at "go") => `(tactic| repeat (first | (with_reducible first | refine iteT ?_ | refine iteF ?_ | refine iteNtt ?_ | refine iteNff ?_ | refine iteET (by omega) ?_ | refine iteEF (by omega) ?_ | refine iteENT (by omega) ?_ | refine iteENF (by omega) ?_ | refine iteDT (by omega) ?_ | refine iteDF (by omega) ?_ | refine iteNT (by omega) ?_ | refine iteNF (by omega) ?_) | refine ⟨_, rfl, ?_⟩ | refine ⟨_, _, rfl, rfl, ?_⟩ | refine ⟨_, _, rfl, ?_⟩ | refine ⟨rfl, ?_⟩ | refine .inl ⟨_, rfl, ?_⟩ | refine .inr ⟨_, rfl, ?_⟩))
local macro_rules | `(tactic| walk_at "b") => `(tactic| try dsimp (config := { proj := false, iota := false, eta := false, zeta := false }) only)
section
variable {P : Program} {w : World} {K : PySem.W.Frag} {mg : Str → Option Value} {base : Heap}
def sp_read_folds : Sp := fun vs H Q _ => ∃ (bs : List Bool) (wd k : Nat), vs = [.str (bS bs), .int wd, .int k] ∧ bs.length ≤ 10000 ∧ wd ≤ 120 ∧
  ((rdT wd bs).length < k → ∀ H', Same H H' → Q .non H') ∧
  (k ≤ (rdT wd bs).length → ∀ H' t a, Same H H' → H t = none → H a = none → H' t = some (.tup [.ref a, .str (bS (bs.drop (plc wd bs k)))]) → H' a = some (.lst ((nI (fN wd bs k)).map V.int)) → Q (.ref t) H')
theorem G_read_folds (T : Top K mg) : FnOk P w K mg base CX0 4 T.f_read_folds T.fd_read_folds ["bits", "width", "many"] sp_read_folds := by
  refine T.F_read_folds.ok sc_read_folds (fun vs H Q E h => by obtain ⟨bs, wd, k, rfl, _⟩ := h; rfl) (fun cdv A outer s H vs Q E hr h => ?_)
  obtain ⟨bs, wd, k, rfl, hz, hw, q0, q1⟩ := h
  refine ⟨_, PSs.nox (pss_cons (ps_expr (pe_call (G_check_bits T) (hr.mono (by decide)) (by rfl) T.g_check_bits T.F_check_bits.kp T.b_check_bits .nil pass0 (pa_cons (pv 0) pa_nil)))
  (pss_cons (ps_expr (pe_call (G_check_width T) (hr.mono (by decide)) (by rfl) T.g_check_width T.F_check_width.kp T.b_check_width .nil pass0 (pa_cons (pv 1) pa_nil)))
  (pss_cons (ps_expr (pe_call (G_check_number T) (hr.mono (by decide)) (by rfl) T.g_check_number T.F_check_number.kp T.b_check_number .nil pass0 (pa_cons (pv 2) (pa_cons pe_int (pa_cons pe_non pa_nil)))))
  (pss_cons (ps_asg (pe_call (G_folds_in T) (hr.mono (by decide)) (by rfl) T.g_folds_in T.F_folds_in.kp T.b_folds_in .nil pass0 (pa_cons (pv 0) (pa_cons (pv 1) (pa_cons (pv 2) pa_nil)))) (k_pgT K rfl (by rfl) (pgs_cons (pg_name (i := 3) sc_read_folds.nd rfl (by first | exact Or.inl rfl | exact Or.inr rfl)) (pgs_cons (pg_name (i := 4) sc_read_folds.nd rfl (by first | exact Or.inl rfl | exact Or.inr rfl)) pgs_nil))))
  (pss_one (ps_ret (pe_ifExp (pt_cmpR op_eq (pe_callB (k_len K rfl) (by rfl) T.n_len (by decide +kernel) (pa_cons (pv 3) pa_nil)) (pv 2) (nomark _)) (pe_tup (pa_cons (pv 3) (pa_cons (pe_slice sl_str (pv 0) (po_some (pe_ix (k_ixL K rfl) (pe_op op_cat (pe_lst (pa_cons pe_int pa_nil)) (pv 4)) (pe_un un_neg pe_int) (fun _ _ => rfl))) po_none) pa_nil))) pe_non))))))), ?_⟩
  refine ⟨_, rfl, bs, rfl, by omega, fun H1 s1 => ?_⟩
  refine ⟨_, rfl, wd, rfl, by omega, by omega, ?_⟩
  refine ⟨_, rfl, k, 0, none, rfl, by omega, (fun j h => nomatch h), ?_⟩
  refine ⟨_, rfl, _, rfl, _, rfl, bs, wd, some k, rfl, hz, by omega, fun H2 t a b s2 nt na nb ab ht ha hb => ?_⟩
  refine ⟨t, _, rfl, .inl (.inl ht), rfl, _, _, rfl, _, _, rfl, rfl, ?_⟩
  have hle := cntN_le wd bs (some k)
  have hlen := rdT_len wd bs
  refine ⟨_, rfl, a, _, rfl, .inl (.inl (.inl ha)), _, rfl, rfl, _, rfl, ?_⟩
  rw [nI_len, fN_len hle]
  have hck : cntN wd bs (some k) = min k (rdT wd bs).length := rfl
  by_cases hk : k ≤ (rdT wd bs).length
  · have e : cntN wd bs (some k) = k := by omega
    refine iteET (by omega) ?_
    rw [e] at ha hb
    refine ⟨_, rfl, _, rfl, (show 1 ≤ sizeLine by decide), fun p np => ?_⟩
    obtain ⟨H3, e3, s3, hp3⟩ := fresh (.lst [V.int 0]) np
    rw [e3]
    refine ⟨_, rfl, p, b, _, _, rfl, rfl, hp3, s3 _ _ hb, by rw [nI_len, eN_len hk]; exact Nat.le_of_lt (small4 (by simp; omega)), fun p2 np2 => ?_⟩
    obtain ⟨H4, e4, s4, hp4⟩ := fresh (.lst ([V.int 0] ++ (nI (eN wd bs k)).map V.int)) np2
    rw [e4]
    obtain ⟨r, er⟩ := eN_last0 hk
    refine ⟨_, rfl, p2, _, _, .int ((plc wd bs k : Nat) : Int), rfl, rfl, .inl (.inl hp4), lastI (l := 0 :: eN wd bs k) er, _, rfl, _, rfl, by rw [bS_len]; exact Nat.le_of_lt (small4 (by omega)), ?_⟩
    rw [cut_bSd]
    refine ⟨(show 2 ≤ sizeLine by decide), fun p3 np3 => ?_⟩
    have s24 := s3.trans s4
    exact q1 hk _ p3 a (((s1.trans s2).trans s24).trans (same_upd np3)) ((s1.trans s2).free (s24.free np3)) (s1.free na) upd_same (same_upd np3 _ _ (s24 _ _ ha))
  · refine iteEF (by omega) ?_
    exact q0 (by omega) _ (s1.trans s2)
/-- the widths that read bits whole -/
def rdW (bs : List Bool) (n : Nat) : List Nat := (List.range n).filter fun w => whole w bs
theorem rdW_next (bs : List Bool) (n : Nat) : rdW bs (n + 1) = rdW bs n ++ (if whole n bs = true then [n] else []) := by
  unfold rdW
  rw [List.range_succ, List.filter_append]
  congr 1
  by_cases h : whole n bs = true <;> simp [h]
/-- a pair of a width and its folds stands at t -/
def PairAt (H : Hp) (bs : List Bool) (t : Addr) (w : Nat) : Prop := ∃ a, H t = some (.tup [.int (w : Int), .ref a]) ∧ H a = some (.lst ((nI ((rdT w bs).map (·.1))).map V.int))
theorem PairAt.same {H H' : Hp} {bs : List Bool} {t : Addr} {w : Nat} (h : PairAt H bs t w) (s : Same H H') : PairAt H' bs t w := by
  obtain ⟨a, h1, h2⟩ := h
  exact ⟨a, s _ _ h1, s _ _ h2⟩
def sp_readings : Sp := fun vs H Q _ => ∃ (bs : List Bool) (n : Nat), vs = [.str (bS bs), .int n] ∧ bs.length ≤ 10000 ∧ n ≤ 120 ∧
  ∀ H' p (ts : List Addr), Same H H' → H p = none → H' p = some (.lst (ts.map V.ref)) → ts.length = (rdW bs (n + 1)).length → (∀ (i : Nat) (t : Addr) (w : Nat), ts[i]? = some t → (rdW bs (n + 1))[i]? = some w → PairAt H' bs t w) → Q (.ref p) H'
theorem G_readings (T : Top K mg) : FnOk P w K mg base CX0 4 T.f_readings T.fd_readings ["bits", "most"] sp_readings := by
  refine T.F_readings.ok sc_readings (fun vs H Q E h => by obtain ⟨bs, n, rfl, _⟩ := h; rfl) (fun cdv A outer s H vs Q E hr h => ?_)
  obtain ⟨bs, n, rfl, hz, hn, q⟩ := h
  refine ⟨_, PSs.nox (pss_cons (ps_expr (pe_call (G_check_bits T) (hr.mono (by decide)) (by rfl) T.g_check_bits T.F_check_bits.kp T.b_check_bits .nil pass0 (pa_cons (pv 0) pa_nil)))
  (pss_cons (ps_expr (pe_call (G_check_width T) (hr.mono (by decide)) (by rfl) T.g_check_width T.F_check_width.kp T.b_check_width .nil pass0 (pa_cons (pv 1) pa_nil)))
  (pss_cons (ps_set (i := 2) sc_readings.nd rfl (by first | exact Or.inl rfl | exact Or.inr rfl) (pe_lst pa_nil))
  (pss_cons (ps_for PassesOwn.never rfl (pi_range1 (by rfl) T.n_range (pa_cons (pe_op op_add (pv 1) pe_int) pa_nil)) (pg_name (i := 3) sc_readings.nd rfl (by first | exact Or.inl rfl | exact Or.inr rfl))
    (pss_cons (ps_asg (pe_call (G_folds_in T) (hr.mono (by decide)) (by rfl) T.g_folds_in T.F_folds_in.kp T.b_folds_in .nil pass0 (pa_cons (pv 0) (pa_cons (pv 3) (pa_cons pe_non pa_nil)))) (k_pgT K rfl (by rfl) (pgs_cons (pg_name (i := 4) sc_readings.nd rfl (by first | exact Or.inl rfl | exact Or.inr rfl)) (pgs_cons (pg_name (i := 5) sc_readings.nd rfl (by first | exact Or.inl rfl | exact Or.inr rfl)) pgs_nil))))
  (pss_one (ps_if (pt_cmpR op_eq (pe_ix (k_ixL K rfl) (pe_op op_cat (pe_lst (pa_cons pe_int pa_nil)) (pv 5)) (pe_un un_neg pe_int) (fun _ _ => rfl)) (pe_callB call_len_str (by rfl) T.n_len (by decide +kernel) (pa_cons (pv 0) pa_nil)) (nomark _))
    (pss_one (ps_expr (pe_bm PySem.F.plainAttrs_list PySem.F.slot_list_append PySem.F.type_list_append mt_append (pv 2) (pa_cons (pe_tup (pa_cons (pv 3) (pa_cons (pv 4) pa_nil))) pa_nil))))
    pss_nil))))
  (pss_one (ps_ret (pv 2))))))), ?_⟩
  refine ⟨_, rfl, bs, rfl, by omega, fun H1 s1 => ?_⟩
  refine ⟨_, rfl, n, rfl, by omega, by omega, ?_⟩
  refine ⟨Nat.zero_le _, fun p np => ?_⟩
  obtain ⟨H2, e2, s2, hp2⟩ := fresh (.lst ([] : List V)) np
  rw [e2]
  refine ⟨_, rfl, _, _, rfl, rfl, _, rfl, by omega, by omega, ?_⟩
  rw [show ((n : Int) + 1).toNat = n + 1 by omega]
  refine for_range (lo := 0) (n := n + 1) (fun i σ H3 => ∃ (v3 v4 v5 : Option V) (ts : List Addr), σ = [some (.str (bS bs)), some (.int n), some (.ref p), v3, v4, v5] ∧ Same H H3 ∧ H3 p = some (.lst (ts.map V.ref)) ∧ ts.length = (rdW bs i).length ∧ ∀ (k : Nat) (t : Addr) (w : Nat), ts[k]? = some t → (rdW bs i)[k]? = some w → t ≠ p ∧ ∃ a, a ≠ p ∧ H3 t = some (.tup [.int (w : Int), .ref a]) ∧ H3 a = some (.lst ((nI ((rdT w bs).map (·.1))).map V.int)))
    ⟨none, none, none, [], rfl, s1.trans s2, hp2, rfl, fun k t w h => by simp at h⟩ ?_ ?_
  · rintro i σ H3 hi ⟨v3, v4, v5, ts, rfl, s3, hp3, hl3, hT⟩
    rw [show (0 + (i : Int)) = (i : Int) by omega]
    refine ⟨_, rfl, _, rfl, bs, i, none, rfl, hz, by omega, fun H4 t a b s4 nt na nb ab ht ha hb => ?_⟩
    refine ⟨t, _, rfl, .inl (.inl ht), rfl, _, _, rfl, _, _, rfl, rfl, ?_⟩
    have hlen := rdT_len i bs
    have ec : cntN i bs none = (rdT i bs).length := rfl
    rw [ec] at ha hb
    refine ⟨(show 1 ≤ sizeLine by decide), fun p2 np2 => ?_⟩
    obtain ⟨H5, e5, s5, hp5⟩ := fresh (.lst [V.int 0]) np2
    rw [e5]
    refine ⟨_, rfl, p2, b, _, _, rfl, rfl, hp5, s5 _ _ hb, by rw [nI_len, eN_len (Nat.le_refl _)]; exact Nat.le_of_lt (small4 (by simp; omega)), fun p3 np3 => ?_⟩
    obtain ⟨H6, e6, s6, hp6⟩ := fresh (.lst ([V.int 0] ++ (nI (eN i bs (rdT i bs).length)).map V.int)) np3
    rw [e6]
    obtain ⟨r, er⟩ := eN_last0 (Nat.le_refl (rdT i bs).length)
    refine ⟨_, rfl, p3, _, _, .int ((plc i bs (rdT i bs).length : Nat) : Int), rfl, rfl, .inl (.inl hp6), lastI (l := 0 :: eN i bs (rdT i bs).length) er, _, rfl, _, rfl, by rw [bS_len]; exact Nat.le_of_lt (small4 (by omega)), rfl, _, rfl, ?_⟩
    rw [bS_len]
    have s36 := s4.trans (s5.trans s6)
    by_cases hw : whole i bs = true
    · have hw2 : plc i bs (rdT i bs).length = bs.length := by unfold whole at hw; exact of_decide_eq_true hw
      refine iteET (by omega) ?_
      have hp7 := s36 _ _ hp3
      refine ⟨_, rfl, .inl ⟨rfl, _, .inl (.inl hp7)⟩, _, rfl, _, rfl, (show 2 ≤ sizeLine by decide), fun t2 nt2 => ?_⟩
      obtain ⟨H7, e7, s7, ht7⟩ := fresh (.tup [V.int i, V.ref a]) nt2
      rw [e7]
      refine ⟨p, _, _, rfl, rfl, s7 _ _ hp7, by rw [List.length_map, hl3]; have := List.length_filter_le (fun w => whole w bs) (List.range i); rw [List.length_range] at this; exact small4 (Nat.le_trans this (by omega)), ?_⟩
      have tp : t2 ≠ p := (ne_of_none hp7 nt2).symm
      have np0 : H p = none := s1.free np
      have s37 := s36.trans s7
      have ap : a ≠ p := (ne_of_none hp3 na).symm
      refine ⟨_, _, _, ts ++ [t2], rfl, same_over np0 (s3.trans s37), by rw [upd_same, List.map_append]; rfl, by rw [List.length_append, hl3, rdW_next, if_pos hw, List.length_append]; rfl, fun k t' w' ht' hw' => ?_⟩
      rw [rdW_next, if_pos hw] at hw'
      by_cases hk : k < ts.length
      · rw [List.getElem?_append_left hk] at ht'
        rw [List.getElem?_append_left (by omega)] at hw'
        obtain ⟨q1, a', qa, q2, q3⟩ := hT k t' w' ht' hw'
        refine ⟨q1, a', qa, ?_, ?_⟩
        · rw [upd_ne q1]; exact s37 _ _ q2
        · rw [upd_ne qa]; exact s37 _ _ q3
      · rw [List.getElem?_append_right (by omega)] at ht' hw'
        have hk2 : k - ts.length = 0 := by
          have h2 := (List.getElem?_eq_some_iff.mp ht').1
          rw [List.length_singleton] at h2
          omega
        rw [hk2] at ht'
        rw [show k - (rdW bs i).length = 0 by omega] at hw'
        cases ht'
        cases hw'
        refine ⟨tp, a, ap, by rw [upd_ne tp]; exact ht7, ?_⟩
        rw [upd_ne ap, s7 _ _ (s6 _ _ (s5 _ _ ha))]
        unfold fN
        rw [List.take_length]
    · have hw2 : ¬ plc i bs (rdT i bs).length = bs.length := fun z => hw (by unfold whole; exact decide_eq_true z)
      refine iteEF (by omega) ?_
      refine ⟨_, _, _, ts, rfl, s3.trans s36, s36 _ _ hp3, by rw [hl3, rdW_next, if_neg hw, List.append_nil], fun k t' w' ht' hw' => ?_⟩
      rw [rdW_next, if_neg hw, List.append_nil] at hw'
      obtain ⟨q1, a', qa, q2, q3⟩ := hT k t' w' ht' hw'
      exact ⟨q1, a', qa, s36 _ _ q2, s36 _ _ q3⟩
  · rintro σ H3 ⟨v3, v4, v5, ts, rfl, s3, hp3, hl3, hT⟩
    exact ⟨_, rfl, q H3 p ts s3 (s1.free np) hp3 hl3 fun k t w ht hw => by
      obtain ⟨_, a', _, q2, q3⟩ := hT k t w ht hw
      exact ⟨a', q2, q3⟩⟩
end
end My

namespace My
open PySem PySem.Spec PyProof.Rows L2 Pre
/-- where some bits lead -/
abbrev rz (w v : Nat) (t : List Bool) : Int × Int := runG (go2 w v) (0, 0) t
theorem rz_snoc (w v : Nat) (t : List Bool) (d : Bool) : rz w v (t ++ [d]) = (goS w (rz w v t).1 d, goS v (rz w v t).2 d) := by
  unfold rz
  rw [runG_app]
  rfl
/-- the pile and what is known stand -/
def PileAt (H : Hp) (p d : Addr) (w v : Nat) (P : List (List Bool)) : Prop := ∃ (ts : List Addr) (kvs : List (List Key × V)), H p = some (.lst (ts.map V.ref)) ∧ ts.length = P.length ∧
  (∀ (k : Nat) (t : Addr) (x : List Bool), ts[k]? = some t → P[k]? = some x → ∃ h, H t = some (.tup [.ref h, .str (bS x)]) ∧ H h = some (.tup [.int (rz w v x).1, .int (rz w v x).2])) ∧
  H d = some (.dT kvs) ∧ kvs.length ≤ P.length ∧ ∀ a b : Int, valV kvs [.inl a, .inl b] = none ↔ ¬ ∃ (k : Nat) (x : List Bool), P[k]? = some x ∧ rz w v x = (a, b)
theorem PileAt.same {H H' : Hp} {p d : Addr} {w v : Nat} {P : List (List Bool)} (h : PileAt H p d w v P) (s : Same H H') : PileAt H' p d w v P := by
  obtain ⟨ts, kvs, h1, h2, h3, h4, h5, h6⟩ := h
  refine ⟨ts, kvs, s _ _ h1, h2, fun k t x ht hx => ?_, s _ _ h4, h5, h6⟩
  obtain ⟨h, q1, q2⟩ := h3 k t x ht hx
  exact ⟨h, s _ _ q1, s _ _ q2⟩
theorem eqD_tup {K : PySem.W.Frag} {H : Hp} {a b : Addr} {ns ms : List Int} {Q : V → Hp → Prop} (ha : SqT K H a (ns.map V.int)) (hb : SqT K H b (ms.map V.int)) (q : Q (.bl (decide (ns = ms))) H) : rEqD K (.ref a) (.ref b) H Q := by
  refine ⟨.tuple (ns.map PyData.int), .tuple (ms.map PyData.int), .tup ha (Pre.dp_ints ns), .tup hb (Pre.dp_ints ms), shaped_tup ns, shaped_tup ms, ?_⟩
  rw [PyData.eqv, eqv_ints]
  exact q
theorem backN_size {w v : Nat} (hw : w ≤ 30) (hv : v ≤ 30) : (w + 1) * (v + 1) ≤ 961 ∧ (w + 2) * (v + 2) ≤ 1024 := ⟨Nat.mul_le_mul (by omega : w + 1 ≤ 31) (by omega : v + 1 ≤ 31), Nat.mul_le_mul (by omega : w + 2 ≤ 32) (by omega : v + 2 ≤ 32)⟩
local macro_rules | `(tactic| walk_at "go") => `(tactic| repeat (first | (with_reducible first | refine iteT ?_ | refine iteF ?_ | refine iteNtt ?_ | refine iteNff ?_ | refine iteET (by omega) ?_ | refine iteEF (by omega) ?_ | refine iteENT (by omega) ?_ | refine iteENF (by omega) ?_ | refine iteDT (by omega) ?_ | refine iteDF (by omega) ?_ | refine iteNT (by omega) ?_ | refine iteNF (by omega) ?_) | refine ⟨_, rfl, ?_⟩ | refine ⟨_, _, rfl, rfl, ?_⟩ | refine ⟨_, _, rfl, ?_⟩ | refine ⟨rfl, ?_⟩ | refine .inl ⟨_, rfl, ?_⟩ | refine .inr ⟨_, rfl, ?_⟩))
local macro_rules | `(tactic| walk_at "b") => `(tactic| try dsimp (config := { proj := false, iota := false, eta := false, zeta := false }) only)
section
variable {P : Program} {w : World} {K : PySem.W.Frag} {mg : Str → Option Value} {base : Heap}
def sp_stepped : Sp := fun vs H Q _ => ∃ (st wi : Int) (b : Bool), vs = [.int st, .int wi, .str (bS [b])] ∧ Q (.int (goS wi st b)) H
theorem G_stepped (T : Top K mg) : FnOk P w K mg base CX0 1 T.f_stepped T.fd_stepped ["state", "width", "sign"] sp_stepped := by
  refine T.F_stepped.ok sc_stepped (fun vs H Q E h => by obtain ⟨st, wi, b, rfl, _⟩ := h; rfl) (fun cdv A outer s H vs Q E hr h => ?_)
  obtain ⟨st, wi, b, rfl, q⟩ := h
  refine ⟨_, PSs.nox (pss_cons (ps_if (pt_cmpR op_gt (pv 0) pe_int (nomark _))
    (pss_one (ps_ret (pe_op op_sub (pv 0) pe_int)))
    pss_nil)
  (pss_one (ps_ret (pe_ifExp (pt_cmpR op_eq (pv 2) pe_str (nomark _)) (pe_un un_neg pe_int) (pv 1))))), ?_⟩
  refine ⟨_, rfl, _, _, rfl, rfl, _, rfl, ?_⟩
  unfold goS at q
  by_cases h0 : 0 < st
  · rw [if_pos h0] at q
    exact iteDT (by omega) ⟨_, rfl, _, _, rfl, rfl, q⟩
  · rw [if_neg h0] at q
    refine iteDF (by omega) ⟨_, rfl, rfl, _, rfl, ?_⟩
    rw [one_sign]
    cases b with
    | true => exact iteT ⟨_, rfl, q⟩
    | false => exact iteF ⟨_, rfl, q⟩
def sp_both_read : Sp := fun vs H Q _ => ∃ (wd wo : Nat), vs = [.int wd, .int wo] ∧ wd ≤ 30 ∧ wo ≤ 30 ∧
  ∀ H' t a b T, IsBoth wd wo T → Same H H' → H t = none → H a = none → H b = none → H' t = some (.tup [.str (bS T), .ref a, .ref b]) → H' a = some (.lst ((nI ((rdT wd T).map (·.1))).map V.int)) → H' b = some (.lst ((nI ((rdT wo T).map (·.1))).map V.int)) → Q (.ref t) H'
theorem G_both_read (T : Top K mg) : FnOk P w K mg base CX0 4 T.f_both_read T.fd_both_read ["one", "other"] sp_both_read := by
  refine T.F_both_read.ok sc_both_read (fun vs H Q E h => by obtain ⟨wd, wo, rfl, _⟩ := h; rfl) (fun cdv A outer s H vs Q E hr h => ?_)
  obtain ⟨wd, wo, rfl, hw, hv, q⟩ := h
  refine ⟨_, PSs.nox (pss_cons (ps_expr (pe_call (G_check_width T) (hr.mono (by decide)) (by rfl) T.g_check_width T.F_check_width.kp T.b_check_width .nil pass0 (pa_cons (pv 0) pa_nil)))
  (pss_cons (ps_expr (pe_call (G_check_width T) (hr.mono (by decide)) (by rfl) T.g_check_width T.F_check_width.kp T.b_check_width .nil pass0 (pa_cons (pv 1) pa_nil)))
  (pss_cons (ps_par3 (by rfl) sc_both_read.nd (i := 2) (j := 3) (l := 4) rfl rfl rfl (by decide) (by decide) (by decide) rfl rfl rfl (pa_cons (pe_disp1T (hu_of hr) (pe_tup (pa_cons pe_int (pa_cons pe_int pa_nil))) pe_bl) (pa_cons (pe_lst (pa_cons (pe_tup (pa_cons (pe_tup (pa_cons pe_int (pa_cons pe_int pa_nil))) (pa_cons pe_str pa_nil))) pa_nil)) (pa_cons pe_int pa_nil))) (by rfl))
  (pss_cons (ps_while PassesOwn.never (pt_cmpR op_lt (pv 4) (pe_callB (k_len K rfl) (by rfl) T.n_len (by decide +kernel) (pa_cons (pv 3) pa_nil)) (nomark _))
    (pss_cons (ps_asg (pe_ix (k_ixL K rfl) (pv 3) (pv 4) (fun _ _ => rfl)) (k_pgT K rfl (by rfl) (pgs_cons (pg_name (i := 6) sc_both_read.nd rfl (by first | exact Or.inl rfl | exact Or.inr rfl)) (pgs_cons (pg_name (i := 7) sc_both_read.nd rfl (by first | exact Or.inl rfl | exact Or.inr rfl)) pgs_nil))))
  (pss_cons (ps_set (i := 4) sc_both_read.nd rfl (by first | exact Or.inl rfl | exact Or.inr rfl) (pe_op op_add (pv 4) pe_int))
  (pss_one (ps_for PassesOwn.never rfl (pi_str pe_str) (pg_name (i := 5) sc_both_read.nd rfl (by first | exact Or.inl rfl | exact Or.inr rfl))
    (pss_cons (ps_set (i := 8) sc_both_read.nd rfl (by first | exact Or.inl rfl | exact Or.inr rfl) (pe_tup (pa_cons (pe_call (G_stepped T) (hr.mono (by decide)) (by rfl) T.g_stepped T.F_stepped.kp T.b_stepped .nil pass0 (pa_cons (pe_ix (k_ixT K rfl) (pv 6) pe_int (fun _ _ => rfl)) (pa_cons (pv 0) (pa_cons (pv 5) pa_nil)))) (pa_cons (pe_call (G_stepped T) (hr.mono (by decide)) (by rfl) T.g_stepped T.F_stepped.kp T.b_stepped .nil pass0 (pa_cons (pe_ix (k_ixT K rfl) (pv 6) pe_int (fun _ _ => rfl)) (pa_cons (pv 1) (pa_cons (pv 5) pa_nil)))) pa_nil))))
  (pss_cons (ps_if (pt_cmpR (k_eqD K rfl hr.units) (pv 8) (pe_tup (pa_cons pe_int (pa_cons pe_int pa_nil))) (nomark _))
    (pss_cons (ps_set (i := 9) sc_both_read.nd rfl (by first | exact Or.inl rfl | exact Or.inr rfl) (pe_op op_add_str (pv 7) (pv 5)))
  (pss_one (ps_ret (pe_tup (pa_cons (pv 9) (pa_cons (pe_ix (k_ixT K rfl) (pe_call (G_folds_in T) (hr.mono (by decide)) (by rfl) T.g_folds_in T.F_folds_in.kp T.b_folds_in .nil pass0 (pa_cons (pv 9) (pa_cons (pv 0) (pa_cons pe_non pa_nil)))) pe_int (fun _ _ => rfl)) (pa_cons (pe_ix (k_ixT K rfl) (pe_call (G_folds_in T) (hr.mono (by decide)) (by rfl) T.g_folds_in T.F_folds_in.kp T.b_folds_in .nil pass0 (pa_cons (pv 9) (pa_cons (pv 1) (pa_cons pe_non pa_nil)))) pe_int (fun _ _ => rfl)) pa_nil)))))))
    pss_nil)
  (pss_one (ps_if (pt_cmp (pc_dnotin (hu_of hr) (pv 8) (pv 2)))
    (pss_cons (ps_dput (hu_of hr) (pv 2) (pv 8) pe_bl rfl)
  (pss_one (ps_expr (pe_bm PySem.F.plainAttrs_list PySem.F.slot_list_append PySem.F.type_list_append mt_append (pv 3) (pa_cons (pe_tup (pa_cons (pv 8) (pa_cons (pe_op op_add_str (pv 7) (pv 5)) pa_nil))) pa_nil)))))
    pss_nil)))))))))
  (pss_one (ps_ret pe_non)))))), ?_⟩
  refine ⟨_, rfl, wd, rfl, by omega, by omega, ?_⟩
  refine ⟨_, rfl, wo, rfl, by omega, by omega, ?_⟩
  intro d nd
  obtain ⟨H1, e1, s1, hd1⟩ := fresh (.dT []) nd
  rw [e1]
  refine ⟨(show 2 ≤ sizeLine by decide), fun k0 nk0 => ?_⟩
  obtain ⟨H2, e2, s2, hk2⟩ := fresh (.tup [.int 0, .int 0]) nk0
  rw [e2]
  refine ⟨s2 _ _ hd1, k0, [.inl 0, .inl 0], rfl, hk2, ?_⟩
  obtain ⟨H3, e3⟩ : ∃ H3, upd H2 d (.dT [([.inl 0, .inl 0], .bl true)]) = H3 := ⟨_, rfl⟩
  rw [e3]
  have hd3 : H3 d = some (.dT [([.inl 0, .inl 0], .bl true)]) := by rw [← e3]; exact upd_same
  have s3 : Same H H3 := by rw [← e3]; exact same_over nd (s1.trans s2)
  refine ⟨(show 2 ≤ sizeLine by decide), fun t0 nt0 => ?_⟩
  obtain ⟨H4, e4, s4, ht4⟩ := fresh (.tup [.int 0, .int 0]) nt0
  rw [e4]
  refine ⟨(show 2 ≤ sizeLine by decide), fun t1 nt1 => ?_⟩
  obtain ⟨H5, e5, s5, ht5⟩ := fresh (.tup [.ref t0, .str (("" : String) : Str)]) nt1
  rw [e5]
  refine ⟨(show 1 ≤ sizeLine by decide), fun p np => ?_⟩
  obtain ⟨H6, e6, s6, hp6⟩ := fresh (.lst [.ref t1]) np
  rw [e6]
  refine ⟨_, _, _, rfl, ?_⟩
  have pile0 : PileAt H6 p d wd wo [[]] := by
    refine ⟨[t1], putK [] [.inl 0, .inl 0] (.bl true), hp6, rfl, fun k t x ht hx => ?_, s6 _ _ (s5 _ _ (s4 _ _ hd3)), Nat.le_refl _, fun a b => ?_⟩
    · have hk : k = 0 := by have := (List.getElem?_eq_some_iff.mp ht).1; simp at this; exact this
      subst hk
      cases ht
      cases hx
      exact ⟨t0, by rw [← str_nil]; exact s6 _ _ ht5, s6 _ _ (s5 _ _ ht4)⟩
    · rw [valV_put]
      by_cases e : a = 0 ∧ b = 0
      · obtain ⟨rfl, rfl⟩ := e
        rw [if_pos rfl]
        exact ⟨(fun z => nomatch z), fun z => absurd ⟨0, [], rfl, rfl⟩ z⟩
      · rw [if_neg (fun z => by
          injection z with z1 z2
          injection z2 with z2 _
          exact e ⟨Sum.inl.inj z1, Sum.inl.inj z2⟩)]
        refine ⟨fun _ ⟨k, x, hx, hr⟩ => ?_, fun _ => rfl⟩
        have hk : k = 0 := by have := (List.getElem?_eq_some_iff.mp hx).1; simp at this; exact this
        subst hk
        cases hx
        have e1 : ((0 : Int), (0 : Int)) = (a, b) := hr
        injection e1 with e2 e3
        exact e ⟨e2.symm, e3.symm⟩
  have bsz := backN_size hw hv
  refine ⟨fun mm σ H7 => ∃ (L : List (List Bool)) (i : Nat) (v5 v6 v7 v8 v9 : Option V), mm + i = (wd + 2) * (wo + 2) ∧ σ = [some (.int wd), some (.int wo), some (.ref d), some (.ref p), some (.int i), v5, v6, v7, v8, v9] ∧ Bfs (go2 wd wo) (0, 0) L i 0 ∧ Same H H7 ∧ PileAt H7 p d wd wo L,
    ⟨(wd + 2) * (wo + 2), [[]], 0, none, none, none, none, none, rfl, rfl, bfs_start, s3.trans (s4.trans (s5.trans s6)), pile0⟩, ?_⟩
  rintro mm σ H7 ⟨L, i, v5, v6, v7, v8, v9, hm, rfl, B, s7, pl⟩
  obtain ⟨hi, hlen⟩ := B.goes (backN_ne wd wo) (backN_run wd wo)
  have hsz := B.size
  obtain ⟨ts, kvs, hp7, hl7, hT, hd7, hk7, hv7⟩ := id pl
  refine ⟨_, rfl, _, rfl, p, _, rfl, .inl (.inl (.inl hp7)), _, _, rfl, rfl, _, rfl, iteDT (by rw [List.length_map]; omega) ?_⟩
  refine ⟨fun σ' H' => ∃ (L : List (List Bool)) (v5 v6 v7 v8 v9 : Option V), σ' = [some (.int wd), some (.int wo), some (.ref d), some (.ref p), some (.int ((i + 1 : Nat) : Int)), v5, v6, v7, v8, v9] ∧ Bfs (go2 wd wo) (0, 0) L (i + 1) 0 ∧ Same H H' ∧ PileAt H' p d wd wo L,
    fun σ' H' ⟨L', u5, u6, u7, u8, u9, h1, h2, h3, h4⟩ => ⟨mm - 1, by omega, L', i + 1, u5, u6, u7, u8, u9, by omega, h1, h2, h3, h4⟩, ?_⟩
  have ht : L[i]? = some L[i] := List.getElem?_eq_getElem hi
  have htl := hlen _ ht
  generalize L[i] = t at ht htl
  have htl2 : t.length ≤ 961 := by
    have h1 := vF_len htl
    unfold backN at h1
    rw [List.length_replicate] at h1
    omega
  have htt : ts[i]? = some ts[i] := List.getElem?_eq_getElem (by omega)
  generalize ts[i] = ta at htt
  obtain ⟨h, hta, hh⟩ := hT i ta t htt ht
  refine ⟨_, rfl, _, rfl, p, _, _, .ref ta, rfl, rfl, .inl (.inl hp7), atI_nat (by rw [List.getElem?_map, htt]; rfl), ta, _, rfl, .inl (.inl hta), rfl, _, _, rfl, _, _, rfl, rfl, ?_⟩
  refine ⟨_, rfl, _, _, rfl, rfl, _, rfl, ?_⟩
  refine for_it walk_str (fun c σ H8 => ∃ (L' : List (List Bool)) (v5 v8 v9 : Option V), σ = [some (.int wd), some (.int wo), some (.ref d), some (.ref p), some (.int ((i : Int) + 1)), v5, some (.ref h), some (.str (bS t)), v8, v9] ∧ Bfs (go2 wd wo) (0, 0) L' i c ∧ L'[i]? = some t ∧ Same H H8 ∧ PileAt H8 p d wd wo L' ∧ H8 h = some (.tup [.int (rz wd wo t).1, .int (rz wd wo t).2]))
    ⟨L, _, _, _, rfl, B, ht, s7, pl, hh⟩ (fun _ _ _ _ _ => trivial) ?_ ?_
  · rintro c x σ H8 H9 hc ⟨L', u5, u8, u9, rfl, B', ht', s8, pl', hh8⟩ ⟨rfl, cc, hcc, rfl⟩
    rw [str_01] at hcc
    obtain ⟨b, hb, eb⟩ := bS_at hcc
    rw [eb]
    have cb : c = b.toNat := by
      rcases c with _ | _ | c
      · cases hb; rfl
      · cases hb; rfl
      · simp at hb
    have hSh : SqT K H9 h [.int (rz wd wo t).1, .int (rz wd wo t).2] := .inl (.inl hh8)
    -- there
    refine ⟨_, rfl, h, _, _, _, rfl, rfl, hSh, rfl, _, rfl, _, rfl, _, _, b, rfl, ?_⟩
    refine ⟨_, rfl, h, _, _, _, rfl, rfl, hSh, rfl, _, rfl, _, rfl, _, _, b, rfl, ?_⟩
    refine ⟨(show 2 ≤ sizeLine by decide), fun th nth => ?_⟩
    obtain ⟨H10, e10, s10, hth⟩ := fresh (.tup [.int (goS wd (rz wd wo t).1 b), .int (goS wo (rz wd wo t).2 b)]) nth
    rw [e10]
    have hr := rz_snoc wd wo t b
    generalize goS wd (rz wd wo t).1 b = r1 at hth hr
    generalize goS wo (rz wd wo t).2 b = r2 at hth hr
    refine ⟨_, rfl, (show 2 ≤ sizeLine by decide), fun z nz => ?_⟩
    obtain ⟨H11, e11, s11, hz⟩ := fresh (.tup [.int 0, .int 0]) nz
    rw [e11]
    refine eqD_tup (ns := [r1, r2]) (ms := [0, 0]) (.inl (.inl (s11 _ _ hth))) (.inl (.inl hz)) ⟨_, rfl, ?_⟩
    have s9 := s10.trans s11
    by_cases h0 : [r1, r2] = [(0 : Int), 0]
    · -- both are whole
      refine iteDT h0 ?_
      have hz0 : runG (go2 wd wo) (0, 0) (t ++ [b]) = (0, 0) := by
        have : rz wd wo (t ++ [b]) = (r1, r2) := hr
        injection h0 with q1 q2
        injection q2 with q2 _
        show rz wd wo (t ++ [b]) = (0, 0)
        rw [this, q1, q2]
      have hwh := (run2_whole wd wo _).mp hz0
      rw [Bool.and_eq_true] at hwh
      have hB : IsBoth wd wo (t ++ [b]) := ⟨by simp, hwh.1, hwh.2, fun R hR w1 w2 => B'.found ht' cb hR ((run2_whole wd wo R).mpr (by rw [w1, w2]; rfl))⟩
      have hBl := hB.len
      refine ⟨_, rfl, _, rfl, _, _, rfl, rfl, by rw [bS_len, bS_len]; exact Nat.le_of_lt (small4 (by simp; omega)), ?_⟩
      rw [bS_app]
      refine ⟨_, rfl, _, rfl, _, rfl, t ++ [b], wd, none, rfl, by omega, by omega, fun H12 t2 a a' s12 nt2 na na' aa ht2 ha ha' => ?_⟩
      refine ⟨t2, _, _, _, rfl, rfl, .inl (.inl ht2), rfl, ?_⟩
      refine ⟨_, rfl, _, rfl, t ++ [b], wo, none, rfl, by omega, by omega, fun H13 t3 c c' s13 nt3 nc nc' cc' ht3 hc3 hc3' => ?_⟩
      refine ⟨t3, _, _, _, rfl, rfl, .inl (.inl ht3), rfl, ?_⟩
      refine ⟨(show 3 ≤ sizeLine by decide), fun t4 nt4 => ?_⟩
      have sA := s8.trans s9
      have sB := sA.trans s12
      have sC := sB.trans s13
      have e1 : ∀ w', fN w' (t ++ [b]) (cntN w' (t ++ [b]) none) = (rdT w' (t ++ [b])).map (·.1) := fun w' => by
        show ((rdT w' (t ++ [b])).take (rdT w' (t ++ [b])).length).map (·.1) = _
        rw [List.take_length]
      rw [e1] at ha hc3
      exact q _ t4 a c _ hB (sC.trans (same_upd nt4)) (sC.free nt4) (sA.free na) (sB.free nc) upd_same (same_upd nt4 _ _ (s13 _ _ ha)) (same_upd nt4 _ _ hc3)
    · refine iteDF h0 ?_
      have hz0 : runG (go2 wd wo) (0, 0) (t ++ [b]) ≠ (0, 0) := fun z => h0 (by
        have : rz wd wo (t ++ [b]) = (r1, r2) := hr
        have z2 : (r1, r2) = ((0 : Int), (0 : Int)) := this.symm.trans z
        injection z2 with q1 q2
        rw [q1, q2])
      obtain ⟨ts', kvs', hp', hl', hT', hd', hk', hv'⟩ := id (pl'.same s9)
      have hthd : H11 th = some (.tup ([Sum.inl r1, Sum.inl r2].map kV)) := s11 _ _ hth
      refine ⟨_, rfl, _, rfl, d, _, rfl, DGet.t (k := [.inl r1, .inl r2]) hd' hthd, ?_⟩
      by_cases hk : ∃ (k : Nat) (x : List Bool), L'[k]? = some x ∧ rz wd wo x = (r1, r2)
      · -- known
        have hne : valV kvs' [.inl r1, .inl r2] ≠ none := fun e => (hv' r1 r2).mp e hk
        obtain ⟨y, hy⟩ := Option.ne_none_iff_exists'.mp hne
        rw [hy]
        refine ⟨_, rfl, iteF ?_⟩
        refine ⟨L', _, _, _, rfl, B'.old ht' cb hz0 ?_, ht', s8.trans s9, pl'.same s9, s9 _ _ hh8⟩
        obtain ⟨k, x, hx, he⟩ := hk
        exact ⟨k, x, hx, by rw [show runG (go2 wd wo) (0, 0) (t ++ [b]) = (r1, r2) from hr]; exact he⟩
      · have hno := (hv' r1 r2).mpr hk
        rw [hno]
        refine ⟨_, rfl, iteT ?_⟩
        have Bn := B'.new ht' cb hz0 (fun ⟨k, x, hx, he⟩ => hk ⟨k, x, hx, by rw [show runG (go2 wd wo) (0, 0) (t ++ [b]) = (r1, r2) from hr] at he; exact he⟩)
        have hsz' := Bn.size
        rw [List.length_append, List.length_singleton] at hsz'
        refine ⟨_, rfl, _, rfl, d, _, rfl, DPut.t hd' hthd (small4 (by omega)), ?_⟩
        obtain ⟨H12, e12⟩ : ∃ H12, upd H11 d (.dT (putK kvs' [.inl r1, .inl r2] (.bl true))) = H12 := ⟨_, rfl⟩
        rw [e12]
        have o12 : ∀ c o, (∀ k, o ≠ .dT k) → H11 c = some o → H12 c = some o := fun c o ho hc => by
          rw [← e12, upd_ne (fun z => ho kvs' (by rw [z, hd'] at hc; exact (Option.some.inj hc).symm))]
          exact hc
        have hp12 := o12 _ _ (fun k z => by cases z) hp'
        have hd12 : H12 d = some (.dT (putK kvs' [.inl r1, .inl r2] (.bl true))) := by rw [← e12]; exact upd_same
        refine ⟨_, rfl, .inl ⟨rfl, _, .inl (.inl hp12)⟩, _, rfl, _, rfl, _, rfl, _, _, rfl, rfl, by rw [bS_len, bS_len]; exact Nat.le_of_lt (small4 (by simp; omega)), ?_⟩
        rw [bS_app]
        refine ⟨(show 2 ≤ sizeLine by decide), fun t2 nt2 => ?_⟩
        obtain ⟨H13, e13, s13, ht2⟩ := fresh (.tup [.ref th, .str (bS (t ++ [b]))]) nt2
        rw [e13]
        have hp13 := s13 _ _ hp12
        refine ⟨p, _, _, rfl, rfl, hp13, by rw [List.length_map, hl']; exact small4 (by omega), ?_⟩
        have o14 : ∀ c o, (∀ k, o ≠ .lst k) → H13 c = some o → (upd H13 p (.lst (ts'.map V.ref ++ [V.ref t2]))) c = some o := fun c o ho hc => by
          rw [upd_ne (fun z => ho (ts'.map V.ref) (by rw [z, hp13] at hc; exact (Option.some.inj hc).symm))]
          exact hc
        have ot : ∀ c xs, H11 c = some (.tup xs) → (upd H13 p (.lst (ts'.map V.ref ++ [V.ref t2]))) c = some (.tup xs) := fun c xs hc => o14 _ _ (fun k z => by cases z) (s13 _ _ (o12 _ _ (fun k z => by cases z) hc))
        refine ⟨L' ++ [t ++ [b]], _, _, _, rfl, Bn, ?_, ?_, ?_, ?_⟩
        · rw [List.getElem?_append_left (List.getElem?_eq_some_iff.mp ht').1]
          exact ht'
        · have sN : Same H H12 := by rw [← e12]; exact same_over nd (s8.trans s9)
          exact same_over ((s3.trans (s4.trans s5)).free np) (sN.trans s13)
        · refine ⟨ts' ++ [t2], putK kvs' [.inl r1, .inl r2] (.bl true), by rw [upd_same, List.map_append]; rfl, by rw [List.length_append, List.length_append, hl']; rfl, fun k t' x' hk1 hk2 => ?_, o14 _ _ (fun k z => by cases z) (s13 _ _ hd12), ?_, fun a0 b0 => ?_⟩
          · by_cases hkl : k < ts'.length
            · rw [List.getElem?_append_left hkl] at hk1
              rw [List.getElem?_append_left (by omega)] at hk2
              obtain ⟨h', q1, q2⟩ := hT' k t' x' hk1 hk2
              exact ⟨h', ot _ _ q1, ot _ _ q2⟩
            · rw [List.getElem?_append_right (by omega)] at hk1 hk2
              have hk3 : k - ts'.length = 0 := by
                have h2 := (List.getElem?_eq_some_iff.mp hk1).1
                rw [List.length_singleton] at h2
                omega
              rw [hk3] at hk1
              rw [show k - L'.length = 0 by omega] at hk2
              cases hk1
              cases hk2
              refine ⟨th, o14 _ _ (fun k z => by cases z) ht2, ?_⟩
              rw [show rz wd wo (t ++ [b]) = (r1, r2) from hr]
              exact ot _ _ hthd
          · have := length_putK kvs' [.inl r1, .inl r2] (.bl true)
            rw [List.length_append, List.length_singleton]
            omega
          · rw [valV_put]
            by_cases e : a0 = r1 ∧ b0 = r2
            · obtain ⟨rfl, rfl⟩ := e
              rw [if_pos rfl]
              refine ⟨(fun z => nomatch z), fun z => absurd ⟨L'.length, t ++ [b], by rw [List.getElem?_append_right (Nat.le_refl _), Nat.sub_self]; rfl, hr⟩ z⟩
            · rw [if_neg (fun z => by
                injection z with z1 z2
                injection z2 with z2 _
                exact e ⟨Sum.inl.inj z1, Sum.inl.inj z2⟩), hv' a0 b0]
              refine ⟨fun hn ⟨k, x, hx, he⟩ => ?_, fun hn ⟨k, x, hx, he⟩ => hn ⟨k, x, by rw [List.getElem?_append_left (List.getElem?_eq_some_iff.mp hx).1]; exact hx, he⟩⟩
              by_cases hkl : k < L'.length
              · rw [List.getElem?_append_left hkl] at hx
                exact hn ⟨k, x, hx, he⟩
              · rw [List.getElem?_append_right (by omega)] at hx
                have hk3 : k - L'.length = 0 := by
                  have h2 := (List.getElem?_eq_some_iff.mp hx).1
                  rw [List.length_singleton] at h2
                  omega
                rw [hk3] at hx
                cases hx
                have e9 : (r1, r2) = (a0, b0) := hr.symm.trans he
                injection e9 with z1 z2
                exact e ⟨z1.symm, z2.symm⟩
        · exact ot _ _ (s9 _ _ hh8)
  · rintro σ H8 ⟨L', u5, u8, u9, rfl, B', ht', s8, pl', hh8⟩
    rw [str_01, bS_size] at B'
    exact ⟨L', _, _, _, _, _, rfl, B'.next, s8, pl'⟩
end
end My

namespace My
open PySem PySem.Spec PyProof.Rows L2 Pre
/-- one bit turned -/
def turnAt (bs : List Bool) (i : Nat) (b : Bool) : List Bool := bs.take i ++ [!b] ++ bs.drop (i + 1)
theorem turn_len {bs : List Bool} {i : Nat} (h : i < bs.length) (b : Bool) : (turnAt bs i b).length = bs.length := by
  unfold turnAt
  rw [List.length_append, List.length_append, List.length_take, List.length_drop, List.length_singleton]
  omega
def endsN (w : Nat) (bs : List Bool) : List Nat := (rdT w bs).map (·.2)
/-- the places behind a turned bit at which both are in step -/
def bothN (w : Nat) (T S : List Bool) (i : Nat) : List Nat := (endsN w S).filter fun e => decide (i < e) && decide (e ∈ endsN w T)
theorem bothN_sel (w : Nat) (T S : List Bool) (i : Nat) : ((endsN w S).map fun e => if i < e ∧ e ∈ endsN w T then some (V.int (e : Int)) else none).filterMap id = (nI (bothN w T S i)).map V.int := by
  unfold bothN
  generalize endsN w S = l
  induction l with
  | nil => rfl
  | cons e l ih =>
    rw [List.map_cons]
    by_cases h : i < e ∧ e ∈ endsN w T
    · rw [if_pos h, List.filterMap_cons_some (by rfl), ih, List.filter_cons, if_pos (by rw [decide_eq_true h.1, decide_eq_true h.2]; rfl)]
      rfl
    · rw [if_neg h, List.filterMap_cons_none (by rfl), ih, List.filter_cons, if_neg (fun z => h (by
        rw [Bool.and_eq_true] at z
        exact ⟨of_decide_eq_true z.1, of_decide_eq_true z.2⟩))]
theorem nI_mem {l : List Nat} {e : Nat} : (e : Int) ∈ nI l ↔ e ∈ l := by
  constructor
  · intro h
    obtain ⟨x, hx, he⟩ := List.mem_map.mp h
    have : x = e := by omega
    rw [← this]
    exact hx
  · intro h
    exact List.mem_map.mpr ⟨e, h, rfl⟩
theorem cnt_none (w : Nat) (bs : List Bool) : fN w bs (cntN w bs none) = (rdT w bs).map (·.1) ∧ eN w bs (cntN w bs none) = endsN w bs := by
  unfold fN eN endsN
  show ((rdT w bs).take (rdT w bs).length).map (·.1) = _ ∧ ((rdT w bs).take (rdT w bs).length).map (·.2) = _
  rw [List.take_length]
  exact ⟨rfl, rfl⟩
theorem ends_last (w : Nat) (bs : List Bool) : ∃ r, 0 :: endsN w bs = r ++ [plc w bs (rdT w bs).length] := by
  have h := eN_last0 (w := w) (bs := bs) (Nat.le_refl _)
  have e := (cnt_none w bs).2
  rw [show cntN w bs none = (rdT w bs).length from rfl] at e
  rw [e] at h
  exact h
theorem endsN_len (w : Nat) (bs : List Bool) : (endsN w bs).length = (rdT w bs).length := by unfold endsN; rw [List.length_map]
local macro_rules | `(tactic| walk_at "go") => `(tactic| repeat (first | (with_reducible first | refine iteT ?_ | refine iteF ?_ | refine iteNtt ?_ | refine iteNff ?_ | refine iteET (by omega) ?_ | refine iteEF (by omega) ?_ | refine iteENT (by omega) ?_ | refine iteENF (by omega) ?_ | refine iteDT (by omega) ?_ | refine iteDF (by omega) ?_ | refine iteNT (by omega) ?_ | refine iteNF (by omega) ?_) | refine ⟨_, rfl, ?_⟩ | refine ⟨_, _, rfl, rfl, ?_⟩ | refine ⟨_, _, rfl, ?_⟩ | refine ⟨rfl, ?_⟩ | refine .inl ⟨_, rfl, ?_⟩ | refine .inr ⟨_, rfl, ?_⟩))
local macro_rules | `(tactic| walk_at "b") => `(tactic| try dsimp (config := { proj := false, iota := false, eta := false, zeta := false }) only)
section
variable {P : Program} {w : World} {K : PySem.W.Frag} {mg : Str → Option Value} {base : Heap}
def sp_turned_reading : Sp := fun vs H Q _ => ∃ (a : Addr) (fs : List Nat) (wd i : Nat) (b : Bool), vs = [.ref a, .int wd, .int i] ∧ H a = some (.lst ((nI fs).map V.int)) ∧ Few wd fs ∧ wd ≤ 120 ∧ (txF wd fs).length ≤ 1000 ∧ (txF wd fs)[i]? = some b ∧
  ∀ H' t l, Same H H' → H t = none → H l = none → H' t = some (.tup [.ref l, .str (bS ((turnAt (txF wd fs) i b).drop (plc wd (turnAt (txF wd fs) i b) (rdT wd (turnAt (txF wd fs) i b)).length))), optN (bothN wd (txF wd fs) (turnAt (txF wd fs) i b) i).head?]) →
    H' l = some (.lst ((nI ((rdT wd (turnAt (txF wd fs) i b)).map (·.1))).map V.int)) → Q (.ref t) H'
theorem G_turned_reading (T : Top K mg) : FnOk P w K mg base CX0 4 T.f_turned_reading T.fd_turned_reading ["folds", "width", "at"] sp_turned_reading := by
  refine T.F_turned_reading.ok sc_turned_reading (fun vs H Q E h => by obtain ⟨a, fs, wd, i, b, rfl, _⟩ := h; rfl) (fun cdv A outer s H vs Q E hr h => ?_)
  obtain ⟨a, fs, wd, i, b, rfl, hA, hF, hw, hT, hi, q⟩ := h
  refine ⟨_, PSs.nox (pss_cons (ps_expr (pe_call (G_check_folds T) (hr.mono (by decide)) (by rfl) T.g_check_folds T.F_check_folds.kp T.b_check_folds .nil pass0 (pa_cons (pv 0) pa_nil)))
  (pss_cons (ps_expr (pe_call (G_check_width T) (hr.mono (by decide)) (by rfl) T.g_check_width T.F_check_width.kp T.b_check_width .nil pass0 (pa_cons (pv 1) pa_nil)))
  (pss_cons (ps_set (i := 3) sc_turned_reading.nd rfl (by first | exact Or.inl rfl | exact Or.inr rfl) (pe_call (G_text_of T) (hr.mono (by decide)) (by rfl) T.g_text_of T.F_text_of.kp T.b_text_of .nil pass0 (pa_cons (pv 0) (pa_cons (pv 1) pa_nil))))
  (pss_cons (ps_expr (pe_call (G_check_number T) (hr.mono (by decide)) (by rfl) T.g_check_number T.F_check_number.kp T.b_check_number .nil pass0 (pa_cons (pv 2) (pa_cons pe_int (pa_cons (pe_op op_sub (pe_callB call_len_str (by rfl) T.n_len (by decide +kernel) (pa_cons (pv 3) pa_nil)) pe_int) pa_nil)))))
  (pss_cons (ps_set (i := 4) sc_turned_reading.nd rfl (by first | exact Or.inl rfl | exact Or.inr rfl) (pe_op op_add_str (pe_op op_add_str (pe_slice sl_str (pv 3) po_none (po_some (pv 2))) (pe_ix ix_str pe_str (pe_callTy call_int1 (by rfl) T.n_int (by decide +kernel) (pa_cons (pe_cmpR op_eq (pe_ix ix_str (pv 3) (pv 2) (fun _ _ => rfl)) pe_str (nomark _)) pa_nil)) (fun _ _ => rfl))) (pe_slice sl_str (pv 3) (po_some (pe_op op_add (pv 2) pe_int)) po_none)))
  (pss_cons (ps_asg (pe_call (G_folds_in T) (hr.mono (by decide)) (by rfl) T.g_folds_in T.F_folds_in.kp T.b_folds_in .nil pass0 (pa_cons (pv 4) (pa_cons (pv 1) (pa_cons pe_non pa_nil)))) (k_pgT K rfl (by rfl) (pgs_cons (pg_name (i := 7) sc_turned_reading.nd rfl (by first | exact Or.inl rfl | exact Or.inr rfl)) (pgs_cons (pg_name (i := 8) sc_turned_reading.nd rfl (by first | exact Or.inl rfl | exact Or.inr rfl)) pgs_nil))))
  (pss_cons (ps_set (i := 5) sc_turned_reading.nd rfl (by first | exact Or.inl rfl | exact Or.inr rfl) (pe_callTy (k_setLW K w rfl rfl rfl) (by rfl) T.n_set (by decide +kernel) (pa_cons (pe_ix (k_ixT K rfl) (pe_call (G_folds_in T) (hr.mono (by decide)) (by rfl) T.g_folds_in T.F_folds_in.kp T.b_folds_in .nil pass0 (pa_cons (pv 3) (pa_cons (pv 1) (pa_cons pe_non pa_nil)))) pe_int (fun _ _ => rfl)) pa_nil)))
  (pss_cons (ps_setLc (i := 6) (own := [("end", 9)]) (g := gName 9) (by rfl) sc_turned_reading.nd rfl rfl (sw_true rfl rfl rfl (by decide +kernel)) (k_piL K rfl (pv 8)) (blkOk_by (own := [("end", 9)]) (N := N_turned_reading) (sc := defScope s_turned_reading) (by decide +kernel)) (fun _ _ _ _ _ => (pg_name (i := 9) sc_turned_reading.nd rfl (by first | exact Or.inl rfl | exact Or.inr rfl))) (fun _ _ _ _ _ => (pts_one (PW.pt (pw_and (pt_cmpR op_gt (pv 9) (pv 2) (nomark _)) (pw_and1 (pt_cmpR (k_sIn w rfl) (pv 9) (pv 5) (by rfl))))))) (fun _ _ _ _ _ => (pv 9)))
  (pss_one (ps_ret (pe_tup (pa_cons (pv 7) (pa_cons (pe_slice sl_str (pv 4) (po_some (pe_ix (k_ixL K rfl) (pe_op op_cat (pe_lst (pa_cons pe_int pa_nil)) (pv 8)) (pe_un un_neg pe_int) (fun _ _ => rfl))) po_none) (pa_cons (pe_ifExp (pt_cmpR (k_neD K rfl hr.units) (pv 6) (pe_lst pa_nil) (nomark _)) (pe_ix (k_ixL K rfl) (pv 6) pe_int (fun _ _ => rfl)) pe_non) pa_nil)))))))))))))), ?_⟩
  refine ⟨_, rfl, a, fs, rfl, hA, by have := hF.2.2.1; omega, fun H1 s1 => ?_⟩
  refine ⟨_, rfl, wd, rfl, by omega, by omega, ?_⟩
  refine ⟨_, rfl, _, rfl, a, fs, wd, rfl, .inl (.inl (s1 _ _ hA)), hF, fun H2 s2 => ?_⟩
  generalize txF wd fs = T at *
  have hil := (List.getElem?_eq_some_iff.mp hi).1
  refine ⟨_, rfl, _, rfl, _, rfl, by rw [bS_len]; exact Nat.le_of_lt (small4 (by omega)), _, _, rfl, rfl, i, 0, some _, rfl, by omega, (fun j h => by cases h; rw [bS_len]; omega), ?_⟩
  refine ⟨_, rfl, _, rfl, _, rfl, _, rfl, by rw [bS_len]; exact Nat.le_of_lt (small4 (by omega)), ?_⟩
  rw [cut_bSt]
  refine ⟨_, rfl, _, rfl, _, _, sgn b, rfl, rfl, by rw [bS_len]; exact Nat.le_of_lt (small4 (by omega)), bS_atI hi, rfl, ?_⟩
  rw [bS_one, one_sign]
  refine .inr ⟨_, rfl, ?_⟩
  rw [bool_nat, str_10]
  refine ⟨_, _, sgn (!b), rfl, rfl, by rw [bS_len]; decide, bS_atI (by cases b <;> rfl), ?_⟩
  rw [bS_one]
  refine ⟨_, _, rfl, rfl, by rw [bS_len, bS_len]; exact Nat.le_of_lt (small4 (by rw [List.length_take]; simp; omega)), ?_⟩
  rw [bS_app]
  refine ⟨_, rfl, _, rfl, _, _, rfl, rfl, _, rfl, _, rfl, by rw [bS_len]; exact Nat.le_of_lt (small4 (by omega)), ?_⟩
  rw [show ((i : Int) + 1) = ((i + 1 : Nat) : Int) by omega, cut_bSd]
  have hsl := turn_len hil b
  refine ⟨_, _, rfl, rfl, by rw [bS_len, bS_len]; unfold turnAt at hsl; rw [List.length_append] at hsl; exact Nat.le_of_lt (small4 (by omega)), ?_⟩
  rw [bS_app]
  rw [show List.take i T ++ [!b] ++ List.drop (i + 1) T = turnAt T i b from rfl]
  generalize turnAt T i b = S at *
  have hSl := rdT_len wd S
  have hTl := rdT_len wd T
  refine ⟨_, rfl, _, rfl, S, wd, none, rfl, by omega, by omega, fun H3 t l1 l2 s3 nt nl1 nl2 l12 ht hl1 hl2 => ?_⟩
  rw [(cnt_none wd S).1] at hl1
  rw [(cnt_none wd S).2] at hl2
  refine ⟨t, _, rfl, .inl (.inl ht), rfl, _, _, rfl, _, _, rfl, rfl, ?_⟩
  refine ⟨_, rfl, _, rfl, T, wd, none, rfl, by omega, by omega, fun H4 t' m1 m2 s4 nt' nm1 nm2 m12 ht' hm1 hm2 => ?_⟩
  rw [(cnt_none wd T).2] at hm2
  refine ⟨t', _, 1, _, rfl, rfl, .inl (.inl ht'), rfl, ?_⟩
  refine ⟨m2, nI (endsN wd T), rfl, .inl (.inl hm2), by rw [List.length_map, endsN_len]; omega, fun st c nst hc => ?_⟩
  obtain ⟨H5, e5, s5, hst⟩ := fresh (SetO w st (fun j => decide (j ∈ nI (endsN wd T))) c) nst
  rw [e5]
  have hl25 : SqL K H5 l2 ((nI (endsN wd S)).map V.int) := .inl (.inl (s5 _ _ (s4 _ _ hl2)))
  refine ⟨_, rfl, l2, rfl, ⟨_, hl25⟩, fun D nD => ?_⟩
  refine lc_selL (K := K) (xs := (nI (endsN wd S)).map V.int) ((endsN wd S).map fun e => if i < e ∧ e ∈ endsN wd T then some (V.int (e : Int)) else none) nD hl25 (by rw [nI_len, List.length_map]) (by rw [nI_len, endsN_len]; exact small4 (by omega)) (fun x => rfl) ?_ ?_
  · intro k x o H' hx ho s Qt qt
    obtain ⟨n, hn, rfl⟩ := nI_at hx
    rw [List.getElem?_map, hn] at ho
    cases ho
    refine ⟨_, rfl, _, rfl, _, _, rfl, rfl, _, rfl, ?_⟩
    by_cases h1 : i < n
    · refine iteDT (by omega) ⟨_, rfl, _, rfl, n, st, _, c, rfl, rfl, s _ _ hst, _, rfl, ?_⟩
      by_cases h2 : n ∈ endsN wd T
      · refine iteDT (nI_mem.mpr h2) ?_
        have := qt _ (Same.refl _)
        dsimp only at this
        rw [if_pos ⟨h1, h2⟩] at this
        exact ⟨_, rfl, this⟩
      · refine iteDF (fun z => h2 (nI_mem.mp z)) ?_
        have := qt _ (Same.refl _)
        dsimp only at this
        rw [if_neg (fun z => h2 z.2)] at this
        exact this
    · refine iteDF (by omega) (iteF ?_)
      have := qt _ (Same.refl _)
      dsimp only at this
      rw [if_neg (fun z => h1 z.1)] at this
      exact this
  · intro H6 s6 hD
    rw [bothN_sel] at hD
    generalize bothN wd T S i = U at *
    obtain ⟨r, er⟩ := ends_last wd S
    refine ⟨_, rfl, _, rfl, (show 1 ≤ sizeLine by decide), fun p1 np1 => ?_⟩
    obtain ⟨H7, e7, s7, hp7⟩ := fresh (.lst [V.int 0]) np1
    rw [e7]
    have s37 := s4.trans (s5.trans (s6.trans s7))
    refine ⟨_, rfl, p1, l2, _, _, rfl, rfl, hp7, s37 _ _ hl2, by rw [nI_len, endsN_len]; exact Nat.le_of_lt (small4 (by simp; omega)), fun p2 np2 => ?_⟩
    obtain ⟨H8, e8, s8, hp8⟩ := fresh (.lst ([V.int 0] ++ (nI (endsN wd S)).map V.int)) np2
    rw [e8]
    refine ⟨_, rfl, p2, _, _, .int ((plc wd S (rdT wd S).length : Nat) : Int), rfl, rfl, .inl (.inl hp8), lastI (l := 0 :: endsN wd S) er, _, rfl, _, rfl, by rw [bS_len]; exact Nat.le_of_lt (small4 (by omega)), ?_⟩
    rw [cut_bSd]
    have s38 := s37.trans s8
    have hD8 := s8 _ _ (s7 _ _ hD)
    refine ⟨_, rfl, Nat.zero_le _, fun p3 np3 => ?_⟩
    obtain ⟨H9, e9, s9, hp9⟩ := fresh (.lst ([] : List V)) np3
    rw [e9]
    have s03 := s1.trans (s2.trans s3)
    have n0l : H l1 = none := (s1.trans s2).free nl1
    refine neD_lst (ns := nI U) (ms := []) (.inl (.inl (s9 _ _ hD8))) (.inl (.inl hp9)) ⟨_, rfl, ?_⟩
    have fin : ∀ x, x = optN U.head? → ∀ p, H9 p = none → Q (.ref p) (upd H9 p (.tup [.ref l1, .str (bS (S.drop (plc wd S (rdT wd S).length))), x])) := fun x ex p np => by
      refine q _ p l1 (s03.trans (s38.trans (s9.trans (same_upd np)))) (s03.free (s38.free (s9.free np))) n0l ?_ ?_
      · rw [upd_same, ex]
      · exact same_upd np _ _ (s9 _ _ (s38 _ _ hl1))
    rcases U with _ | ⟨u, U⟩
    · refine iteNF rfl ?_
      exact ⟨(show 3 ≤ sizeLine by decide), fun p np => fin _ rfl p np⟩
    · refine iteNT (by simp) ?_
      exact ⟨_, rfl, D, _, 0, .int (u : Int), rfl, rfl, .inl (.inl (s9 _ _ hD8)), atI_nat (j := 0) rfl, (show 3 ≤ sizeLine by decide), fun p np => fin _ rfl p np⟩
end
end My

namespace My
open PySem PySem.Spec PyProof.Rows L2 Pre
theorem txF_app (w : Nat) (a b : List Nat) : txF w (a ++ b) = txF w a ++ txF w b := List.flatMap_append
theorem txF_take {w : Nat} {fs : List Nat} {i f : Nat} (h : fs[i]? = some f) : txF w (fs.take (i + 1)) = txF w (fs.take i) ++ tx1 w f := by
  rw [List.take_add_one, h, txF_app]
  simp [txF]
theorem txF_le (w : Nat) (fs : List Nat) (i : Nat) : (txF w (fs.take i)).length ≤ (txF w fs).length := by
  have h := congrArg List.length (txF_app w (fs.take i) (fs.drop i))
  rw [List.take_append_drop, List.length_append] at h
  omega
theorem shl1 (k : Nat) : (1 : Int) * 2 ^ ((k : Int)).toNat = ((2 ^ k : Nat) : Int) := by
  rw [Int.one_mul, Int.toNat_natCast, Int.natCast_pow]
  rfl
theorem bB_take {n k i : Nat} (h : i < k) : (bB n k).take (i + 1) = (bB n k).take i ++ [n / 2 ^ (k - 1 - i) % 2 == 1] := by
  rw [List.take_add_one, bB_get n k i h]
  rfl
theorem pow2_small {k : Nat} (h : k ≤ 1000) : 2 ^ k < 2 ^ 2900 := Nat.pow_lt_pow_right (by decide) (by omega)
local macro_rules | `(tactic| walk_at "go") => `(tactic| repeat (first | (with_reducible first | refine iteT ?_ | refine iteF ?_ | refine iteNtt ?_ | refine iteNff ?_ | refine iteET (by omega) ?_ | refine iteEF (by omega) ?_ | refine iteENT (by omega) ?_ | refine iteENF (by omega) ?_ | refine iteDT (by omega) ?_ | refine iteDF (by omega) ?_ | refine iteNT (by omega) ?_ | refine iteNF (by omega) ?_) | refine ⟨_, rfl, ?_⟩ | refine ⟨_, _, rfl, rfl, ?_⟩ | refine ⟨_, _, rfl, ?_⟩ | refine ⟨rfl, ?_⟩ | refine .inl ⟨_, rfl, ?_⟩ | refine .inr ⟨_, rfl, ?_⟩))
local macro_rules | `(tactic| walk_at "b") => `(tactic| try dsimp (config := { proj := false, iota := false, eta := false, zeta := false }) only)
section
variable {P : Program} {w : World} {K : PySem.W.Frag} {mg : Str → Option Value} {base : Heap}
def sp_law_text (K : PySem.W.Frag) : Sp := fun vs H Q _ => ∃ (a : Addr) (fs : List Nat) (wd : Nat), vs = [.ref a, .int wd] ∧ SqL K H a ((nI fs).map V.int) ∧ Few wd fs ∧ Q (.str (bS (txF wd fs))) H
theorem G_law_text (T : Top K mg) : FnOk P w K mg base CX0 1 T.f_law_text T.fd_law_text ["_law_folds", "_law_width"] (sp_law_text K) := by
  refine T.F_law_text.ok sc_law_text (fun vs H Q E h => by obtain ⟨a, fs, wd, rfl, _⟩ := h; rfl) (fun cdv A outer s H vs Q E hr h => ?_)
  obtain ⟨a, fs, wd, rfl, hS, ⟨hw, hf, hl, hz⟩, q⟩ := h
  refine ⟨_, PSs.nox (pss_cons (ps_set (i := 2) sc_law_text.nd rfl (by first | exact Or.inl rfl | exact Or.inr rfl) pe_str)
  (pss_cons (ps_for PassesOwn.never rfl (k_piL K rfl (pv 0)) (pg_name (i := 3) sc_law_text.nd rfl (by first | exact Or.inl rfl | exact Or.inr rfl))
    (pss_cons (ps_set (i := 2) sc_law_text.nd rfl (by first | exact Or.inl rfl | exact Or.inr rfl) (pe_op op_add_str (pe_op op_add_str (pv 2) (pe_op op_rep_str pe_str (pe_op op_fdivW (pv 3) (pe_op op_shl pe_int (pv 1))))) pe_str))
  (pss_one (ps_for PassesOwn.never rfl (pi_range3 (by rfl) T.n_range (pa_cons (pe_op op_sub (pv 1) pe_int) (pa_cons (pe_un un_neg pe_int) (pa_cons (pe_un un_neg pe_int) pa_nil)))) (pg_name (i := 4) sc_law_text.nd rfl (by first | exact Or.inl rfl | exact Or.inr rfl))
    (pss_one (ps_set (i := 2) sc_law_text.nd rfl (by first | exact Or.inl rfl | exact Or.inr rfl) (pe_op op_add_str (pv 2) (pe_ix ix_str pe_str (pe_op op_mod (pe_op op_fdivW (pv 3) (pe_op op_shl pe_int (pv 4))) pe_int) (fun _ _ => rfl)))))))))
  (pss_one (ps_ret (pv 2))))), ?_⟩
  refine ⟨_, rfl, a, rfl, ⟨_, hS⟩, for_list (K := K) (a := a) (xs := (nI fs).map V.int) (fun i σ H1 => ∃ v3 v4, σ = [some (.ref a), some (.int wd), some (.str (bS (txF wd (fs.take i)))), v3, v4] ∧ H1 = H)
    ⟨none, none, by rw [str_nil]; rfl, rfl⟩ (fun i σ H1 _ ⟨_, _, _, e⟩ => by rw [e]; exact hS) ?_ ?_⟩
  · rintro i x σ H1 hx ⟨v3, v4, rfl, rfl⟩
    obtain ⟨f, hf1, rfl⟩ := nI_at hx
    have hfs := hf f (List.mem_of_getElem? hf1)
    have ht := txF_take (w := wd) hf1
    have hle := txF_le wd fs (i + 1)
    rw [ht, List.length_append, tx1_len] at hle
    have h2 := pow2_small hw
    refine ⟨_, rfl, _, rfl, _, rfl, _, _, rfl, rfl, ⟨by omega, by omega, by decide⟩, ?_⟩
    dsimp only
    rw [shl1]
    have hp2 : 0 < 2 ^ wd := Nat.two_pow_pos wd
    refine ⟨_, _, rfl, rfl, wide_div (by omega) (by rw [Int.natAbs_natCast]; exact h2) (by decide) (by decide), ?_⟩
    dsimp only
    rw [← Int.natCast_ediv]
    refine ⟨_, f / 2 ^ wd, rfl, rfl, by rw [str_one, bS_len]; decide, by omega, ?_⟩
    rw [bS_mul1]
    refine ⟨_, _, rfl, rfl, by rw [bS_len, bS_len, List.length_replicate]; exact Nat.le_of_lt (small4 (by omega)), ?_⟩
    rw [bS_app]
    refine ⟨_, _, rfl, rfl, by rw [str_zero, bS_len, bS_len, List.length_append, List.length_replicate]; exact Nat.le_of_lt (small4 (by simp; omega)), ?_⟩
    rw [str_zero, bS_app]
    generalize eX : txF wd (fs.take i) ++ List.replicate (f / 2 ^ wd) true ++ [false] = X
    have hX : X.length + wd ≤ 100000 := by
      rw [← eX, List.length_append, List.length_append, List.length_replicate, List.length_singleton]
      omega
    refine ⟨_, rfl, _, _, rfl, rfl, _, rfl, _, rfl, _, _, _, _, rfl, RgC.neg (by omega) (by omega) (by omega) (by omega), ?_⟩
    rw [show ((wd : Int) - 1 - -1).toNat = wd by omega]
    refine for_rangeC (lo := (wd : Int) - 1) (c := -1) (n := wd) (fun k σ H1' => ∃ v4, σ = [some (.ref a), some (.int wd), some (.str (bS (X ++ (bB f wd).take k))), some (.int f), v4] ∧ H1' = H1) ⟨v4, by rw [List.take_zero, List.append_nil]; rfl, rfl⟩ ?_ ?_
    · rintro k σ H2 hk ⟨v4, rfl, rfl⟩
      rw [show (wd : Int) - 1 + (k : Nat) * (-1) = ((wd - 1 - k : Nat) : Int) by omega]
      refine ⟨_, rfl, _, rfl, _, rfl, _, _, rfl, rfl, ⟨by omega, by omega, by decide⟩, ?_⟩
      dsimp only
      rw [shl1]
      have hp3 : 0 < 2 ^ (wd - 1 - k) := Nat.two_pow_pos _
      refine ⟨_, _, rfl, rfl, wide_div (by omega) (by rw [Int.natAbs_natCast]; exact pow2_small (k := wd - 1 - k) (by omega)) (by decide) (by decide), ?_⟩
      refine ⟨_, _, rfl, rfl, (by show (0 : Int) < 2; decide), ?_⟩
      dsimp only
      rw [← Int.natCast_ediv, show ((f / 2 ^ (wd - 1 - k) : Nat) : Int) % 2 = ((f / 2 ^ (wd - 1 - k) % 2 : Nat) : Int) by omega, bit_nat, str_01]
      refine ⟨_, _, sgn (f / 2 ^ (wd - 1 - k) % 2 == 1), rfl, rfl, by rw [bS_len]; decide, bS_atI (by cases f / 2 ^ (wd - 1 - k) % 2 == 1 <;> rfl), ?_⟩
      rw [bS_one]
      refine ⟨_, _, rfl, rfl, by rw [bS_len, bS_len, List.length_append, List.length_take]; exact Nat.le_of_lt (small4 (by simp; omega)), ?_⟩
      rw [bS_app, List.append_assoc, ← bB_take hk]
      exact ⟨_, rfl, rfl⟩
    · rintro σ H2 ⟨v4, rfl, rfl⟩
      refine ⟨some (.int f), v4, ?_, rfl⟩
      rw [ht, List.take_of_length_le (by rw [bB_len]; exact Nat.le_refl _), ← eX]
      unfold tx1
      simp only [List.append_assoc, List.cons_append, List.nil_append]
  · rintro σ H1 ⟨v3, v4, rfl, rfl⟩
    rw [nI_len, List.take_length]
    exact ⟨_, rfl, q⟩
theorem slice_one {bs : List Bool} {p s : Nat} : decide (V.str (bS ((bs.drop (p + s)).take (p + s + 1 - (p + s)))) = V.str (("1" : String) : Str)) = decide ((bs.drop p)[s]? = some true) := by
  rw [str_one, dec_bS, show p + s + 1 - (p + s) = 1 by omega, List.getElem?_drop]
  cases h : bs.drop (p + s) with
  | nil =>
    have : bs[p + s]? = none := List.getElem?_eq_none (by have := congrArg List.length h; rw [List.length_drop] at this; simp at this; omega)
    rw [this]
    rfl
  | cons b r =>
    have : bs[p + s]? = some b := by
      have h2 := congrArg (·[0]?) h
      simp only [List.getElem?_drop, Nat.add_zero] at h2
      exact h2
    rw [this]
    cases b <;> simp
theorem vF_take2 {bs : List Bool} {a i : Nat} {b : Bool} (h : bs[i]? = some b) : vF a (bs.take (i + 1)) = 2 * vF a (bs.take i) + b.toNat := by
  rw [List.take_add_one, h, vF_app]
  rfl
def sp_law_read : Sp := fun vs H Q _ => ∃ (bs : List Bool) (wd : Nat), vs = [.str (bS bs), .int wd] ∧ bs.length ≤ 10000 ∧ wd ≤ 1000 ∧
  ∀ H' t a b, Same H H' → H t = none → H a = none → H b = none → a ≠ b → H' t = some (.tup [.ref a, .ref b]) → H' a = some (.lst ((nI ((rdT wd bs).map (·.1))).map V.int)) → H' b = some (.lst ((nI (endsN wd bs)).map V.int)) → Q (.ref t) H'
theorem G_law_read (T : Top K mg) : FnOk P w K mg base CX0 1 T.f_law_read T.fd_law_read ["_law_bits_here", "_law_width"] sp_law_read := by
  refine T.F_law_read.ok sc_law_read (fun vs H Q E h => by obtain ⟨bs, wd, rfl, _⟩ := h; rfl) (fun cdv A outer s H vs Q E hr h => ?_)
  obtain ⟨bs, wd, rfl, hz, hw, q⟩ := h
  refine ⟨_, PSs.nox (pss_cons (ps_par3 (by rfl) sc_law_read.nd (i := 2) (j := 3) (l := 4) rfl rfl rfl (by decide) (by decide) (by decide) rfl rfl rfl (pa_cons (pe_lst pa_nil) (pa_cons (pe_lst pa_nil) (pa_cons pe_int pa_nil))) (by rfl))
  (pss_one (ps_while PassesOwn.never (pt_val pe_bl)
    (pss_cons (ps_set (i := 5) sc_law_read.nd rfl (by first | exact Or.inl rfl | exact Or.inr rfl) pe_int)
  (pss_cons (ps_while PassesOwn.never (pt_cmpR op_eq (pe_slice sl_str (pv 0) (po_some (pe_op op_add (pv 4) (pv 5))) (po_some (pe_op op_add (pe_op op_add (pv 4) (pv 5)) pe_int))) pe_str (nomark _))
    (pss_one (ps_set (i := 5) sc_law_read.nd rfl (by first | exact Or.inl rfl | exact Or.inr rfl) (pe_op op_add (pv 5) pe_int))))
  (pss_cons (ps_set (i := 6) sc_law_read.nd rfl (by first | exact Or.inl rfl | exact Or.inr rfl) (pe_op op_add (pe_op op_add (pe_op op_add (pv 4) (pv 5)) pe_int) (pv 1)))
  (pss_cons (ps_if (pt_cmpR op_gt (pv 6) (pe_callB call_len_str (by rfl) T.n_len (by decide +kernel) (pa_cons (pv 0) pa_nil)) (nomark _))
    (pss_one (ps_ret (pe_tup (pa_cons (pv 2) (pa_cons (pv 3) pa_nil)))))
    pss_nil)
  (pss_cons (ps_set (i := 7) sc_law_read.nd rfl (by first | exact Or.inl rfl | exact Or.inr rfl) (pv 5))
  (pss_cons (ps_for PassesOwn.never rfl (pi_str (pe_slice sl_str (pv 0) (po_some (pe_op op_add (pe_op op_add (pv 4) (pv 5)) pe_int)) (po_some (pv 6)))) (pg_name (i := 8) sc_law_read.nd rfl (by first | exact Or.inl rfl | exact Or.inr rfl))
    (pss_one (ps_set (i := 7) sc_law_read.nd rfl (by first | exact Or.inl rfl | exact Or.inr rfl) (pe_op op_add (pe_op op_mul pe_int (pv 7)) (pe_callTy call_int1 (by rfl) T.n_int (by decide +kernel) (pa_cons (pe_cmpR op_eq (pv 8) pe_str (nomark _)) pa_nil))))))
  (pss_cons (ps_expr (pe_bm PySem.F.plainAttrs_list PySem.F.slot_list_append PySem.F.type_list_append mt_append (pv 2) (pa_cons (pv 7) pa_nil)))
  (pss_cons (ps_expr (pe_bm PySem.F.plainAttrs_list PySem.F.slot_list_append PySem.F.type_list_append mt_append (pv 3) (pa_cons (pv 6) pa_nil)))
  (pss_one (ps_set (i := 4) sc_law_read.nd rfl (by first | exact Or.inl rfl | exact Or.inr rfl) (pv 6)))))))))))))), ?_⟩
  refine ⟨Nat.zero_le _, fun a na => ?_⟩
  obtain ⟨H1, e1, s1, ha1⟩ := fresh (.lst ([] : List V)) na
  rw [e1]
  refine ⟨Nat.zero_le _, fun b nb => ?_⟩
  obtain ⟨H2, e2, s2, hb2⟩ := fresh (.lst ([] : List V)) nb
  rw [e2]
  have ab : a ≠ b := ne_of_none ha1 nb
  have nb0 : H b = none := s1.free nb
  have hle := rdT_len wd bs
  refine ⟨_, _, _, rfl, ?_⟩
  refine ⟨fun mm σ H3 => ∃ (j : Nat) (v5 v6 v7 v8 : Option V), mm + j = (rdT wd bs).length ∧ σ = [some (.str (bS bs)), some (.int wd), some (.ref a), some (.ref b), some (.int (plc wd bs j)), v5, v6, v7, v8] ∧ Same H H3 ∧
      H3 a = some (.lst ((nI (fN wd bs j)).map V.int)) ∧ H3 b = some (.lst ((nI (eN wd bs j)).map V.int)),
    ⟨(rdT wd bs).length, 0, none, none, none, none, by omega, rfl, s1.trans s2, s2 _ _ ha1, hb2⟩, ?_⟩
  rintro mm σ H3 ⟨j, v5, v6, v7, v8, hm, rfl, s3, ha3, hb3⟩
  have hst := plc_step (w := wd) (bs := bs) (show j ≤ (rdT wd bs).length by omega)
  have hlen : (fN wd bs j).length = j := fN_len (by omega)
  refine ⟨_, rfl, iteT ⟨fun σ' H' => j + 1 ≤ (rdT wd bs).length ∧ ∃ v5 v6 v7 v8, σ' = [some (.str (bS bs)), some (.int wd), some (.ref a), some (.ref b), some (.int (plc wd bs (j + 1))), v5, v6, v7, v8] ∧ Same H H' ∧ H' a = some (.lst ((nI (fN wd bs (j + 1))).map V.int)) ∧ H' b = some (.lst ((nI (eN wd bs (j + 1))).map V.int)),
    fun σ' H' ⟨hj, u5, u6, u7, u8, h⟩ => ⟨mm - 1, by omega, j + 1, u5, u6, u7, u8, by omega, h⟩, ?_⟩⟩
  generalize ep : plc wd bs j = p at *
  -- strokes
  refine ⟨fun m2 σ H4 => ∃ s : Nat, m2 + s = ones (bs.drop p) ∧ σ = [some (.str (bS bs)), some (.int wd), some (.ref a), some (.ref b), some (.int p), some (.int s), v6, v7, v8] ∧ H4 = H3, ⟨ones (bs.drop p), 0, rfl, rfl, rfl⟩, ?_⟩
  rintro m2 σ H4 ⟨s, hs, rfl, rfl⟩
  refine ⟨_, rfl, _, rfl, _, rfl, _, _, rfl, rfl, _, rfl, _, rfl, _, rfl, _, _, rfl, rfl, _, _, rfl, rfl, _, rfl, _, rfl, by rw [bS_len]; exact Nat.le_of_lt (small4 (by omega)), rfl, _, rfl, ?_⟩
  rw [show ((p : Int) + (s : Int)) = ((p + s : Nat) : Int) by omega, show (((p + s : Nat) : Int) + 1) = ((p + s + 1 : Nat) : Int) by omega, cut_bS, slice_one]
  by_cases h0 : s < ones (bs.drop p)
  · refine iteDT (ones_at _ _ h0) ?_
    exact ⟨fun σ' H' => σ' = [some (.str (bS bs)), some (.int wd), some (.ref a), some (.ref b), some (.int p), some (.int ((s : Int) + 1)), v6, v7, v8] ∧ H' = H4, fun σ' H' ⟨h1, h2⟩ => ⟨m2 - 1, by omega, s + 1, by omega, h1, h2⟩, _, rfl, _, _, rfl, rfl, rfl, rfl⟩
  · have es : s = ones (bs.drop p) := by omega
    refine iteDF (by rw [es]; exact ones_stop _) ?_
    refine ⟨_, rfl, _, rfl, _, _, rfl, rfl, _, _, rfl, rfl, _, rfl, _, _, rfl, rfl, ?_⟩
    refine ⟨_, rfl, _, rfl, _, rfl, by rw [bS_len]; exact Nat.le_of_lt (small4 (by omega)), _, _, rfl, rfl, _, rfl, ?_⟩
    rw [bS_len]
    have hfr : foldR wd (bs.drop p) = if ones (bs.drop p) + 1 + wd ≤ bs.length - p then some (vF (ones (bs.drop p)) (((bs.drop p).drop (ones (bs.drop p) + 1)).take wd), ones (bs.drop p) + 1 + wd) else none := by
      unfold foldR
      rw [List.length_drop]
    rw [← es] at hfr
    by_cases hb : p + s + 1 + wd ≤ bs.length
    · refine iteDF (by omega) ?_
      rw [if_pos (by omega)] at hfr
      have hx : (rdT wd bs)[j]? = some (vF s (((bs.drop p).drop (s + 1)).take wd), p + (s + 1 + wd)) := by
        have h2 := hst.2
        rw [hfr] at h2
        exact h2.symm
      have hj := (List.getElem?_eq_some_iff.mp hx).1
      generalize eG : ((bs.drop p).drop (s + 1)).take wd = G at *
      have eb : ((p : Int) + (s : Int) + 1 + (wd : Int)) = ((p + s + 1 + wd : Nat) : Int) := by omega
      have ec : cutS (bS bs) (some ((p : Int) + (s : Int) + 1)) (some ((p : Int) + (s : Int) + 1 + (wd : Int))) = bS G := by
        rw [eb, show ((p : Int) + (s : Int) + 1) = ((p + s + 1 : Nat) : Int) by omega, cut_bS, ← eG, List.drop_drop, show p + (s + 1) = p + s + 1 by omega, show p + s + 1 + wd - (p + s + 1) = wd by omega]
      refine ⟨_, rfl, _, rfl, _, rfl, _, rfl, _, _, rfl, rfl, _, _, rfl, rfl, _, rfl, _, rfl, _, rfl, _, rfl, by rw [bS_len]; exact Nat.le_of_lt (small4 (by omega)), ?_⟩
      rw [ec]
      refine ⟨_, rfl, ?_⟩
      refine for_it walk_str (fun i σ H1 => ∃ v8, σ = [some (.str (bS bs)), some (.int wd), some (.ref a), some (.ref b), some (.int p), some (.int s), some (.int ((p : Int) + (s : Int) + 1 + (wd : Int))), some (.int (vF s (G.take i))), v8] ∧ H1 = H4) ⟨_, rfl, rfl⟩ (fun _ _ _ _ _ => trivial) ?_ ?_
      · rintro i x σ H1 H2 hi ⟨v8, rfl, rfl⟩ ⟨rfl, c, hc, rfl⟩
        obtain ⟨bb, hbb, eb2⟩ := bS_at hc
        rw [eb2]
        refine ⟨_, rfl, _, _, rfl, rfl, .inl ⟨by decide, by decide⟩, _, rfl, rfl, .inr ⟨_, rfl, _, _, rfl, rfl, ?_⟩⟩
        dsimp only
        rw [one_sign, bool_nat]
        have e2 : (2 : Int) * ((vF s (G.take i) : Nat) : Int) + ((bb.toNat : Nat) : Int) = ((vF s (G.take (i + 1)) : Nat) : Int) := by rw [vF_take2 hbb]; omega
        rw [e2]
        exact ⟨_, rfl, rfl⟩
      · rintro σ H1 ⟨v8, rfl, rfl⟩
        rw [bS_size, List.take_length]
        refine ⟨_, rfl, .inl ⟨rfl, _, .inl (.inl ha3)⟩, _, rfl, a, _, _, rfl, rfl, ha3, by rw [nI_len, hlen]; exact small4 (by omega), ?_⟩
        obtain ⟨H6, e6⟩ : ∃ H6, upd H1 a (.lst ((nI (fN wd bs j)).map V.int ++ [.int (vF s G)])) = H6 := ⟨_, rfl⟩
        rw [e6]
        have ha6 : H6 a = some (.lst ((nI (fN wd bs (j + 1))).map V.int)) := by rw [← e6, upd_same, fN_next hx, nI_app, List.map_append]; rfl
        have hb6 : H6 b = some (.lst ((nI (eN wd bs j)).map V.int)) := by rw [← e6, upd_ne ab.symm]; exact hb3
        have s6 : Same H H6 := by rw [← e6]; exact same_over na s3
        refine ⟨_, rfl, .inl ⟨rfl, _, .inl (.inl hb6)⟩, _, rfl, b, _, _, rfl, rfl, hb6, by rw [nI_len, eN_len (by omega)]; exact small4 (by omega), ?_⟩
        refine ⟨_, rfl, hj, some (.int s), some (.int ((p : Int) + (s : Int) + 1 + (wd : Int))), some (.int (vF s G)), v8, ?_, same_over nb0 s6, ?_, ?_⟩
        · have e3 : ((p : Int) + (s : Int) + 1 + (wd : Int)) = ((plc wd bs (j + 1) : Nat) : Int) := by rw [plc_next hx]; omega
          rw [← e3]
          rfl
        · rw [upd_ne ab]; exact ha6
        · rw [upd_same, eN_next hx, nI_app, List.map_append, eb]
          have : p + s + 1 + wd = p + (s + 1 + wd) := by omega
          rw [this]
          rfl
    · refine iteDT (by omega) ?_
      rw [if_neg (by omega)] at hfr
      rw [hfr] at hst
      have ej : j = (rdT wd bs).length := by
        have h2 := hst.2.symm
        rw [Option.map_none] at h2
        have := List.getElem?_eq_none_iff.mp h2
        omega
      refine ⟨_, rfl, _, rfl, (show 2 ≤ sizeLine by decide), fun t nt => ?_⟩
      refine q _ t a b (s3.trans (same_upd nt)) (s3.free nt) na nb0 ab upd_same (same_upd nt _ _ ?_) (same_upd nt _ _ ?_)
      · rw [ha3, ej]
        unfold fN
        rw [List.take_length]
      · rw [hb3, ej]
        unfold eN endsN
        rw [List.take_length]
def sp_law_whole : Sp := fun vs H Q _ => ∃ (bs : List Bool) (wd : Nat), vs = [.str (bS bs), .int wd] ∧ bs.length ≤ 10000 ∧ wd ≤ 1000 ∧ ∀ H', Same H H' → Q (.bl (whole wd bs)) H'
theorem G_law_whole (T : Top K mg) : FnOk P w K mg base CX0 2 T.f_law_whole T.fd_law_whole ["_law_bits_here", "_law_width"] sp_law_whole := by
  refine T.F_law_whole.ok sc_law_whole (fun vs H Q E h => by obtain ⟨bs, wd, rfl, _⟩ := h; rfl) (fun cdv A outer s H vs Q E hr h => ?_)
  obtain ⟨bs, wd, rfl, hz, hw, q⟩ := h
  refine ⟨_, PSs.nox (pss_one (ps_ret (pe_cmpR op_eq (pe_ix (k_ixL K rfl) (pe_op op_cat (pe_lst (pa_cons pe_int pa_nil)) (pe_ix (k_ixT K rfl) (pe_call (G_law_read T) (hr.mono (by decide)) (by rfl) T.g_law_read T.F_law_read.kp T.b_law_read .nil pass0 (pa_cons (pv 0) (pa_cons (pv 1) pa_nil))) pe_int (fun _ _ => rfl))) (pe_un un_neg pe_int) (fun _ _ => rfl)) (pe_callB call_len_str (by rfl) T.n_len (by decide +kernel) (pa_cons (pv 0) pa_nil)) (nomark _)))), ?_⟩
  refine ⟨(show 1 ≤ sizeLine by decide), fun p1 np1 => ?_⟩
  obtain ⟨H1, e1, s1, hp1⟩ := fresh (.lst [V.int 0]) np1
  rw [e1]
  refine ⟨_, rfl, _, rfl, bs, wd, rfl, hz, hw, fun H2 t a b s2 nt na nb ab ht ha hb => ?_⟩
  have hl := rdT_len wd bs
  refine ⟨t, _, 1, _, rfl, rfl, .inl (.inl ht), rfl, ?_⟩
  refine ⟨p1, b, _, _, rfl, rfl, s2 _ _ hp1, hb, by rw [nI_len, endsN_len]; exact Nat.le_of_lt (small4 (by simp; omega)), fun p2 np2 => ?_⟩
  obtain ⟨H3, e3, s3, hp3⟩ := fresh (.lst ([V.int 0] ++ (nI (endsN wd bs)).map V.int)) np2
  rw [e3]
  obtain ⟨r, er⟩ := ends_last wd bs
  refine ⟨_, rfl, p2, _, _, .int ((plc wd bs (rdT wd bs).length : Nat) : Int), rfl, rfl, .inl (.inl hp3), lastI (l := 0 :: endsN wd bs) er, _, rfl, _, rfl, by rw [bS_len]; exact Nat.le_of_lt (small4 (by omega)), rfl, ?_⟩
  have e : decide (V.int ((plc wd bs (rdT wd bs).length : Nat) : Int) = V.int ((bS bs).length : Nat)) = whole wd bs := by
    rw [bS_len]
    unfold whole
    by_cases h : plc wd bs (rdT wd bs).length = bs.length
    · rw [h]; simp
    · rw [decide_eq_false (fun z => h (by have := V.int.inj z; omega))]
      simp [h]
  rw [e]
  exact q _ (s1.trans (s2.trans s3))
end
end My

namespace My
open PySem PySem.Spec PyProof.Rows L2 Pre
/-- a comprehension over a range that draws values -/
theorem lc_drawV {lo : Int} {n : Nat} {j : Nat} {te : TE} {vs : List Nat} {σ : L2.St} {H1 : Hp} {D : Addr} {Qd : Hp → Prop} (g : Addr) (m step : Nat) (P : V → Prop) (nD : H1 D = none) (hG : GenAt H1 g m) (hz : n < sizeLine)
    (hw : ∀ x, wipe ((wipe σ vs).set j (some x)) vs = wipe σ vs)
    (hs : ∀ (i : Nat) (H' : Hp), i < n → But g H1 H' → GenAt H' g (m + step * i) → ∀ Qt : V → Hp → Prop, (∀ (y : V) H'', P y → But g H' H'' → GenAt H'' g (m + step * (i + 1)) → Qt y H'') → te ((wipe σ vs).set j (some (.int (lo + (i : Int))))) H' Qt)
    (hd : ∀ H' (ys : List V), But g H1 H' → GenAt H' g (m + step * n) → H' D = some (.lst ys) → ys.length = n → (∀ y ∈ ys, P y) → Qd H') :
    ∃ W : Nat → Nat → Hp → Prop, (∃ m, W 0 m (upd H1 D (.lst []))) ∧ ∀ i m H, W i m H →
      ((Itr lo n).stop i H ∧ Qd H) ∨ ((Itr lo n).go i H ∧ ∃ Nx : Hp → Prop, (∀ H', Nx H' → ∃ m', m' < m ∧ W (i + 1) m' H') ∧ ∀ x H', (Itr lo n).yld i H x H' → gName j x (wipe σ vs) H' fun σ2 H2 => wipe σ2 vs = wipe σ vs ∧ tYes σ2 H2 fun b H3 =>
        if b = true then te σ2 H3 fun y H4 => ∃ acc, H4 D = some (.lst acc) ∧ acc.length < sizeLine ∧ Nx (upd H4 D (.lst (acc ++ [y]))) else Nx H3) := by
  have nDg : D ≠ g := hG.ne nD
  refine lc_range (lo := lo) (n := n) (fun i H => ∃ ys : List V, But g H1 H ∧ GenAt H g (m + step * i) ∧ H D = some (.lst ys) ∧ ys.length = i ∧ ∀ y ∈ ys, P y)
    ⟨[], But.of (same_upd nD), hG.same (same_upd nD), upd_same, rfl, (fun _ h => nomatch h)⟩ ?_ ?_
  · rintro i H hi ⟨ys, b, hg, hD, hl, hP⟩
    refine ⟨hw _, ?_⟩
    unfold tYes
    dsimp only
    rw [if_pos (show true = true from rfl)]
    refine hs i H hi b hg _ fun y H2 py b2 hg2 => ?_
    refine ⟨_, b2 _ _ nDg hD, by omega, ys ++ [y], ?_, ?_, ?_, ?_, ?_⟩
    · intro c o nc hc
      rw [upd_ne (ne_of_none hc nD)]
      exact b2 _ _ nc (b _ _ nc hc)
    · obtain ⟨x1, x2, x3, e1, e2⟩ := hg2
      exact ⟨x1, x2, x3, by rw [upd_ne nDg.symm]; exact e1, e2⟩
    · rw [upd_same]
    · rw [List.length_append, hl]
      rfl
    · intro z hz
      rcases List.mem_append.mp hz with hz | hz
      · exact hP z hz
      · rw [List.mem_singleton.mp hz]
        exact py
  · rintro H ⟨ys, b, hg, hD, hl, hP⟩
    exact hd H ys b hg hD hl hP
theorem texts_of {α : Type} {f : α → Str} : ∀ {ys : List V}, (∀ y ∈ ys, ∃ b : α, y = .str (f b)) → ∃ bs : List α, ys = bs.map fun b => .str (f b)
  | [], _ => ⟨[], rfl⟩
  | y :: ys, h => by
    obtain ⟨b, rfl⟩ := h y List.mem_cons_self
    obtain ⟨bs, rfl⟩ := texts_of (ys := ys) fun z hz => h z (List.mem_cons_of_mem _ hz)
    exact ⟨b :: bs, rfl⟩
theorem strs_of : ∀ {ys : List Str}, (∀ y ∈ ys, ∃ b : List Bool, y = bS b) → ∃ bs : List (List Bool), ys = bs.map bS
  | [], _ => ⟨[], rfl⟩
  | y :: ys, h => by
    obtain ⟨b, rfl⟩ := h y List.mem_cons_self
    obtain ⟨bs, rfl⟩ := strs_of (ys := ys) fun z hz => h z (List.mem_cons_of_mem _ hz)
    exact ⟨b :: bs, rfl⟩
/-- all texts of a size, as they are made -/
def txs : Nat → List (List Bool)
  | 0 => [[]]
  | n + 1 => (txs n).map (· ++ [false]) ++ (txs n).map (· ++ [true])
theorem txs_len : ∀ n, (txs n).length = 2 ^ n
  | 0 => rfl
  | n + 1 => by unfold txs; rw [List.length_append, List.length_map, List.length_map, txs_len n, Nat.pow_succ]; omega
theorem txs_mem : ∀ (n : Nat) (x : List Bool), x ∈ txs n ↔ x.length = n
  | 0, x => by unfold txs; rw [List.mem_singleton, List.length_eq_zero_iff]
  | n + 1, x => by
    unfold txs
    rw [List.mem_append, List.mem_map, List.mem_map]
    constructor
    · rintro (⟨y, hy, rfl⟩ | ⟨y, hy, rfl⟩) <;> rw [List.length_append, (txs_mem n y).mp hy] <;> rfl
    · intro h
      have hl : n < x.length := by omega
      obtain ⟨r, hr, e⟩ := snoc_of h (List.getElem?_eq_getElem hl)
      generalize x[n] = b at e
      cases b with
      | false => exact .inl ⟨r, (txs_mem n r).mpr hr, e.symm⟩
      | true => exact .inr ⟨r, (txs_mem n r).mpr hr, e.symm⟩
theorem lex_vF : ∀ {x y : List Bool}, x.length = y.length → vF 0 y < vF 0 x → y.map sgn < x.map sgn
  | [], [], _, h => absurd h (Nat.lt_irrefl _)
  | [], _ :: _, h, _ => nomatch h
  | _ :: _, [], h, _ => nomatch h
  | a :: x, b :: y, hl, h => by
    have hl2 : x.length = y.length := Nat.succ.inj hl
    rw [vF_cons, vF_cons, vF_eq (2 * 0 + b.toNat), vF_eq (2 * 0 + a.toNat), hl2] at h
    have h1 := vF_lt x
    have h2 := vF_lt y
    rw [hl2] at h1
    rw [List.map_cons, List.map_cons]
    cases a <;> cases b <;> simp at h
    · exact List.Lex.cons (lex_vF hl2 h)
    · omega
    · exact List.Lex.rel (by decide)
    · exact List.Lex.cons (lex_vF hl2 h)
local macro_rules | `(tactic| walk_at "go") => `(tactic| repeat (first | (with_reducible first | refine iteT ?_ | refine iteF ?_ | refine iteNtt ?_ | refine iteNff ?_ | refine iteET (by omega) ?_ | refine iteEF (by omega) ?_ | refine iteENT (by omega) ?_ | refine iteENF (by omega) ?_ | refine iteDT (by omega) ?_ | refine iteDF (by omega) ?_ | refine iteNT (by omega) ?_ | refine iteNF (by omega) ?_) | refine ⟨_, rfl, ?_⟩ | refine ⟨_, _, rfl, rfl, ?_⟩ | refine ⟨_, _, rfl, ?_⟩ | refine ⟨rfl, ?_⟩ | refine .inl ⟨_, rfl, ?_⟩ | refine .inr ⟨_, rfl, ?_⟩))
local macro_rules | `(tactic| walk_at "b") => `(tactic| try dsimp (config := { proj := false, iota := false, eta := false, zeta := false }) only)
section
variable {P : Program} {w : World} {K : PySem.W.Frag} {mg : Str → Option Value} {base : Heap}
def sp_law_bits : Sp := fun vs H Q _ => ∃ (g : Addr) (n most : Nat), vs = [.ref g, .int most] ∧ GenAt H g n ∧ n ≤ 10 ^ 11 ∧ most ≤ 100 ∧ ∀ (bs : List Bool) H', But g H H' → GenAt H' g (n + 100 * (most + 1)) → bs.length ≤ most → Q (.str (bS bs)) H'
theorem G_law_bits (T : Top K mg) : FnOk P w K mg base CX0 3 T.f_law_bits T.fd_law_bits ["_law_generator_here", "_law_most"] sp_law_bits := by
  refine T.F_law_bits.ok sc_law_bits (fun vs H Q E h => by obtain ⟨g, n, most, rfl, _⟩ := h; rfl) (fun cdv A outer s H vs Q E hr h => ?_)
  obtain ⟨g, n, most, rfl, hg, hn, hm, q⟩ := h
  refine ⟨_, PSs.nox (pss_one (ps_ret (pe_join pe_str (pe_lc (own := [("_law_turn", 2)]) (g := gName 2) (tt := tYes) (by rfl) sc_law_bits.nd (pi_range1 (by rfl) T.n_range (pa_cons (pe_call (G_law_random T) (hr.mono (by decide)) (by rfl) T.g_law_random T.F_law_random.kp T.b_law_random .nil pass0 (pa_cons (pv 0) (pa_cons (pe_op op_add (pv 1) pe_int) pa_nil))) pa_nil)) (blkOk_by (own := [("_law_turn", 2)]) (N := N_law_bits) (sc := defScope s_law_bits) (by decide +kernel)) (fun _ _ _ _ _ => (pg_name (i := 2) sc_law_bits.nd rfl (by first | exact Or.inl rfl | exact Or.inr rfl))) (fun _ _ _ _ _ => pts_nil) (fun _ _ _ _ _ => (pe_ix ix_str pe_str (pe_call (G_law_random T) (hr.mono (by decide)) (by rfl) T.g_law_random T.F_law_random.kp T.b_law_random .nil pass0 (pa_cons (pv 0) (pa_cons pe_int pa_nil))) (fun _ _ => rfl))))))), ?_⟩
  refine ⟨⟨_, rfl⟩, _, rfl, _, rfl, _, _, rfl, rfl, g, _, n, rfl, hg, by omega, by omega, by omega, fun d H1 d0 d1 hg1 b1 => ?_⟩
  refine ⟨_, rfl, by omega, by omega, fun D nD => ?_⟩
  refine lc_drawV (lo := 0) (n := d.toNat) g (n + 100) 100 (fun y => ∃ b : Bool, y = .str (bS [b])) nD hg1 (small4 (by omega)) (fun x => rfl) ?_ ?_
  · intro i H2 hi b2 hg2 Qt qt
    refine ⟨_, rfl, g, 2, _, rfl, hg2, by omega, by decide, by decide, fun e H3 e0 e1 hg3 b3 => ?_⟩
    have he : e = 0 ∨ e = 1 := by omega
    rw [str_01]
    rcases he with rfl | rfl
    · refine ⟨_, _, sgn false, rfl, rfl, by rw [bS_len]; decide, bS_atI (i := 0) rfl, ?_⟩
      exact qt _ _ ⟨false, rfl⟩ b3 (by rw [Nat.mul_succ, ← Nat.add_assoc]; exact hg3)
    · refine ⟨_, _, sgn true, rfl, rfl, by rw [bS_len]; decide, bS_atI (i := 1) rfl, ?_⟩
      exact qt _ _ ⟨true, rfl⟩ b3 (by rw [Nat.mul_succ, ← Nat.add_assoc]; exact hg3)
  · intro H2 ys b2 hg2 hD hl hP
    obtain ⟨bs, rfl⟩ := texts_of hP
    rw [List.length_map] at hl
    refine ⟨_, D, bs.map fun b => bS [b], rfl, rfl, .inl (.inl (.inl ?_)), ?_, ?_⟩
    · rw [hD, List.map_map]
      rfl
    · have e0 : ((("" : String) : Str)).length = 0 := by rw [str_nil]; rfl
      rw [List.map_map, e0, Nat.mul_zero]
      have : ∀ l : List Bool, (l.map ((fun z : Str => z.length) ∘ fun b => bS [b])).sum = l.length := fun l => by
        induction l with
        | nil => rfl
        | cons b r ih => rw [List.map_cons, List.sum_cons, ih, List.length_cons]; show 1 + _ = _; omega
      have hz : (bs.map ((fun x : Str => x.length) ∘ fun b => bS [b])).sum = bs.length := this bs
      exact Nat.le_trans (Nat.le_of_eq hz) (by omega)
    · rw [join_bits]
      exact q _ _ (b1.trans b2) (hg2.mono (by omega)) (by omega)
def sp_law_small_folds : Sp := fun vs H Q _ => ∃ (g : Addr) (n most : Nat), vs = [.ref g, .int most] ∧ GenAt H g n ∧ n ≤ 10 ^ 11 ∧ most ≤ 100 ∧
  ∀ H' p (fs : List Nat), But g H H' → H p = none → p ≠ g → GenAt H' g (n + 100 * (most + 2)) → H' p = some (.lst ((nI fs).map V.int)) → fs.length ≤ most → (∀ f ∈ fs, f < 30) → Q (.ref p) H'
theorem G_law_small_folds (T : Top K mg) : FnOk P w K mg base CX0 3 T.f_law_small_folds T.fd_law_small_folds ["_law_generator_here", "_law_most"] sp_law_small_folds := by
  refine T.F_law_small_folds.ok sc_law_small_folds (fun vs H Q E h => by obtain ⟨g, n, most, rfl, _⟩ := h; rfl) (fun cdv A outer s H vs Q E hr h => ?_)
  obtain ⟨g, n, most, rfl, hg, hn, hm, q⟩ := h
  refine ⟨_, PSs.nox (pss_cons (ps_par (by rfl) sc_law_small_folds.nd (i := 3) (j := 4) rfl rfl (by decide) rfl rfl (pa_cons (pe_lst pa_nil) (pa_cons (pe_ix (k_ixL K rfl) (pe_lst (pa_cons pe_int (pa_cons pe_int (pa_cons pe_int pa_nil)))) (pe_call (G_law_random T) (hr.mono (by decide)) (by rfl) T.g_law_random T.F_law_random.kp T.b_law_random .nil pass0 (pa_cons (pv 0) (pa_cons pe_int pa_nil))) (fun _ _ => rfl)) pa_nil)) (by rfl))
  (pss_cons (ps_for PassesOwn.never rfl (pi_range1 (by rfl) T.n_range (pa_cons (pe_call (G_law_random T) (hr.mono (by decide)) (by rfl) T.g_law_random T.F_law_random.kp T.b_law_random .nil pass0 (pa_cons (pv 0) (pa_cons (pe_op op_add (pv 1) pe_int) pa_nil))) pa_nil)) (pg_name (i := 2) sc_law_small_folds.nd rfl (by first | exact Or.inl rfl | exact Or.inr rfl))
    (pss_one (ps_expr (pe_bm PySem.F.plainAttrs_list PySem.F.slot_list_append PySem.F.type_list_append mt_append (pv 3) (pa_cons (pe_call (G_law_random T) (hr.mono (by decide)) (by rfl) T.g_law_random T.F_law_random.kp T.b_law_random .nil pass0 (pa_cons (pv 0) (pa_cons (pv 4) pa_nil))) pa_nil)))))
  (pss_one (ps_ret (pv 3))))), ?_⟩
  refine ⟨Nat.zero_le _, fun p np => ?_⟩
  obtain ⟨H1, e1, s1, hp1⟩ := fresh (.lst ([] : List V)) np
  rw [e1]
  have pg : p ≠ g := hg.ne np
  refine ⟨(show 3 ≤ sizeLine by decide), fun p2 np2 => ?_⟩
  obtain ⟨H2, e2, s2, hp2⟩ := fresh (.lst [V.int 3, V.int 9, V.int 30]) np2
  rw [e2]
  have hg2 := hg.same (s1.trans s2)
  have p2g : p2 ≠ g := (hg.same s1).ne np2
  refine ⟨_, rfl, g, 3, n, rfl, hg2, by omega, by decide, by decide, fun d H3 d0 d1 hg3 b3 => ?_⟩
  obtain ⟨t, ht, t1, t2⟩ : ∃ t : Int, atI [V.int 3, V.int 9, V.int 30] d = some (.int t) ∧ 0 < t ∧ t ≤ 30 := by
    have : d = 0 ∨ d = 1 ∨ d = 2 := by omega
    rcases this with rfl | rfl | rfl
    · exact ⟨3, rfl, by decide, by decide⟩
    · exact ⟨9, rfl, by decide, by decide⟩
    · exact ⟨30, rfl, by decide, by decide⟩
  refine ⟨p2, _, d, .int t, rfl, rfl, .inl (.inl (b3 _ _ p2g hp2)), ht, _, _, rfl, ?_⟩
  refine ⟨_, rfl, _, rfl, _, _, rfl, rfl, g, _, _, rfl, hg3, by omega, by omega, by omega, fun e H4 e0 e4 hg4 b4 => ?_⟩
  refine ⟨_, rfl, by omega, by omega, ?_⟩
  have hp4 := b4 _ _ pg (b3 _ _ pg (s2 _ _ hp1))
  have b04 : But g H H4 := ((But.of (s1.trans s2)).trans b3).trans b4
  refine for_range (lo := 0) (n := e.toNat) (fun i σ H5 => ∃ (v2 : Option V) (fs : List Nat), σ = [some (.ref g), some (.int most), v2, some (.ref p), some (.int t)] ∧ But g H H5 ∧ GenAt H5 g (n + 100 + 100 + 100 * i) ∧ H5 p = some (.lst ((nI fs).map V.int)) ∧ fs.length = i ∧ ∀ f ∈ fs, f < 30)
    ⟨none, [], rfl, b04, hg4, hp4, rfl, (fun _ h => nomatch h)⟩ ?_ ?_
  · rintro i σ H5 hi ⟨v2, fs, rfl, b5, hg5, hp5, hl5, hf5⟩
    refine ⟨_, rfl, .inl ⟨rfl, _, .inl (.inl hp5)⟩, _, rfl, _, rfl, g, t, _, rfl, hg5, by omega, t1, by omega, fun x H6 x0 x1 hg6 b6 => ?_⟩
    have hp6 := b6 _ _ pg hp5
    refine ⟨p, _, _, rfl, rfl, hp6, by rw [nI_len]; exact small4 (by omega), ?_⟩
    refine ⟨_, fs ++ [x.toNat], rfl, ?_, ?_, ?_, by rw [List.length_append, hl5]; rfl, ?_⟩
    · intro c o nc hc
      rw [upd_ne (ne_of_none hc np)]
      exact b6 _ _ nc (b5 _ _ nc hc)
    · obtain ⟨x1, x2, x3, q1, q2⟩ := hg6
      exact ⟨x1, x2, x3, by rw [upd_ne pg.symm]; exact q1, by omega⟩
    · rw [upd_same, nI_app, List.map_append]
      show _ = some (HO.lst ((nI fs).map V.int ++ [V.int (x.toNat : Nat)]))
      rw [Int.toNat_of_nonneg x0]
    · intro f hf
      rcases List.mem_append.mp hf with hf | hf
      · exact hf5 f hf
      · rw [List.mem_singleton.mp hf]
        omega
  · rintro σ H5 ⟨v2, fs, rfl, b5, hg5, hp5, hl5, hf5⟩
    exact ⟨_, rfl, q _ p fs b5 np pg (hg5.mono (by omega)) hp5 (by omega) hf5⟩
def sp_law_texts : Sp := fun vs H Q _ => ∃ n : Nat, vs = [.int n] ∧ n ≤ 9 ∧ ∀ H' p (xs : List (List Bool)), Same H H' → H p = none → H' p = some (.lst (xs.map fun x => .str (bS x))) → xs.length = 2 ^ n → (∀ x, x ∈ xs ↔ x.length = n) → xs.Pairwise (fun x y => vF 0 x ≤ vF 0 y) → Q (.ref p) H'
theorem G_law_texts (T : Top K mg) : FnOk P w K mg base CX0 1 T.f_law_texts T.fd_law_texts ["_law_size"] sp_law_texts := by
  refine T.F_law_texts.ok sc_law_texts (fun vs H Q E h => by obtain ⟨n, rfl, _⟩ := h; rfl) (fun cdv A outer s H vs Q E hr h => ?_)
  obtain ⟨n, rfl, hn, q⟩ := h
  refine ⟨_, PSs.nox (pss_cons (ps_set (i := 1) sc_law_texts.nd rfl (by first | exact Or.inl rfl | exact Or.inr rfl) (pe_lst (pa_cons pe_str pa_nil)))
  (pss_cons (ps_for PassesOwn.never rfl (pi_range1 (by rfl) T.n_range (pa_cons (pv 0) pa_nil)) (pg_name (i := 2) sc_law_texts.nd rfl (by first | exact Or.inl rfl | exact Or.inr rfl))
    (pss_one (ps_set (i := 1) sc_law_texts.nd rfl (by first | exact Or.inl rfl | exact Or.inr rfl) (pe_op op_cat (pe_lc (own := [("_law_text_here", 3)]) (g := gName 3) (tt := tYes) (by rfl) sc_law_texts.nd (k_piL K rfl (pv 1)) (blkOk_by (own := [("_law_text_here", 3)]) (N := N_law_texts) (sc := defScope s_law_texts) (by decide +kernel)) (fun _ _ _ _ _ => (pg_name (i := 3) sc_law_texts.nd rfl (by first | exact Or.inl rfl | exact Or.inr rfl))) (fun _ _ _ _ _ => pts_nil) (fun _ _ _ _ _ => (pe_op op_add_str (pv 3) pe_str))) (pe_lc (own := [("_law_text_here", 3)]) (g := gName 3) (tt := tYes) (by rfl) sc_law_texts.nd (k_piL K rfl (pv 1)) (blkOk_by (own := [("_law_text_here", 3)]) (N := N_law_texts) (sc := defScope s_law_texts) (by decide +kernel)) (fun _ _ _ _ _ => (pg_name (i := 3) sc_law_texts.nd rfl (by first | exact Or.inl rfl | exact Or.inr rfl))) (fun _ _ _ _ _ => pts_nil) (fun _ _ _ _ _ => (pe_op op_add_str (pv 3) pe_str)))))))
  (pss_one (ps_ret (pe_callB (k_sortedS K rfl) (by rfl) T.n_sorted (by decide +kernel) (pa_cons (pv 1) pa_nil)))))), ?_⟩
  refine ⟨(show 1 ≤ sizeLine by decide), fun p np => ?_⟩
  obtain ⟨H1, e1, s1, hp1⟩ := fresh (.lst [V.str (("" : String) : Str)]) np
  rw [e1]
  have h512 : ∀ i, i ≤ 9 → 2 ^ i ≤ 512 := fun i hi => Nat.pow_le_pow_right (by decide) (by omega : i ≤ 9)
  refine ⟨_, rfl, _, rfl, by omega, by omega, ?_⟩
  rw [Int.toNat_natCast]
  refine for_range (lo := 0) (n := n) (fun i σ H2 => ∃ (p : Addr) (v2 v3 : Option V), σ = [some (.int n), some (.ref p), v2, v3] ∧ Same H H2 ∧ H2 p = some (.lst ((txs i).map fun x => .str (bS x)))) ⟨p, none, none, rfl, s1, by rw [hp1, str_nil]; rfl⟩ ?_ ?_
  · rintro i σ H2 hi ⟨p, v2, v3, rfl, s2, hp2⟩
    have hl := txs_len i
    have hl2 := h512 i (by omega)
    have hlm : ((txs i).map fun x => V.str (bS x)).length = 2 ^ i := by rw [List.length_map, hl]
    refine ⟨_, rfl, p, rfl, ⟨_, .inl (.inl hp2)⟩, fun D nD => ?_⟩
    refine lc_mapL (K := K) (xs := (txs i).map fun x => V.str (bS x)) (((txs i).map (· ++ [false])).map fun x => V.str (bS x)) nD (.inl (.inl hp2)) (by rw [List.length_map, List.length_map, List.length_map]) (by rw [hlm]; exact small4 (by omega)) (fun x => rfl) ?_ ?_
    · intro k x y H' hx hy s Qt qt
      rw [List.getElem?_map] at hx hy
      rw [List.getElem?_map] at hy
      obtain ⟨z, hz, rfl⟩ := Option.map_eq_some_iff.mp hx
      rw [hz] at hy
      cases hy
      have hzl := (txs_mem i z).mp (List.mem_of_getElem? hz)
      refine ⟨_, rfl, _, _, rfl, rfl, by rw [str_zero, bS_len, bS_len]; exact Nat.le_of_lt (small4 (by simp; omega)), ?_⟩
      rw [str_zero, bS_app]
      exact qt _ (Same.refl _)
    intro H3 s3 hD
    refine ⟨_, rfl, p, rfl, ⟨_, .inl (.inl (s3 _ _ hp2))⟩, fun D2 nD2 => ?_⟩
    refine lc_mapL (K := K) (xs := (txs i).map fun x => V.str (bS x)) (((txs i).map (· ++ [true])).map fun x => V.str (bS x)) nD2 (.inl (.inl (s3 _ _ hp2))) (by rw [List.length_map, List.length_map, List.length_map]) (by rw [hlm]; exact small4 (by omega)) (fun x => rfl) ?_ ?_
    · intro k x y H' hx hy s Qt qt
      rw [List.getElem?_map] at hx hy
      rw [List.getElem?_map] at hy
      obtain ⟨z, hz, rfl⟩ := Option.map_eq_some_iff.mp hx
      rw [hz] at hy
      cases hy
      have hzl := (txs_mem i z).mp (List.mem_of_getElem? hz)
      refine ⟨_, rfl, _, _, rfl, rfl, by rw [str_one, bS_len, bS_len]; exact Nat.le_of_lt (small4 (by simp; omega)), ?_⟩
      rw [str_one, bS_app]
      exact qt _ (Same.refl _)
    intro H4 s4 hD2
    refine ⟨D, D2, _, _, rfl, rfl, s4 _ _ hD, hD2, by rw [List.length_map, List.length_map, List.length_map, List.length_map, hl]; exact Nat.le_of_lt (small4 (by omega)), fun p5 np5 => ?_⟩
    refine ⟨p5, _, _, rfl, (s2.trans (s3.trans s4)).trans (same_upd np5), ?_⟩
    rw [upd_same, ← List.map_append]
    rfl
  · rintro σ H2 ⟨p, v2, v3, rfl, s2, hp2⟩
    refine ⟨_, rfl, p, (txs n).map bS, rfl, .inl (.inl (by rw [hp2, List.map_map]; rfl)), fun ys p' hperm hsort np' => ?_⟩
    have hmem : ∀ y, y ∈ ys ↔ ∃ x, x ∈ txs n ∧ bS x = y := fun y => by rw [hperm.mem_iff, List.mem_map]
    obtain ⟨xs, rfl⟩ := strs_of (ys := ys) fun y hy => by
      obtain ⟨x, _, e⟩ := (hmem y).mp hy
      exact ⟨x, e.symm⟩
    have hin : ∀ x, x ∈ xs ↔ x.length = n := fun x => by
      rw [← txs_mem n x]
      constructor
      · intro hx
        obtain ⟨z, hz, e⟩ := (hmem (bS x)).mp (List.mem_map_of_mem hx)
        rw [← bS_inj e]
        exact hz
      · intro hx
        obtain ⟨z, hz, e⟩ := List.mem_map.mp ((hmem (bS x)).mpr ⟨x, hx, rfl⟩)
        rw [← bS_inj e]
        exact hz
    have hpw : xs.Pairwise (fun x y => vF 0 x ≤ vF 0 y) := by
      have h1 : (xs.map bS).Pairwise fun x y => x.cps.toList ≤ y.cps.toList := by
        cases e : xs.map bS with
        | nil => exact .nil
        | cons z r => rw [e] at hsort; exact sorted_le r z hsort
      rw [List.pairwise_map] at h1
      refine List.Pairwise.imp_of_mem (fun {x y} hx hy hle => ?_) h1
      rw [bS_list, bS_list] at hle
      refine Nat.le_of_not_lt fun hlt => hle (lex_vF ?_ hlt)
      rw [(hin x).mp hx, (hin y).mp hy]
    refine q _ p' xs (s2.trans (same_upd np')) (s2.free np') (by rw [upd_same, List.map_map]; rfl) ?_ hin hpw
    have := hperm.length_eq
    rw [List.length_map, List.length_map, txs_len] at this
    exact this
end
end My

namespace My
open PySem PySem.Spec PyProof.Rows L2 Pre
theorem bS_ok (bs : List Bool) : PyData.strOk (bS bs) = true := by
  unfold PyData.strOk bS
  rw [← Array.all_toList, List.all_eq_true]
  intro c hc
  obtain ⟨b, _, rfl⟩ := List.mem_map.mp (show c ∈ bs.map sgn by simpa using hc)
  cases b <;> decide
theorem list_lay (ns : List Int) : (PyData.list (ns.map PyData.int)).canLay0 = true := by rw [PyData.canLay0, lay_ints]
theorem list_depth (ns : List Int) : (PyData.list (ns.map PyData.int)).depth = 1 := by rw [PyData.depth, depth_ints]
theorem list_eqv (ns ms : List Int) : PyData.eqv (.list (ns.map PyData.int)) (.list (ms.map PyData.int)) = decide (ns = ms) := by rw [PyData.eqv, eqv_ints]
/-- a pair of a list of counts and a text -/
def pairLS (ns : List Int) (s : List Bool) : PyData := .tuple [.list (ns.map PyData.int), .str (bS s)]
theorem pairLS_shaped (ns : List Int) (s : List Bool) : SeqAt.shaped (pairLS ns s) = true := by
  unfold pairLS SeqAt.shaped
  rw [Bool.and_eq_true]
  refine ⟨?_, decide_eq_true ?_⟩
  · rw [PyData.canLay0, PyData.canLayAll0, PyData.canLayAll0, PyData.canLayAll0, list_lay]
    show (true && ((PyData.str (bS s)).canLay0 && true)) = true
    rw [PyData.canLay0, bS_ok]
    rfl
  · rw [PyData.depth, PyData.depthAll, PyData.depthAll, PyData.depthAll, list_depth]
    show max 1 (max 0 0) + 1 ≤ 64
    decide
theorem pairLS_eqv (ns : List Int) (s : List Bool) : PyData.eqv (pairLS ns s) (pairLS ns s) = true := by
  unfold pairLS
  rw [PyData.eqv, PyData.eqvAll, PyData.eqvAll, list_eqv, decide_eq_true rfl]
  simp [PyData.eqv, PyData.eqvAll]
theorem pairLS_dp {K : PySem.W.Frag} {H : Hp} {t a : Addr} {ns : List Int} {s : List Bool} (ht : H t = some (.tup [.ref a, .str (bS s)])) (ha : H a = some (.lst (ns.map V.int))) : Dp K H (.ref t) (pairLS ns s) :=
  .tup (.inl (.inl ht)) (.cons (.lst (.inl (.inl ha)) (Pre.dp_ints ns)) (.cons (.str _) .nil))
theorem ne_pairLS {K : PySem.W.Frag} {H : Hp} {t u a b : Addr} {ns : List Int} {s : List Bool} {Q : V → Hp → Prop} (ht : H t = some (.tup [.ref a, .str (bS s)])) (ha : H a = some (.lst (ns.map V.int))) (hu : H u = some (.tup [.ref b, .str (bS s)])) (hb : H b = some (.lst (ns.map V.int))) (q : Q (.bl false) H) : rNeD K (.ref t) (.ref u) H Q := by
  refine ⟨_, _, pairLS_dp ht ha, pairLS_dp hu hb, pairLS_shaped _ _, pairLS_shaped _ _, ?_⟩
  rw [pairLS_eqv]
  exact q
theorem ne_none {K : PySem.W.Frag} {H : Hp} {Q : V → Hp → Prop} (q : Q (.bl false) H) : rNeD K .non .non H Q := ⟨.none, .none, .non, .non, by decide +kernel, by decide +kernel, q⟩
theorem cut_nI (l : List Nat) (k : Nat) : cutV ((nI l).map V.int) none (some (k : Int)) = (nI (l.take k)).map V.int := by
  rw [cut_take, ← List.map_take, ← List.map_take]
theorem ends_at {w : Nat} {bs : List Bool} {k : Nat} (h : k ≤ (rdT w bs).length) : atI ([V.int 0] ++ (nI (endsN w bs)).map V.int) (k : Int) = some (V.int (plc w bs k : Nat)) := by
  refine atI_nat (xs := [V.int 0] ++ (nI (endsN w bs)).map V.int) ?_
  show ((nI (0 :: endsN w bs)).map V.int)[k]? = _
  exact nI_get (plc_get h)
local macro_rules | `(tactic| walk_at "go") => `(tactic| repeat (first | (with_reducible first | refine iteT ?_ | refine iteF ?_ | refine iteNtt ?_ | refine iteNff ?_ | refine iteET (by omega) ?_ | refine iteEF (by omega) ?_ | refine iteENT (by omega) ?_ | refine iteENF (by omega) ?_ | refine iteDT (by omega) ?_ | refine iteDF (by omega) ?_ | refine iteNT (by omega) ?_ | refine iteNF (by omega) ?_) | refine ⟨_, rfl, ?_⟩ | refine ⟨_, _, rfl, rfl, ?_⟩ | refine ⟨_, _, rfl, ?_⟩ | refine ⟨rfl, ?_⟩ | refine .inl ⟨_, rfl, ?_⟩ | refine .inr ⟨_, rfl, ?_⟩))
local macro_rules | `(tactic| walk_at "b") => `(tactic| try dsimp (config := { proj := false, iota := false, eta := false, zeta := false }) only)
section
variable {P : Program} {w : World} {K : PySem.W.Frag} {mg : Str → Option Value} {base : Heap}
/-- what the law asks of folds -/
def FoldsOk (fs : List Nat) (wd : Nat) : Prop := fs.length ≤ 6 ∧ wd ≤ 4 ∧ ∀ f ∈ fs, f < 30
theorem FoldsOk.few {fs : List Nat} {wd : Nat} (h : FoldsOk fs wd) : Few wd fs ∧ (txF wd fs).length ≤ 210 := by
  obtain ⟨h1, h2, h3⟩ := h
  have hd : ∀ f ∈ fs, f / 2 ^ wd ≤ 29 := fun f hf => by
    have := h3 f hf
    have := Nat.div_le_self f (2 ^ wd)
    omega
  have hl : ∀ l : List Nat, (∀ f ∈ l, f / 2 ^ wd ≤ 29) → (txF wd l).length ≤ 34 * l.length := fun l => by
    induction l with
    | nil => intro _; exact Nat.le_refl _
    | cons f r ih =>
      intro hr
      have := ih fun g hg => hr g (List.mem_cons_of_mem _ hg)
      have := hr f List.mem_cons_self
      show (tx1 wd f ++ txF wd r).length ≤ _
      rw [List.length_append, tx1_len, List.length_cons]
      omega
  have := hl fs hd
  exact ⟨⟨by omega, fun f hf => by have := hd f hf; omega, by omega, by omega⟩, by omega⟩
def sp_law_written_right : Sp := fun vs H Q _ => ∃ (g a : Addr) (n : Nat) (fs : List Nat) (wd : Nat), vs = [.ref g, .ref a, .int wd] ∧ GenAt H g n ∧ n ≤ 10 ^ 10 ∧ H a = some (.lst ((nI fs).map V.int)) ∧ a ≠ g ∧ FoldsOk fs wd ∧
  ∀ H', But g H H' → GenAt H' g (n + 2000) → Q (.bl true) H'
theorem G_law_written_right (T : Top K mg) : FnOk P w K mg base CX0 5 T.f_law_written_right T.fd_law_written_right ["_law_generator_here", "_law_folds", "_law_width"] sp_law_written_right := by
  refine T.F_law_written_right.ok sc_law_written_right (fun vs H Q E h => by obtain ⟨g, a, n, fs, wd, rfl, _⟩ := h; rfl) (fun cdv A outer s H vs Q E hr h => ?_)
  obtain ⟨g, a, n, fs, wd, rfl, hg, hn, hA, ag, hF, q⟩ := h
  refine ⟨_, PSs.nox (pss_cons (ps_par3 (by rfl) sc_law_written_right.nd (i := 4) (j := 5) (l := 6) rfl rfl rfl (by decide) (by decide) (by decide) rfl rfl rfl (pa_cons (pe_call (G_law_text T) (hr.mono (by decide)) (by rfl) T.g_law_text T.F_law_text.kp T.b_law_text .nil pass0 (pa_cons (pv 1) (pa_cons (pv 2) pa_nil))) (pa_cons (pe_call (G_law_bits T) (hr.mono (by decide)) (by rfl) T.g_law_bits T.F_law_bits.kp T.b_law_bits .nil pass0 (pa_cons (pv 0) (pa_cons pe_int pa_nil))) (pa_cons (pe_callTy (k_listOf K rfl) (by rfl) T.n_list (by decide +kernel) (pa_cons (pv 1) pa_nil)) pa_nil))) (by rfl))
  (pss_cons (ps_if (PW.pt (pw_or (pt_cmpR op_ne (pe_call (G_written T) (hr.mono (by decide)) (by rfl) T.g_written T.F_written.kp T.b_written .nil pass0 (pa_cons (pv 1) (pa_cons (pv 2) pa_nil))) (pv 4) (nomark _)) (pw_or1 (pt_cmpR (k_neD K rfl hr.units) (pv 1) (pv 6) (nomark _)))))
    (pss_one (ps_ret pe_bl))
    pss_nil)
  (pss_cons (ps_if (pt_cmpR (k_neD K rfl hr.units) (pe_call (G_read_folds T) (hr.mono (by decide)) (by rfl) T.g_read_folds T.F_read_folds.kp T.b_read_folds .nil pass0 (pa_cons (pe_op op_add_str (pv 4) (pv 5)) (pa_cons (pv 2) (pa_cons (pe_callB (k_len K rfl) (by rfl) T.n_len (by decide +kernel) (pa_cons (pv 1) pa_nil)) pa_nil)))) (pe_tup (pa_cons (pv 1) (pa_cons (pv 5) pa_nil))) (nomark _))
    (pss_one (ps_ret pe_bl))
    pss_nil)
  (pss_cons (ps_for PassesOwn.never rfl (pi_range1 (by rfl) T.n_range (pa_cons (pe_op op_add (pe_callB (k_len K rfl) (by rfl) T.n_len (by decide +kernel) (pa_cons (pv 1) pa_nil)) pe_int) pa_nil)) (pg_name (i := 3) sc_law_written_right.nd rfl (by first | exact Or.inl rfl | exact Or.inr rfl))
    (pss_cons (ps_set (i := 7) sc_law_written_right.nd rfl (by first | exact Or.inl rfl | exact Or.inr rfl) (pe_slice sl_str (pv 4) po_none (po_some (pe_call (G_law_random T) (hr.mono (by decide)) (by rfl) T.g_law_random T.F_law_random.kp T.b_law_random .nil pass0 (pa_cons (pv 0) (pa_cons (pe_op op_add (pe_callB call_len_str (by rfl) T.n_len (by decide +kernel) (pa_cons (pv 4) pa_nil)) pe_int) pa_nil))))))
  (pss_cons (ps_asg (pe_call (G_law_read T) (hr.mono (by decide)) (by rfl) T.g_law_read T.F_law_read.kp T.b_law_read .nil pass0 (pa_cons (pv 7) (pa_cons (pv 2) pa_nil))) (k_pgT K rfl (by rfl) (pgs_cons (pg_name (i := 9) sc_law_written_right.nd rfl (by first | exact Or.inl rfl | exact Or.inr rfl)) (pgs_cons (pg_name (i := 10) sc_law_written_right.nd rfl (by first | exact Or.inl rfl | exact Or.inr rfl)) pgs_nil))))
  (pss_cons (ps_set (i := 8) sc_law_written_right.nd rfl (by first | exact Or.inl rfl | exact Or.inr rfl) (pe_ifExp (pt_cmpR op_le (pv 3) (pe_callB (k_len K rfl) (by rfl) T.n_len (by decide +kernel) (pa_cons (pv 9) pa_nil)) (nomark _)) (pe_tup (pa_cons (pe_slice (k_slL K rfl) (pv 9) po_none (po_some (pv 3))) (pa_cons (pe_slice sl_str (pv 7) (po_some (pe_ix (k_ixL K rfl) (pe_op op_cat (pe_lst (pa_cons pe_int pa_nil)) (pv 10)) (pv 3) (fun _ _ => rfl))) po_none) pa_nil))) pe_non))
  (pss_one (ps_if (pt_cmpR (k_neD K rfl hr.units) (pe_call (G_read_folds T) (hr.mono (by decide)) (by rfl) T.g_read_folds T.F_read_folds.kp T.b_read_folds .nil pass0 (pa_cons (pv 7) (pa_cons (pv 2) (pa_cons (pv 3) pa_nil)))) (pv 8) (nomark _))
    (pss_one (ps_ret pe_bl))
    pss_nil))))))
  (pss_one (ps_ret pe_bl)))))), ?_⟩
  obtain ⟨hFew, hTl⟩ := hF.few
  obtain ⟨hf6, hw4, hf30⟩ := id hF
  refine ⟨_, rfl, _, rfl, a, fs, wd, rfl, .inl (.inl hA), hFew, ?_⟩
  refine ⟨_, rfl, g, n, 6, rfl, hg, by omega, by omega, fun more H1 b1 hg1 hml => ?_⟩
  have hA1 := b1 _ _ ag hA
  refine ⟨_, rfl, a, _, rfl, .inl (.inl (.inl hA1)), fun kp nkp => ?_⟩
  obtain ⟨H2, e2, s2, hk2⟩ := fresh (.lst ((nI fs).map V.int)) nkp
  rw [e2]
  have kg : kp ≠ g := hg1.ne nkp
  refine ⟨_, _, _, rfl, ?_⟩
  have hA2 := s2 _ _ hA1
  refine ⟨_, rfl, _, rfl, a, fs, wd, rfl, hA2, hFew, by omega, fun H3 s3 => ?_⟩
  generalize eT : txF wd fs = T at *
  refine ⟨_, rfl, rfl, _, rfl, iteNF rfl ?_⟩
  refine ⟨_, rfl, _, rfl, ne_lst (.inl (.inl (s3 _ _ hA2))) (.inl (.inl (s3 _ _ hk2))) ⟨_, rfl, iteF ?_⟩⟩
  -- read back
  refine ⟨_, rfl, _, rfl, _, _, rfl, rfl, by rw [bS_len, bS_len]; exact Nat.le_of_lt (small4 (by omega)), ?_⟩
  rw [bS_app]
  obtain ⟨r1, r2, r3⟩ := rdT_tx wd fs more
  rw [eT] at r1 r2 r3
  refine ⟨_, rfl, _, rfl, a, _, rfl, .inl (.inl (.inl (s3 _ _ hA2))), T ++ more, wd, fs.length, by rw [nI_len]; rfl, by simp; omega, by omega, fun z => absurd z (by omega), fun hk H4 t l s4 nt nl ht hl => ?_⟩
  rw [r3, List.drop_append_of_le_length (Nat.le_refl _), List.drop_length, List.nil_append] at ht
  unfold fN at hl
  rw [r1] at hl
  refine ⟨_, rfl, _, rfl, (show 2 ≤ sizeLine by decide), fun t2 nt2 => ?_⟩
  obtain ⟨H5, e5, s5, ht5⟩ := fresh (.tup [.ref a, .str (bS more)]) nt2
  rw [e5]
  refine ne_pairLS (s5 _ _ ht) (s5 _ _ hl) ht5 (s5 _ _ (s4 _ _ (s3 _ _ hA2))) ⟨_, rfl, iteF ?_⟩
  have s25 := s2.trans (s3.trans (s4.trans s5))
  refine ⟨_, rfl, a, _, rfl, .inl (.inl (.inl (s25 _ _ hA1))), _, _, rfl, rfl, _, rfl, by omega, by rw [nI_len]; omega, ?_⟩
  rw [nI_len, show (((fs.length : Nat) : Int) + 3).toNat = fs.length + 3 by omega]
  refine for_range (lo := 0) (n := fs.length + 3) (fun i σ H6 => ∃ (v3 v7 v8 v9 v10 : Option V), σ = [some (.ref g), some (.ref a), some (.int wd), v3, some (.str (bS T)), some (.str (bS more)), some (.ref kp), v7, v8, v9, v10] ∧ But g H H6 ∧ GenAt H6 g (n + 100 * (6 + 1) + 100 * i))
    ⟨none, none, none, none, none, rfl, b1.same s25, hg1.same s25⟩ ?_ ?_
  · rintro i σ H6 hi ⟨v3, v7, v8, v9, v10, rfl, b6, hg6⟩
    rw [show (0 + (i : Int)) = (i : Int) by omega]
    refine ⟨_, rfl, _, rfl, _, rfl, _, rfl, by rw [bS_len]; exact Nat.le_of_lt (small4 (by omega)), _, _, rfl, rfl, g, _, _, rfl, hg6, by omega, by rw [bS_len]; omega, by rw [bS_len]; omega, fun d H7 d0 d1 hg7 b7 => ?_⟩
    rw [bS_len] at d1
    obtain ⟨dn, rfl⟩ : ∃ dn : Nat, d = dn := ⟨d.toNat, by omega⟩
    refine ⟨_, rfl, _, rfl, by rw [bS_len]; exact Nat.le_of_lt (small4 (by omega)), ?_⟩
    rw [cut_bSt]
    have hSl : (T.take dn).length ≤ 210 := by rw [List.length_take]; omega
    generalize T.take dn = S at *
    refine ⟨_, rfl, _, rfl, S, wd, rfl, by omega, by omega, fun H8 t x y s8 nt nx ny xy ht hx hy => ?_⟩
    refine ⟨t, _, rfl, .inl (.inl ht), rfl, _, _, rfl, _, _, rfl, rfl, ?_⟩
    have hrl := rdT_len wd S
    have hxl : ((nI ((rdT wd S).map (·.1))).map V.int).length = (rdT wd S).length := by rw [nI_len, List.length_map]
    refine ⟨_, rfl, _, rfl, x, _, rfl, .inl (.inl (.inl hx)), _, _, rfl, rfl, _, rfl, ?_⟩
    rw [hxl]
    have bg8 : But g H H8 := (b6.trans b7).same s8
    have gg8 := hg7.same s8
    by_cases hc : i ≤ (rdT wd S).length
    · refine iteDT (by omega) ?_
      refine ⟨_, rfl, _, rfl, _, rfl, x, _, rfl, .inl (.inl hx), fun p1 np1 => ?_⟩
      rw [cut_nI]
      obtain ⟨H9, e9, s9, hp9⟩ := fresh (.lst ((nI (((rdT wd S).map (·.1)).take i)).map V.int)) np1
      rw [e9]
      refine ⟨_, rfl, (show 1 ≤ sizeLine by decide), fun p2 np2 => ?_⟩
      obtain ⟨H10, e10, s10, hp10⟩ := fresh (.lst [V.int 0]) np2
      rw [e10]
      refine ⟨_, rfl, p2, y, _, _, rfl, rfl, hp10, s10 _ _ (s9 _ _ hy), by rw [nI_len, endsN_len]; exact Nat.le_of_lt (small4 (by simp; omega)), fun p3 np3 => ?_⟩
      obtain ⟨H11, e11, s11, hp11⟩ := fresh (.lst ([V.int 0] ++ (nI (endsN wd S)).map V.int)) np3
      rw [e11]
      refine ⟨_, rfl, p3, _, _, .int ((plc wd S i : Nat) : Int), rfl, rfl, .inl (.inl hp11), ends_at hc, _, rfl, _, rfl, by rw [bS_len]; exact Nat.le_of_lt (small4 (by omega)), ?_⟩
      rw [cut_bSd]
      refine ⟨(show 2 ≤ sizeLine by decide), fun p4 np4 => ?_⟩
      obtain ⟨H12, e12, s12, hp12⟩ := fresh (.tup [.ref p1, .str (bS (S.drop (plc wd S i)))]) np4
      rw [e12]
      have s8' := s9.trans (s10.trans (s11.trans s12))
      refine ⟨_, rfl, _, rfl, _, rfl, S, wd, i, rfl, by omega, by omega, fun z => absurd z (by omega), fun hk H13 t' l' s13 nt' nl' ht' hl' => ?_⟩
      have efN : fN wd S i = ((rdT wd S).map (·.1)).take i := List.map_take
      rw [efN] at hl'
      refine ⟨_, rfl, ne_pairLS ht' hl' (s13 _ _ hp12) (s13 _ _ (s12 _ _ (s11 _ _ (s10 _ _ hp9)))) ⟨_, rfl, iteF ?_⟩⟩
      exact ⟨_, _, _, _, _, rfl, bg8.same (s8'.trans s13), (gg8.same (s8'.trans s13)).mono (by omega)⟩
    · refine iteDF (by omega) ?_
      refine ⟨_, rfl, _, rfl, _, rfl, S, wd, i, rfl, by omega, by omega, fun _ H9 s9 => ?_, fun z => absurd z (by omega)⟩
      refine ⟨_, rfl, ne_none ⟨_, rfl, iteF ?_⟩⟩
      exact ⟨_, _, _, _, _, rfl, bg8.same s9, (gg8.same s9).mono (by omega)⟩
  · rintro σ H6 ⟨v3, v7, v8, v9, v10, rfl, b6, hg6⟩
    exact q _ b6 (hg6.mono (by omega))
end
end My

namespace My
open PySem PySem.Spec PyProof.Rows L2 Pre
/-- widths with their folds, as data -/
def wfD (bs : List Bool) (w : Nat) : PyData := .tuple [.int (w : Int), .list ((nI ((rdT w bs).map (·.1))).map PyData.int)]
theorem wfD_dp {K : PySem.W.Frag} {H : Hp} {bs : List Bool} : ∀ {ts : List Addr} {ws : List Nat}, ts.length = ws.length → (∀ (i : Nat) (t : Addr) (w : Nat), ts[i]? = some t → ws[i]? = some w → PairAt H bs t w) → DpAll K H (ts.map V.ref) (ws.map (wfD bs))
  | [], [], _, _ => .nil
  | [], _ :: _, h, _ => nomatch h
  | _ :: _, [], h, _ => nomatch h
  | t :: ts, w :: ws, h, k => by
    obtain ⟨a, h1, h2⟩ := k 0 t w rfl rfl
    exact .cons (.tup (.inl (.inl h1)) (.cons (.int _) (.cons (.lst (.inl (.inl h2)) (Pre.dp_ints _)) .nil))) (wfD_dp (Nat.succ.inj h) fun i t' w' ht hw => k (i + 1) t' w' ht hw)
theorem wfD_shaped (bs : List Bool) (ws : List Nat) : SeqAt.shaped (.list (ws.map (wfD bs))) = true := by
  have h1 : ∀ l : List Nat, PyData.canLayAll0 (l.map (wfD bs)) = true := fun l => by
    induction l with
    | nil => rfl
    | cons r l ih =>
      show (PyData.canLay0 (wfD bs r) && PyData.canLayAll0 (l.map (wfD bs))) = true
      rw [ih]
      unfold wfD
      rw [PyData.canLay0, PyData.canLayAll0, PyData.canLayAll0, PyData.canLayAll0, list_lay]
      rfl
  have h2 : ∀ l : List Nat, PyData.depthAll (l.map (wfD bs)) ≤ 2 := fun l => by
    induction l with
    | nil => simp [PyData.depthAll]
    | cons r l ih =>
      show PyData.depthAll (wfD bs r :: l.map (wfD bs)) ≤ 2
      rw [PyData.depthAll]
      have : (wfD bs r).depth = 2 := by
        unfold wfD
        rw [PyData.depth, PyData.depthAll, PyData.depthAll, PyData.depthAll, list_depth]
        show max 0 (max 1 0) + 1 = 2
        decide
      omega
  show (PyData.canLay0 (.list (ws.map (wfD bs))) && decide (PyData.depth (.list (ws.map (wfD bs))) ≤ 64)) = true
  rw [Bool.and_eq_true]
  have := h2 ws
  exact ⟨by rw [PyData.canLay0]; exact h1 ws, decide_eq_true (by rw [PyData.depth]; omega)⟩
theorem wfD_eqv (bs : List Bool) (ws : List Nat) : PyData.eqv (.list (ws.map (wfD bs))) (.list (ws.map (wfD bs))) = true := by
  rw [PyData.eqv]
  induction ws with
  | nil => rfl
  | cons w ws ih =>
    show (PyData.eqv (wfD bs w) (wfD bs w) && PyData.eqvAll (ws.map (wfD bs)) (ws.map (wfD bs))) = true
    rw [ih]
    unfold wfD
    rw [PyData.eqv, PyData.eqvAll, PyData.eqvAll, list_eqv, decide_eq_true rfl]
    simp [PyData.eqv, PyData.eqvAll]
/-- one text in a list -/
theorem ne_one {K : PySem.W.Frag} {H : Hp} {a b : Addr} {s : List Bool} {Q : V → Hp → Prop} (ha : H a = some (.lst [.str (bS s)])) (hb : H b = some (.lst [.str (bS s)])) (q : Q (.bl false) H) : rNeD K (.ref a) (.ref b) H Q := by
  have sh : SeqAt.shaped (.list [.str (bS s)]) = true := by
    unfold SeqAt.shaped
    rw [Bool.and_eq_true]
    refine ⟨?_, decide_eq_true ?_⟩
    · rw [PyData.canLay0, PyData.canLayAll0, PyData.canLayAll0, PyData.canLay0, bS_ok]
      rfl
    · rw [PyData.depth, PyData.depthAll, PyData.depthAll]
      show max 0 0 + 1 ≤ 64
      decide
  refine ⟨.list [.str (bS s)], .list [.str (bS s)], .lst (.inl (.inl ha)) (.cons (.str _) .nil), .lst (.inl (.inl hb)) (.cons (.str _) .nil), sh, sh, ?_⟩
  have e : PyData.eqv (.list [.str (bS s)]) (.list [.str (bS s)]) = true := by
    rw [PyData.eqv, PyData.eqvAll]
    simp [PyData.eqv, PyData.eqvAll]
  rw [e]
  exact q
theorem tx1_le {w f : Nat} : ∀ {fs : List Nat}, f ∈ fs → (tx1 w f).length ≤ (txF w fs).length
  | [], h => nomatch h
  | g :: fs, h => by
    have e : (txF w (g :: fs)).length = (tx1 w g).length + (txF w fs).length := by
      show (tx1 w g ++ txF w fs).length = _
      rw [List.length_append]
    rcases List.mem_cons.mp h with rfl | h
    · omega
    · have := tx1_le (w := w) h
      omega
theorem whole_few {w : Nat} {T : List Bool} (h : whole w T = true) (hw : w ≤ 30) (hl : T.length ≤ 961) : Few w ((rdT w T).map (·.1)) := by
  have e := tx_whole h
  have l := rdT_len w T
  refine ⟨by omega, fun f hf => ?_, by rw [List.length_map]; omega, by rw [e]; omega⟩
  have h1 := tx1_le (w := w) hf
  rw [e, tx1_len] at h1
  omega
/-- of the texts of the size, the first that both read whole -/
theorem first_both {wd wo : Nat} {T : List Bool} (hB : IsBoth wd wo T) {xs : List (List Bool)} (hin : ∀ x, x ∈ xs ↔ x.length = T.length) (hpw : xs.Pairwise (fun x y => vF 0 x ≤ vF 0 y)) : ∃ r, xs.filter (fun x => whole wd x && whole wo x) = T :: r := by
  obtain ⟨h1, h2, h3, h4⟩ := hB
  have hT : T ∈ xs.filter (fun x => whole wd x && whole wo x) := List.mem_filter.mpr ⟨(hin T).mpr rfl, by rw [h2, h3]; rfl⟩
  have hp := hpw.filter (fun x => whole wd x && whole wo x)
  cases e : xs.filter (fun x => whole wd x && whole wo x) with
  | nil => rw [e] at hT; cases hT
  | cons y r =>
    refine ⟨r, ?_⟩
    have hy : y ∈ xs.filter (fun x => whole wd x && whole wo x) := by rw [e]; exact List.mem_cons_self
    obtain ⟨hy1, hy2⟩ := List.mem_filter.mp hy
    rw [Bool.and_eq_true] at hy2
    have hyl := (hin y).mp hy1
    have hyn : y ≠ [] := fun z => h1 (List.eq_nil_of_length_eq_zero (by rw [← hyl, z]; rfl))
    have k1 := h4 y hyn hy2.1 hy2.2
    rw [vF_eq 1 T, vF_eq 1 y, hyl] at k1
    rw [e] at hT hp
    have k2 : vF 0 y ≤ vF 0 T := by
      rcases List.mem_cons.mp hT with z | z
      · rw [z]; exact Nat.le_refl _
      · exact (List.pairwise_cons.mp hp).1 T z
    rw [vF_inj hyl (by omega)]
theorem none_both {wd wo : Nat} {T : List Bool} (hB : IsBoth wd wo T) {xs : List (List Bool)} {n : Nat} (h0 : 0 < n) (hn : n < T.length) (hin : ∀ x, x ∈ xs ↔ x.length = n) : xs.filter (fun x => whole wd x && whole wo x) = [] := by
  obtain ⟨h1, h2, h3, h4⟩ := hB
  refine List.filter_eq_nil_iff.mpr fun x hx hw => ?_
  rw [Bool.and_eq_true] at hw
  have hl := (hin x).mp hx
  have hxn : x ≠ [] := fun z => by rw [z] at hl; simp at hl; omega
  exact vF_short (by omega) (h4 x hxn hw.1 hw.2)
theorem filter_sel {α : Type} (l : List α) (p : α → Bool) (f : α → V) : (l.map fun x => if p x = true then some (f x) else none).filterMap id = (l.filter p).map f := by
  induction l with
  | nil => rfl
  | cons x l ih =>
    rw [List.map_cons]
    by_cases h : p x = true
    · rw [if_pos h, List.filterMap_cons_some (by rfl), ih, List.filter_cons, if_pos h]
      rfl
    · rw [if_neg h, List.filterMap_cons_none (by rfl), ih, List.filter_cons, if_neg h]
local macro_rules | `(tactic| walk_at "go") => `(tactic| repeat (first | (with_reducible first | refine iteT ?_ | refine iteF ?_ | refine iteNtt ?_ | refine iteNff ?_ | refine iteET (by omega) ?_ | refine iteEF (by omega) ?_ | refine iteENT (by omega) ?_ | refine iteENF (by omega) ?_ | refine iteDT (by omega) ?_ | refine iteDF (by omega) ?_ | refine iteNT (by omega) ?_ | refine iteNF (by omega) ?_) | refine ⟨_, rfl, ?_⟩ | refine ⟨_, _, rfl, rfl, ?_⟩ | refine ⟨_, _, rfl, ?_⟩ | refine ⟨rfl, ?_⟩ | refine .inl ⟨_, rfl, ?_⟩ | refine .inr ⟨_, rfl, ?_⟩))
local macro_rules | `(tactic| walk_at "b") => `(tactic| try dsimp (config := { proj := false, iota := false, eta := false, zeta := false }) only)
section
variable {P : Program} {w : World} {K : PySem.W.Frag} {mg : Str → Option Value} {base : Heap}
def sp_law_readings_right : Sp := fun vs H Q _ => ∃ (bs : List Bool) (n : Nat), vs = [.str (bS bs), .int n] ∧ bs.length ≤ 10000 ∧ n ≤ 120 ∧ ∀ H', Same H H' → Q (.bl true) H'
theorem G_law_readings_right (T : Top K mg) : FnOk P w K mg base CX0 5 T.f_law_readings_right T.fd_law_readings_right ["_law_bits_here", "_law_most"] sp_law_readings_right := by
  refine T.F_law_readings_right.ok sc_law_readings_right (fun vs H Q E h => by obtain ⟨bs, n, rfl, _⟩ := h; rfl) (fun cdv A outer s H vs Q E hr h => ?_)
  obtain ⟨bs, n, rfl, hz, hn, q⟩ := h
  refine ⟨_, PSs.nox (pss_cons (ps_set (i := 2) sc_law_readings_right.nd rfl (by first | exact Or.inl rfl | exact Or.inr rfl) (pe_lst pa_nil))
  (pss_cons (ps_for PassesOwn.never rfl (pi_range1 (by rfl) T.n_range (pa_cons (pe_op op_add (pv 1) pe_int) pa_nil)) (pg_name (i := 3) sc_law_readings_right.nd rfl (by first | exact Or.inl rfl | exact Or.inr rfl))
    (pss_cons (ps_asg (pe_call (G_law_read T) (hr.mono (by decide)) (by rfl) T.g_law_read T.F_law_read.kp T.b_law_read .nil pass0 (pa_cons (pv 0) (pa_cons (pv 3) pa_nil))) (k_pgT K rfl (by rfl) (pgs_cons (pg_name (i := 4) sc_law_readings_right.nd rfl (by first | exact Or.inl rfl | exact Or.inr rfl)) (pgs_cons (pg_name (i := 5) sc_law_readings_right.nd rfl (by first | exact Or.inl rfl | exact Or.inr rfl)) pgs_nil))))
  (pss_one (ps_if (pt_cmpR op_eq (pe_ix (k_ixL K rfl) (pe_op op_cat (pe_lst (pa_cons pe_int pa_nil)) (pv 5)) (pe_un un_neg pe_int) (fun _ _ => rfl)) (pe_callB call_len_str (by rfl) T.n_len (by decide +kernel) (pa_cons (pv 0) pa_nil)) (nomark _))
    (pss_one (ps_expr (pe_bm PySem.F.plainAttrs_list PySem.F.slot_list_append PySem.F.type_list_append mt_append (pv 2) (pa_cons (pe_tup (pa_cons (pv 3) (pa_cons (pv 4) pa_nil))) pa_nil))))
    pss_nil))))
  (pss_one (ps_ret (pe_cmpR (k_eqD K rfl hr.units) (pe_call (G_readings T) (hr.mono (by decide)) (by rfl) T.g_readings T.F_readings.kp T.b_readings .nil pass0 (pa_cons (pv 0) (pa_cons (pv 1) pa_nil))) (pv 2) (nomark _)))))), ?_⟩
  refine ⟨Nat.zero_le _, fun p np => ?_⟩
  obtain ⟨H2, e2, s2, hp2⟩ := fresh (.lst ([] : List V)) np
  rw [e2]
  refine ⟨_, rfl, _, _, rfl, rfl, _, rfl, by omega, by omega, ?_⟩
  rw [show ((n : Int) + 1).toNat = n + 1 by omega]
  refine for_range (lo := 0) (n := n + 1) (fun i σ H3 => ∃ (v3 v4 v5 : Option V) (ts : List Addr), σ = [some (.str (bS bs)), some (.int n), some (.ref p), v3, v4, v5] ∧ Same H H3 ∧ H3 p = some (.lst (ts.map V.ref)) ∧ ts.length = (rdW bs i).length ∧ ∀ (k : Nat) (t : Addr) (w : Nat), ts[k]? = some t → (rdW bs i)[k]? = some w → t ≠ p ∧ ∃ a, a ≠ p ∧ H3 t = some (.tup [.int (w : Int), .ref a]) ∧ H3 a = some (.lst ((nI ((rdT w bs).map (·.1))).map V.int)))
    ⟨none, none, none, [], rfl, s2, hp2, rfl, fun k t w h => by simp at h⟩ ?_ ?_
  · rintro i σ H3 hi ⟨v3, v4, v5, ts, rfl, s3, hp3, hl3, hT⟩
    rw [show (0 + (i : Int)) = (i : Int) by omega]
    refine ⟨_, rfl, _, rfl, bs, i, rfl, hz, by omega, fun H4 t a b s4 nt na nb ab ht ha hb => ?_⟩
    refine ⟨t, _, rfl, .inl (.inl ht), rfl, _, _, rfl, _, _, rfl, rfl, ?_⟩
    have hlen := rdT_len i bs
    refine ⟨(show 1 ≤ sizeLine by decide), fun p2 np2 => ?_⟩
    obtain ⟨H5, e5, s5, hp5⟩ := fresh (.lst [V.int 0]) np2
    rw [e5]
    refine ⟨_, rfl, p2, b, _, _, rfl, rfl, hp5, s5 _ _ hb, by rw [nI_len, endsN_len]; exact Nat.le_of_lt (small4 (by simp; omega)), fun p3 np3 => ?_⟩
    obtain ⟨H6, e6, s6, hp6⟩ := fresh (.lst ([V.int 0] ++ (nI (endsN i bs)).map V.int)) np3
    rw [e6]
    obtain ⟨r, er⟩ := ends_last i bs
    refine ⟨_, rfl, p3, _, _, .int ((plc i bs (rdT i bs).length : Nat) : Int), rfl, rfl, .inl (.inl hp6), lastI (l := 0 :: endsN i bs) er, _, rfl, _, rfl, by rw [bS_len]; exact Nat.le_of_lt (small4 (by omega)), rfl, _, rfl, ?_⟩
    rw [bS_len]
    have s36 := s4.trans (s5.trans s6)
    by_cases hw : whole i bs = true
    · have hw2 : plc i bs (rdT i bs).length = bs.length := by unfold whole at hw; exact of_decide_eq_true hw
      refine iteET (by omega) ?_
      have hp7 := s36 _ _ hp3
      refine ⟨_, rfl, .inl ⟨rfl, _, .inl (.inl hp7)⟩, _, rfl, _, rfl, (show 2 ≤ sizeLine by decide), fun t2 nt2 => ?_⟩
      obtain ⟨H7, e7, s7, ht7⟩ := fresh (.tup [V.int i, V.ref a]) nt2
      rw [e7]
      refine ⟨p, _, _, rfl, rfl, s7 _ _ hp7, by rw [List.length_map, hl3]; have := List.length_filter_le (fun w => whole w bs) (List.range i); rw [List.length_range] at this; exact small4 (Nat.le_trans this (by omega)), ?_⟩
      have tp : t2 ≠ p := (ne_of_none hp7 nt2).symm
      have s37 := s36.trans s7
      have ap : a ≠ p := (ne_of_none hp3 na).symm
      refine ⟨_, _, _, ts ++ [t2], rfl, same_over np (s3.trans s37), by rw [upd_same, List.map_append]; rfl, by rw [List.length_append, hl3, rdW_next, if_pos hw, List.length_append]; rfl, fun k t' w' ht' hw' => ?_⟩
      rw [rdW_next, if_pos hw] at hw'
      by_cases hk : k < ts.length
      · rw [List.getElem?_append_left hk] at ht'
        rw [List.getElem?_append_left (by omega)] at hw'
        obtain ⟨q1, a', qa, q2, q3⟩ := hT k t' w' ht' hw'
        refine ⟨q1, a', qa, ?_, ?_⟩
        · rw [upd_ne q1]; exact s37 _ _ q2
        · rw [upd_ne qa]; exact s37 _ _ q3
      · rw [List.getElem?_append_right (by omega)] at ht' hw'
        have hk2 : k - ts.length = 0 := by
          have h2 := (List.getElem?_eq_some_iff.mp ht').1
          rw [List.length_singleton] at h2
          omega
        rw [hk2] at ht'
        rw [show k - (rdW bs i).length = 0 by omega] at hw'
        cases ht'
        cases hw'
        refine ⟨tp, a, ap, by rw [upd_ne tp]; exact ht7, ?_⟩
        rw [upd_ne ap, s7 _ _ (s6 _ _ (s5 _ _ ha))]
    · have hw2 : ¬ plc i bs (rdT i bs).length = bs.length := fun z => hw (by unfold whole; exact decide_eq_true z)
      refine iteEF (by omega) ?_
      refine ⟨_, _, _, ts, rfl, s3.trans s36, s36 _ _ hp3, by rw [hl3, rdW_next, if_neg hw, List.append_nil], fun k t' w' ht' hw' => ?_⟩
      rw [rdW_next, if_neg hw, List.append_nil] at hw'
      obtain ⟨q1, a', qa, q2, q3⟩ := hT k t' w' ht' hw'
      exact ⟨q1, a', qa, s36 _ _ q2, s36 _ _ q3⟩
  · rintro σ H3 ⟨v3, v4, v5, ts, rfl, s3, hp3, hl3, hT⟩
    refine ⟨_, rfl, _, rfl, bs, n, rfl, hz, hn, fun H4 p4 ts4 s4 np4 hp4 hl4 hT4 => ?_⟩
    refine ⟨_, rfl, .list ((rdW bs (n + 1)).map (wfD bs)), .list ((rdW bs (n + 1)).map (wfD bs)), .lst (.inl (.inl hp4)) (wfD_dp hl4 hT4), .lst (.inl (.inl (s4 _ _ hp3))) (wfD_dp hl3 fun k t w' ht hw => ?_), wfD_shaped _ _, wfD_shaped _ _, ?_⟩
    · obtain ⟨_, a', _, q2, q3⟩ := hT k t w' ht hw
      exact ⟨a', s4 _ _ q2, s4 _ _ q3⟩
    · rw [wfD_eqv]
      exact q _ (s3.trans s4)
end
end My

namespace My
open PySem PySem.Spec PyProof.Rows L2 Pre
theorem fm_noneR {β : Type} (n : Nat) : ((List.range n).map fun _ => (none : Option β)).filterMap id = [] := fm_noneN _
local macro_rules | `(tactic| walk_at "go") => `(tactic| repeat (first | (with_reducible first | refine iteT ?_ | refine iteF ?_ | refine iteNtt ?_ | refine iteNff ?_ | refine iteET (by omega) ?_ | refine iteEF (by omega) ?_ | refine iteENT (by omega) ?_ | refine iteENF (by omega) ?_ | refine iteDT (by omega) ?_ | refine iteDF (by omega) ?_ | refine iteNT (by omega) ?_ | refine iteNF (by omega) ?_) | refine ⟨_, rfl, ?_⟩ | refine ⟨_, _, rfl, rfl, ?_⟩ | refine ⟨_, _, rfl, ?_⟩ | refine ⟨rfl, ?_⟩ | refine .inl ⟨_, rfl, ?_⟩ | refine .inr ⟨_, rfl, ?_⟩))
local macro_rules | `(tactic| walk_at "b") => `(tactic| try dsimp (config := { proj := false, iota := false, eta := false, zeta := false }) only)
section
variable {P : Program} {w : World} {K : PySem.W.Frag} {mg : Str → Option Value} {base : Heap}
def sp_law_both_right : Sp := fun vs H Q _ => ∃ (wd wo : Nat), vs = [.int wd, .int wo] ∧ wd ≤ 30 ∧ wo ≤ 30 ∧ ∀ H', Same H H' → Q (.bl true) H'
theorem G_law_both_right (T : Top K mg) : FnOk P w K mg base CX0 5 T.f_law_both_right T.fd_law_both_right ["_law_one", "_law_other"] sp_law_both_right := by
  refine T.F_law_both_right.ok sc_law_both_right (fun vs H Q E h => by obtain ⟨wd, wo, rfl, _⟩ := h; rfl) (fun cdv A outer s H vs Q E hr h => ?_)
  obtain ⟨wd, wo, rfl, hw, hv, q⟩ := h
  refine ⟨_, PSs.nox (pss_cons (ps_asg (pe_call (G_both_read T) (hr.mono (by decide)) (by rfl) T.g_both_read T.F_both_read.kp T.b_both_read .nil pass0 (pa_cons (pv 0) (pa_cons (pv 1) pa_nil))) (k_pgT K rfl (by rfl) (pgs_cons (pg_name (i := 3) sc_law_both_right.nd rfl (by first | exact Or.inl rfl | exact Or.inr rfl)) (pgs_cons (pg_name (i := 4) sc_law_both_right.nd rfl (by first | exact Or.inl rfl | exact Or.inr rfl)) (pgs_cons (pg_name (i := 5) sc_law_both_right.nd rfl (by first | exact Or.inl rfl | exact Or.inr rfl)) pgs_nil)))))
  (pss_cons (ps_if (PW.pt (pw_or (pt_cmpR op_eq (pv 3) pe_str (nomark _)) (pw_or1 (pt_cmpR (k_neD K rfl hr.units) (pe_lc (own := [("_law_sign", 8)]) (g := gName 8) (by rfl) sc_law_both_right.nd (pi_str (pv 3)) (blkOk_by (own := [("_law_sign", 8)]) (N := N_law_both_right) (sc := defScope s_law_both_right) (by decide +kernel)) (fun _ _ _ _ _ => (pg_name (i := 8) sc_law_both_right.nd rfl (by first | exact Or.inl rfl | exact Or.inr rfl))) (fun _ _ _ _ _ => (pts_one (pt_cmpR op_notIn_sign (pv 8) pe_str (by rfl)))) (fun _ _ _ _ _ => (pv 8))) (pe_lst pa_nil) (nomark _)))))
    (pss_one (ps_ret pe_bl))
    pss_nil)
  (pss_cons (ps_if (PW.pt (pw_or (pt_cmpR op_ne (pe_call (G_law_text T) (hr.mono (by decide)) (by rfl) T.g_law_text T.F_law_text.kp T.b_law_text .nil pass0 (pa_cons (pv 4) (pa_cons (pv 0) pa_nil))) (pv 3) (nomark _)) (pw_or (pt_cmpR op_ne (pe_call (G_law_text T) (hr.mono (by decide)) (by rfl) T.g_law_text T.F_law_text.kp T.b_law_text .nil pass0 (pa_cons (pv 5) (pa_cons (pv 1) pa_nil))) (pv 3) (nomark _)) (pw_or1 (pt_cmpR op_gt (pe_callB call_len_str (by rfl) T.n_len (by decide +kernel) (pa_cons (pv 3) pa_nil)) (pe_op op_mul (pe_op op_add (pv 0) pe_int) (pe_op op_add (pv 1) pe_int)) (nomark _))))))
    (pss_one (ps_ret pe_bl))
    pss_nil)
  (pss_cons (ps_for PassesOwn.never rfl (pi_range2 (by rfl) T.n_range (pa_cons pe_int (pa_cons (pe_op op_add (pe_callB (call_min2 rfl) (by rfl) T.n_min (by decide +kernel) (pa_cons (pe_callB call_len_str (by rfl) T.n_len (by decide +kernel) (pa_cons (pv 3) pa_nil)) (pa_cons pe_int pa_nil))) pe_int) pa_nil))) (pg_name (i := 2) sc_law_both_right.nd rfl (by first | exact Or.inl rfl | exact Or.inr rfl))
    (pss_cons (ps_setLc (i := 6) (own := [("_law_text_here", 7)]) (g := gName 7) (by rfl) sc_law_both_right.nd rfl rfl (sw_true rfl rfl rfl (by decide +kernel)) (k_piL K rfl (pe_call (G_law_texts T) (hr.mono (by decide)) (by rfl) T.g_law_texts T.F_law_texts.kp T.b_law_texts .nil pass0 (pa_cons (pv 2) pa_nil))) (blkOk_by (own := [("_law_text_here", 7)]) (N := N_law_both_right) (sc := defScope s_law_both_right) (by decide +kernel)) (fun _ _ _ _ _ => (pg_name (i := 7) sc_law_both_right.nd rfl (by first | exact Or.inl rfl | exact Or.inr rfl))) (fun _ _ _ _ _ => (pts_one (PW.pt (pw_and (pt_val (pe_call (G_law_whole T) (hr.mono (by decide)) (by rfl) T.g_law_whole T.F_law_whole.kp T.b_law_whole .nil pass0 (pa_cons (pv 7) (pa_cons (pv 0) pa_nil)))) (pw_and1 (pt_val (pe_call (G_law_whole T) (hr.mono (by decide)) (by rfl) T.g_law_whole T.F_law_whole.kp T.b_law_whole .nil pass0 (pa_cons (pv 7) (pa_cons (pv 1) pa_nil))))))))) (fun _ _ _ _ _ => (pv 7)))
  (pss_one (ps_if (PW.pt (pw_or (PW.pt (pw_and (pt_cmpR op_lt (pv 2) (pe_callB call_len_str (by rfl) T.n_len (by decide +kernel) (pa_cons (pv 3) pa_nil)) (nomark _)) (pw_and1 (pt_cmpR (k_neD K rfl hr.units) (pv 6) (pe_lst pa_nil) (nomark _))))) (pw_or1 (PW.pt (pw_and (pt_cmpR op_eq (pv 2) (pe_callB call_len_str (by rfl) T.n_len (by decide +kernel) (pa_cons (pv 3) pa_nil)) (nomark _)) (pw_and1 (pt_cmpR (k_neD K rfl hr.units) (pe_slice (k_slL K rfl) (pv 6) po_none (po_some pe_int)) (pe_lst (pa_cons (pv 3) pa_nil)) (nomark _))))))))
    (pss_one (ps_ret pe_bl))
    pss_nil))))
  (pss_one (ps_ret pe_bl)))))), ?_⟩
  refine ⟨_, rfl, _, rfl, wd, wo, rfl, hw, hv, fun H1 t a b T hB s1 nt na nb ht ha hb => ?_⟩
  refine ⟨t, _, rfl, .inl (.inl ht), rfl, _, _, rfl, _, _, rfl, _, _, rfl, rfl, ?_⟩
  have hTl := hB.len
  have hsz := backN_size hw hv
  have hT961 : T.length ≤ 961 := by omega
  refine ⟨_, rfl, rfl, _, rfl, ?_⟩
  rw [str_nil, dec_bS]
  refine iteDF hB.1 ?_
  refine ⟨_, rfl, _, rfl, fun D nD => ?_⟩
  refine lc_dW walk_str (Has.nil (H := H1)) ((List.range T.length).map fun _ => none) nD (by rw [List.length_map, List.length_range, bS_size]) (by rw [bS_size]; exact small4 (by omega)) (fun _ _ => trivial) ?_ ?_
  · rintro i o H0 x H' hi ho s0 hS ⟨rfl, c, hc, rfl⟩ Qt qt
    obtain ⟨bb, hbb, ec⟩ := bS_at hc
    rw [ec]
    refine ⟨rfl, ?_⟩
    rw [List.getElem?_map] at ho
    obtain ⟨_, _, rfl⟩ := Option.map_eq_some_iff.mp ho
    refine ⟨_, rfl, sgn bb, _, rfl, rfl, _, rfl, ?_⟩
    rw [sign_01]
    exact iteF (qt none _ (Same.refl _) trivial)
  · intro H2 s2 hD hd
    rw [fm_noneR] at hd
    rw [rs_nil] at hd
    obtain ⟨D', xs, e, hD2, hx⟩ := hd.listE
    cases e
    cases hx
    refine ⟨Nat.zero_le _, fun p np => ?_⟩
    obtain ⟨H3, e3, s3, hp3⟩ := fresh (.lst ([] : List V)) np
    rw [e3]
    refine ne_lst (ns := []) (.inl (.inl (s3 _ _ hD2))) (.inl (.inl hp3)) ⟨_, rfl, iteF ?_⟩
    have s13 := s2.trans s3
    obtain ⟨_, hw1, hw2, _⟩ := id hB
    refine ⟨_, rfl, _, rfl, a, _, wd, rfl, .inl (.inl (s13 _ _ ha)), whole_few hw1 hw hT961, ?_⟩
    rw [tx_whole hw1]
    refine ⟨_, rfl, rfl, _, rfl, iteNF rfl ?_⟩
    refine ⟨_, rfl, _, rfl, b, _, wo, rfl, .inl (.inl (s13 _ _ hb)), whole_few hw2 hv hT961, ?_⟩
    rw [tx_whole hw2]
    refine ⟨_, rfl, rfl, _, rfl, iteNF rfl ?_⟩
    refine ⟨_, rfl, _, rfl, by rw [bS_len]; exact Nat.le_of_lt (small4 (by omega)), _, rfl, _, _, rfl, rfl, _, rfl, _, _, rfl, rfl, _, _, rfl, rfl, .inl ⟨by omega, by omega⟩, _, _, rfl, rfl, _, rfl, ?_⟩
    rw [bS_len]
    have hmul : ((wd : Int) + 1) * ((wo : Int) + 1) = (((wd + 1) * (wo + 1) : Nat) : Int) := by rw [Int.natCast_mul]; rfl
    refine iteDF (by rw [hmul]; omega) ?_
    -- sizes
    refine ⟨_, rfl, _, rfl, by rw [bS_len]; exact Nat.le_of_lt (small4 (by omega)), ?_⟩
    refine ⟨_, _, rfl, _, _, rfl, rfl, ?_⟩
    rw [bS_len]
    have hM : (if (9 : Int) < ((T.length : Nat) : Int) then (9 : Int) else ((T.length : Nat) : Int)) = ((min T.length 9 : Nat) : Int) := by split <;> omega
    rw [hM]
    refine ⟨_, _, rfl, by omega, ?_⟩
    rw [show (((min T.length 9 : Nat) : Int) + 1 - 1).toNat = min T.length 9 by omega]
    refine for_range (lo := 1) (n := min T.length 9) (fun i σ H4 => ∃ (v2 v6 v7 v8 : Option V), σ = [some (.int wd), some (.int wo), v2, some (.str (bS T)), some (.ref a), some (.ref b), v6, v7, v8] ∧ Same H H4) ⟨none, none, none, none, rfl, s1.trans s13⟩ ?_ ?_
    · rintro i σ H4 hi ⟨v2, v6, v7, v8, rfl, s4⟩
      rw [show (1 + (i : Int)) = ((i + 1 : Nat) : Int) by omega]
      refine ⟨_, rfl, i + 1, rfl, by omega, fun H5 p xs s5 np5 hp5 hl5 hin hpw => ?_⟩
      have h512 : 2 ^ (i + 1) ≤ 512 := Nat.pow_le_pow_right (by decide) (by omega : i + 1 ≤ 9)
      refine ⟨p, rfl, ⟨_, .inl (.inl hp5)⟩, fun E nE => ?_⟩
      refine lc_selL (K := K) (xs := xs.map fun x => V.str (bS x)) (xs.map fun x => if (whole wd x && whole wo x) = true then some (V.str (bS x)) else none) nE (.inl (.inl hp5)) (by rw [List.length_map, List.length_map]) (by rw [List.length_map]; exact small4 (by omega)) (fun x => rfl) ?_ ?_
      · intro k x o H' hx ho s Qt qt
        rw [List.getElem?_map] at hx ho
        obtain ⟨z, hz, rfl⟩ := Option.map_eq_some_iff.mp hx
        rw [hz] at ho
        cases ho
        have hzl := (hin z).mp (List.mem_of_getElem? hz)
        refine ⟨_, rfl, _, rfl, z, wd, rfl, by omega, by omega, fun H6 s6 => ⟨_, rfl, ?_⟩⟩
        cases h1 : whole wd z with
        | false =>
          refine iteF ?_
          have := qt _ s6
          dsimp only at this
          rw [h1] at this
          exact this
        | true =>
          refine iteT ⟨_, rfl, _, rfl, z, wo, rfl, by omega, by omega, fun H7 s7 => ⟨_, rfl, ?_⟩⟩
          have := qt _ (s6.trans s7)
          dsimp only at this
          rw [h1] at this
          cases h2 : whole wo z with
          | false => rw [h2] at this; exact iteF this
          | true => rw [h2] at this; exact iteT ⟨_, rfl, this⟩
      · intro H6 s6 hE
        rw [filter_sel] at hE
        have s46 : Same H H6 := s4.trans (s5.trans s6)
        refine ⟨_, rfl, _, rfl, _, rfl, by rw [bS_len]; exact Nat.le_of_lt (small4 (by omega)), _, _, rfl, rfl, _, rfl, ?_⟩
        rw [bS_len]
        by_cases hc : i + 1 < T.length
        · refine iteDT (by omega) ?_
          rw [none_both hB (by omega) hc hin] at hE
          refine ⟨_, rfl, Nat.zero_le _, fun p7 np7 => ?_⟩
          obtain ⟨H7, e7, s7, hp7⟩ := fresh (.lst ([] : List V)) np7
          rw [e7]
          refine ne_lst (ns := []) (.inl (.inl (s7 _ _ hE))) (.inl (.inl hp7)) ⟨_, rfl, iteF ?_⟩
          refine ⟨_, rfl, _, rfl, _, rfl, by rw [bS_len]; exact Nat.le_of_lt (small4 (by omega)), rfl, _, rfl, ?_⟩
          rw [bS_len]
          refine iteEF (by omega) (iteF ?_)
          exact ⟨_, _, _, _, rfl, s46.trans s7⟩
        · have hl : i + 1 = T.length := by omega
          refine iteDF (by omega) (iteF ?_)
          rw [hl] at hin
          obtain ⟨r, er⟩ := first_both hB hin hpw
          rw [er] at hE
          refine ⟨_, rfl, _, rfl, _, rfl, by rw [bS_len]; exact Nat.le_of_lt (small4 (by omega)), rfl, _, rfl, ?_⟩
          rw [bS_len]
          refine iteET (by omega) ?_
          refine ⟨_, rfl, _, rfl, E, _, rfl, .inl (.inl hE), fun p7 np7 => ?_⟩
          rw [show cutV ((T :: r).map fun x => V.str (bS x)) none (some 1) = [V.str (bS T)] from cut_take _ 1]
          obtain ⟨H7, e7, s7, hp7⟩ := fresh (.lst [V.str (bS T)]) np7
          rw [e7]
          refine ⟨_, rfl, (show 1 ≤ sizeLine by decide), fun p8 np8 => ?_⟩
          obtain ⟨H8, e8, s8, hp8⟩ := fresh (.lst [V.str (bS T)]) np8
          rw [e8]
          refine ne_one (s8 _ _ hp7) hp8 ⟨_, rfl, iteF ?_⟩
          exact ⟨_, _, _, _, rfl, s46.trans (s7.trans s8)⟩
    · rintro σ H4 ⟨v2, v6, v7, v8, rfl, s4⟩
      exact q _ s4
end
end My

namespace My
open PySem PySem.Spec PyProof.Rows L2 Pre
theorem inV_int (x : Int) : ∀ l : List Int, inV (.int x) (l.map V.int) = decide (x ∈ l)
  | [] => by simp [inV]
  | y :: l => by
    have ih := inV_int x l
    unfold inV at ih ⊢
    rw [List.map_cons, List.any_cons, ih]
    by_cases h : y = x
    · subst h; simp [eqV]
    · have h2 : ¬ x = y := fun z => h z.symm
      simp [eqV, h, h2]
theorem in_nI (x : Nat) (l : List Nat) : (if false = true then !inV (.int (x : Int)) ((nI l).map V.int) else inV (.int (x : Int)) ((nI l).map V.int)) = decide (x ∈ l) := by
  rw [if_neg (by decide), inV_int]
  by_cases h : x ∈ l
  · rw [decide_eq_true h, decide_eq_true (nI_mem.mpr h)]
  · rw [decide_eq_false h, decide_eq_false (fun z => h (nI_mem.mp z))]
theorem flat_nI (l : List Nat) : ((nI l).map V.int).all flatV = true := by
  rw [List.all_map]
  exact List.all_eq_true.mpr fun _ _ => rfl
theorem str_bit (b : Bool) : ((toString (1 - (b.toNat : Int)) : String) : Str) = bS [!b] := by cases b <;> decide +kernel
theorem turn_drop {T : List Bool} {i e : Nat} {b : Bool} (hi : i < T.length) (h : i < e) : (turnAt T i b).drop e = T.drop e := by
  unfold turnAt
  have hl : (T.take i ++ [!b]).length = i + 1 := by rw [List.length_append, List.length_take, List.length_singleton]; omega
  obtain ⟨k, rfl⟩ : ∃ k, e = i + 1 + k := ⟨e - (i + 1), by omega⟩
  rw [List.drop_append, hl, List.drop_of_length_le (by rw [hl]; omega), List.nil_append, List.drop_drop]
  congr 1
  omega
theorem str_lay (s : List Bool) : (PyData.str (bS s)).canLay0 = true := by rw [PyData.canLay0, bS_ok]
/-- a list of counts, a text, a count or None -/
def tripD (ns : List Int) (s : List Bool) (o : Option Nat) : PyData := .tuple [.list (ns.map PyData.int), .str (bS s), match o with | some k => .int (k : Int) | none => .none]
theorem tripD_shaped (ns : List Int) (s : List Bool) (o : Option Nat) : SeqAt.shaped (tripD ns s o) = true := by
  unfold tripD SeqAt.shaped
  rw [Bool.and_eq_true]
  refine ⟨?_, decide_eq_true ?_⟩
  · rw [PyData.canLay0, PyData.canLayAll0, PyData.canLayAll0, PyData.canLayAll0, PyData.canLayAll0, list_lay]
    cases o
    all_goals
      show (true && ((PyData.str (bS s)).canLay0 && (_ && true))) = true
      rw [str_lay]
      rfl
  · rw [PyData.depth, PyData.depthAll, PyData.depthAll, PyData.depthAll, PyData.depthAll, list_depth]
    cases o
    all_goals
      show max 1 (max 0 (max 0 0)) + 1 ≤ 64
      decide
theorem tripD_eqv (ns : List Int) (s : List Bool) (o : Option Nat) : PyData.eqv (tripD ns s o) (tripD ns s o) = true := by
  unfold tripD
  rw [PyData.eqv, PyData.eqvAll, PyData.eqvAll, PyData.eqvAll, list_eqv, decide_eq_true rfl]
  cases o <;> simp [PyData.eqv, PyData.eqvAll]
theorem tripD_dp {K : PySem.W.Frag} {H : Hp} {t a : Addr} {ns : List Int} {s : List Bool} {o : Option Nat} (ht : H t = some (.tup [.ref a, .str (bS s), optN o])) (ha : H a = some (.lst (ns.map V.int))) : Dp K H (.ref t) (tripD ns s o) := by
  refine .tup (.inl (.inl ht)) (.cons (.lst (.inl (.inl ha)) (Pre.dp_ints ns)) (.cons (.str _) (.cons ?_ .nil)))
  cases o with
  | none => exact .non
  | some k => exact .int _
theorem ne_trip {K : PySem.W.Frag} {H : Hp} {t u a b : Addr} {ns : List Int} {s : List Bool} {o : Option Nat} {Q : V → Hp → Prop} (ht : H t = some (.tup [.ref a, .str (bS s), optN o])) (ha : H a = some (.lst (ns.map V.int))) (hu : H u = some (.tup [.ref b, .str (bS s), optN o])) (hb : H b = some (.lst (ns.map V.int))) (q : Q (.bl false) H) : rNeD K (.ref t) (.ref u) H Q := by
  refine ⟨_, _, tripD_dp ht ha, tripD_dp hu hb, tripD_shaped _ _ _, tripD_shaped _ _ _, ?_⟩
  rw [tripD_eqv]
  exact q
local macro_rules | `(tactic| walk_at "go") => `(tactic| repeat (first | (with_reducible first | refine iteT ?_ | refine iteF ?_ | refine iteNtt ?_ | refine iteNff ?_ | refine iteET (by omega) ?_ | refine iteEF (by omega) ?_ | refine iteENT (by omega) ?_ | refine iteENF (by omega) ?_ | refine iteDT (by omega) ?_ | refine iteDF (by omega) ?_ | refine iteNT (by omega) ?_ | refine iteNF (by omega) ?_) | refine ⟨_, rfl, ?_⟩ | refine ⟨_, _, rfl, rfl, ?_⟩ | refine ⟨_, _, rfl, ?_⟩ | refine ⟨rfl, ?_⟩ | refine .inl ⟨_, rfl, ?_⟩ | refine .inr ⟨_, rfl, ?_⟩))
local macro_rules | `(tactic| walk_at "b") => `(tactic| try dsimp (config := { proj := false, iota := false, eta := false, zeta := false }) only)
section
variable {P : Program} {w : World} {K : PySem.W.Frag} {mg : Str → Option Value} {base : Heap}
def sp_law_turned_right : Sp := fun vs H Q _ => ∃ (g a : Addr) (n : Nat) (fs : List Nat) (wd : Nat), vs = [.ref g, .ref a, .int wd] ∧ GenAt H g n ∧ n ≤ 10 ^ 10 ∧ H a = some (.lst ((nI fs).map V.int)) ∧ a ≠ g ∧ FoldsOk fs wd ∧
  ∀ H', But g H H' → GenAt H' g (n + 300) → Q (.bl true) H'
theorem G_law_turned_right (T : Top K mg) : FnOk P w K mg base CX0 5 T.f_law_turned_right T.fd_law_turned_right ["_law_generator_here", "_law_folds", "_law_width"] sp_law_turned_right := by
  refine T.F_law_turned_right.ok sc_law_turned_right (fun vs H Q E h => by obtain ⟨g, a, n, fs, wd, rfl, _⟩ := h; rfl) (fun cdv A outer s H vs Q E hr h => ?_)
  obtain ⟨g, a, n, fs, wd, rfl, hg, hn, hA, ag, hF, q⟩ := h
  refine ⟨_, PSs.nox (pss_cons (ps_set (i := 3) sc_law_turned_right.nd rfl (by first | exact Or.inl rfl | exact Or.inr rfl) (pe_call (G_law_text T) (hr.mono (by decide)) (by rfl) T.g_law_text T.F_law_text.kp T.b_law_text .nil pass0 (pa_cons (pv 1) (pa_cons (pv 2) pa_nil))))
  (pss_cons (ps_for PassesOwn.never rfl (pi_range1 (by rfl) T.n_range (pa_cons (pe_callB (call_min2 rfl) (by rfl) T.n_min (by decide +kernel) (pa_cons pe_int (pa_cons (pe_callB call_len_str (by rfl) T.n_len (by decide +kernel) (pa_cons (pv 3) pa_nil)) pa_nil))) pa_nil)) (pg_name (i := 4) sc_law_turned_right.nd rfl (by first | exact Or.inl rfl | exact Or.inr rfl))
    (pss_cons (ps_set (i := 5) sc_law_turned_right.nd rfl (by first | exact Or.inl rfl | exact Or.inr rfl) (pe_call (G_law_random T) (hr.mono (by decide)) (by rfl) T.g_law_random T.F_law_random.kp T.b_law_random .nil pass0 (pa_cons (pv 0) (pa_cons (pe_callB call_len_str (by rfl) T.n_len (by decide +kernel) (pa_cons (pv 3) pa_nil)) pa_nil))))
  (pss_cons (ps_set (i := 6) sc_law_turned_right.nd rfl (by first | exact Or.inl rfl | exact Or.inr rfl) (pe_op op_add_str (pe_op op_add_str (pe_slice sl_str (pv 3) po_none (po_some (pv 5))) (pe_callTy call_str_int (by rfl) T.n_str (by decide +kernel) (pa_cons (pe_op op_sub pe_int (pe_callTy call_int_str (by rfl) T.n_int (by decide +kernel) (pa_cons (pe_ix ix_str (pv 3) (pv 5) (fun _ _ => rfl)) pa_nil))) pa_nil))) (pe_slice sl_str (pv 3) (po_some (pe_op op_add (pv 5) pe_int)) po_none)))
  (pss_cons (ps_asg (pe_call (G_law_read T) (hr.mono (by decide)) (by rfl) T.g_law_read T.F_law_read.kp T.b_law_read .nil pass0 (pa_cons (pv 6) (pa_cons (pv 2) pa_nil))) (k_pgT K rfl (by rfl) (pgs_cons (pg_name (i := 9) sc_law_turned_right.nd rfl (by first | exact Or.inl rfl | exact Or.inr rfl)) (pgs_cons (pg_name (i := 10) sc_law_turned_right.nd rfl (by first | exact Or.inl rfl | exact Or.inr rfl)) pgs_nil))))
  (pss_cons (ps_setLc (i := 7) (own := [("_law_end", 11)]) (g := gName 11) (by rfl) sc_law_turned_right.nd rfl rfl (sw_true rfl rfl rfl (by decide +kernel)) (k_piL K rfl (pv 10)) (blkOk_by (own := [("_law_end", 11)]) (N := N_law_turned_right) (sc := defScope s_law_turned_right) (by decide +kernel)) (fun _ _ _ _ _ => (pg_name (i := 11) sc_law_turned_right.nd rfl (by first | exact Or.inl rfl | exact Or.inr rfl))) (fun _ _ _ _ _ => (pts_one (PW.pt (pw_and (pt_cmpR op_gt (pv 11) (pv 5) (nomark _)) (pw_and1 (pt_cmpR (k_in K rfl) (pv 11) (pe_ix (k_ixT K rfl) (pe_call (G_law_read T) (hr.mono (by decide)) (by rfl) T.g_law_read T.F_law_read.kp T.b_law_read .nil pass0 (pa_cons (pv 3) (pa_cons (pv 2) pa_nil))) pe_int (fun _ _ => rfl)) (by rfl))))))) (fun _ _ _ _ _ => (pv 11)))
  (pss_cons (ps_set (i := 8) sc_law_turned_right.nd rfl (by first | exact Or.inl rfl | exact Or.inr rfl) (pe_tup (pa_cons (pv 9) (pa_cons (pe_slice sl_str (pv 6) (po_some (pe_ix (k_ixL K rfl) (pe_op op_cat (pe_lst (pa_cons pe_int pa_nil)) (pv 10)) (pe_un un_neg pe_int) (fun _ _ => rfl))) po_none) (pa_cons (pe_ifExp (pt_cmpR (k_neD K rfl hr.units) (pv 7) (pe_lst pa_nil) (nomark _)) (pe_ix (k_ixL K rfl) (pv 7) pe_int (fun _ _ => rfl)) pe_non) pa_nil)))))
  (pss_cons (ps_if (pt_cmpR (k_neD K rfl hr.units) (pe_call (G_turned_reading T) (hr.mono (by decide)) (by rfl) T.g_turned_reading T.F_turned_reading.kp T.b_turned_reading .nil pass0 (pa_cons (pv 1) (pa_cons (pv 2) (pa_cons (pv 5) pa_nil)))) (pv 8) (nomark _))
    (pss_one (ps_ret pe_bl))
    pss_nil)
  (pss_one (ps_if (PW.pt (pw_and (pt_cmpR (k_neD K rfl hr.units) (pv 7) (pe_lst pa_nil) (nomark _)) (pw_and1 (pt_cmpR op_ne (pe_slice sl_str (pv 6) (po_some (pe_ix (k_ixL K rfl) (pv 7) pe_int (fun _ _ => rfl))) po_none) (pe_slice sl_str (pv 3) (po_some (pe_ix (k_ixL K rfl) (pv 7) pe_int (fun _ _ => rfl))) po_none) (nomark _)))))
    (pss_one (ps_ret pe_bl))
    pss_nil)))))))))
  (pss_one (ps_ret pe_bl)))), ?_⟩
  obtain ⟨hFew, hTl⟩ := hF.few
  obtain ⟨hf6, hw4, hf30⟩ := id hF
  refine ⟨_, rfl, _, rfl, a, fs, wd, rfl, .inl (.inl hA), hFew, ?_⟩
  generalize eT : txF wd fs = T at *
  refine ⟨_, rfl, _, rfl, by rw [bS_len]; exact Nat.le_of_lt (small4 (by omega)), ?_⟩
  refine ⟨_, _, rfl, ?_⟩
  rw [bS_len]
  have hM : (if ((T.length : Nat) : Int) < (3 : Int) then ((T.length : Nat) : Int) else (3 : Int)) = ((min 3 T.length : Nat) : Int) := by split <;> omega
  rw [hM]
  refine ⟨_, rfl, by omega, by omega, ?_⟩
  rw [Int.toNat_natCast]
  refine for_range (lo := 0) (n := min 3 T.length) (fun k σ H1 => ∃ (v4 v5 v6 v7 v8 v9 v10 v11 : Option V), σ = [some (.ref g), some (.ref a), some (.int wd), some (.str (bS T)), v4, v5, v6, v7, v8, v9, v10, v11] ∧ But g H H1 ∧ GenAt H1 g (n + 100 * k))
    ⟨none, none, none, none, none, none, none, none, rfl, But.refl, hg⟩ ?_ ?_
  · rintro k σ H1 hk ⟨v4, v5, v6, v7, v8, v9, v10, v11, rfl, b1, hg1⟩
    refine ⟨_, rfl, _, rfl, _, rfl, by rw [bS_len]; exact Nat.le_of_lt (small4 (by omega)), g, _, _, rfl, hg1, by omega, by rw [bS_len]; omega, by rw [bS_len]; omega, fun d H2 d0 d1 hg2 b2 => ?_⟩
    rw [bS_len] at d1
    obtain ⟨i, rfl⟩ : ∃ i : Nat, d = i := ⟨d.toNat, by omega⟩
    have hi : i < T.length := by omega
    have hb := List.getElem?_eq_getElem hi
    generalize T[i] = b at hb
    have bg2 := b1.trans b2
    have hA2 := bg2 _ _ ag hA
    refine ⟨_, rfl, _, rfl, _, rfl, _, rfl, by rw [bS_len]; exact Nat.le_of_lt (small4 (by omega)), ?_⟩
    rw [cut_bSt]
    refine ⟨_, rfl, _, rfl, _, _, sgn b, rfl, rfl, by rw [bS_len]; exact Nat.le_of_lt (small4 (by omega)), bS_atI hb, ?_⟩
    rw [bS_one]
    refine ⟨_, _, rfl, bit_int' b, by rw [bS_len]; show 1 ≤ 640; decide, _, _, rfl, rfl, _, rfl, by cases b <;> decide, ?_⟩
    rw [str_bit]
    refine ⟨_, _, rfl, rfl, by rw [bS_len, bS_len]; exact Nat.le_of_lt (small4 (by rw [List.length_take]; simp; omega)), ?_⟩
    rw [bS_app]
    refine ⟨_, rfl, _, rfl, _, _, rfl, rfl, _, rfl, _, rfl, by rw [bS_len]; exact Nat.le_of_lt (small4 (by omega)), ?_⟩
    rw [show ((i : Int) + 1) = ((i + 1 : Nat) : Int) by omega, cut_bSd]
    have hsl := turn_len hi b
    have hdr := fun e (he : i < e) => turn_drop (b := b) hi he
    refine ⟨_, _, rfl, rfl, by rw [bS_len, bS_len]; unfold turnAt at hsl; rw [List.length_append] at hsl; exact Nat.le_of_lt (small4 (by omega)), ?_⟩
    rw [bS_app]
    rw [show List.take i T ++ [!b] ++ List.drop (i + 1) T = turnAt T i b from rfl]
    generalize eS : turnAt T i b = S at *
    have hSl := rdT_len wd S
    have hTr := rdT_len wd T
    refine ⟨_, rfl, _, rfl, S, wd, rfl, by omega, by omega, fun H3 t x y s3 nt nx ny xy ht hx hy => ?_⟩
    refine ⟨t, _, rfl, .inl (.inl ht), rfl, _, _, rfl, _, _, rfl, rfl, ?_⟩
    have hyS : SqL K H3 y ((nI (endsN wd S)).map V.int) := .inl (.inl hy)
    refine ⟨_, rfl, y, rfl, ⟨_, hyS⟩, fun D nD => ?_⟩
    refine lc_selL (K := K) (xs := (nI (endsN wd S)).map V.int) ((endsN wd S).map fun e => if i < e ∧ e ∈ endsN wd T then some (V.int (e : Int)) else none) nD hyS (by rw [nI_len, List.length_map]) (by rw [nI_len, endsN_len]; exact small4 (by omega)) (fun x => rfl) ?_ ?_
    · intro k' x' o H' hx' ho s Qt qt
      obtain ⟨e, he, rfl⟩ := nI_at hx'
      rw [List.getElem?_map, he] at ho
      cases ho
      refine ⟨_, rfl, _, rfl, _, _, rfl, rfl, _, rfl, ?_⟩
      by_cases h1 : i < e
      · refine iteDT (by omega) ⟨_, rfl, _, rfl, _, rfl, T, wd, rfl, by omega, by omega, fun H4 t4 x4 y4 s4 nt4 nx4 ny4 xy4 ht4 hx4 hy4 => ?_⟩
        refine ⟨t4, _, 1, _, rfl, rfl, .inl (.inl ht4), rfl, ?_⟩
        refine ⟨y4, _, rfl, .inl (.inl (.inl hy4)), rfl, flat_nI _, _, rfl, ?_⟩
        rw [in_nI]
        by_cases h2 : e ∈ endsN wd T
        · refine iteDT h2 ?_
          have := qt _ s4
          dsimp only at this
          rw [if_pos ⟨h1, h2⟩] at this
          exact ⟨_, rfl, this⟩
        · refine iteDF h2 ?_
          have := qt _ s4
          dsimp only at this
          rw [if_neg (fun z => h2 z.2)] at this
          exact this
      · refine iteDF (by omega) (iteF ?_)
        have := qt _ (Same.refl _)
        dsimp only at this
        rw [if_neg (fun z => h1 z.1)] at this
        exact this
    · intro H6 s6 hD
      rw [bothN_sel] at hD
      have hU : ∀ u ∈ bothN wd T S i, i < u := fun u hu => by
        unfold bothN at hu
        have := (List.mem_filter.mp hu).2
        rw [Bool.and_eq_true] at this
        exact of_decide_eq_true this.1
      generalize eU : bothN wd T S i = U at *
      obtain ⟨r, er⟩ := ends_last wd S
      have hx6 := s6 _ _ hx
      refine ⟨_, rfl, _, rfl, (show 1 ≤ sizeLine by decide), fun p1 np1 => ?_⟩
      obtain ⟨H7, e7, s7, hp7⟩ := fresh (.lst [V.int 0]) np1
      rw [e7]
      refine ⟨_, rfl, p1, y, _, _, rfl, rfl, hp7, s7 _ _ (s6 _ _ hy), by rw [nI_len, endsN_len]; exact Nat.le_of_lt (small4 (by simp; omega)), fun p2 np2 => ?_⟩
      obtain ⟨H8, e8, s8, hp8⟩ := fresh (.lst ([V.int 0] ++ (nI (endsN wd S)).map V.int)) np2
      rw [e8]
      refine ⟨_, rfl, p2, _, _, .int ((plc wd S (rdT wd S).length : Nat) : Int), rfl, rfl, .inl (.inl hp8), lastI (l := 0 :: endsN wd S) er, _, rfl, _, rfl, by rw [bS_len]; exact Nat.le_of_lt (small4 (by omega)), ?_⟩
      rw [cut_bSd]
      have s68 := s7.trans s8
      have hD8 := s68 _ _ hD
      refine ⟨_, rfl, Nat.zero_le _, fun p3 np3 => ?_⟩
      obtain ⟨H9, e9, s9, hp9⟩ := fresh (.lst ([] : List V)) np3
      rw [e9]
      have hD9 := s9 _ _ hD8
      have hx9 := s9 _ _ (s68 _ _ hx6)
      have s29 := s3.trans (s6.trans (s68.trans s9))
      have bg9 := bg2.same s29
      have gg9 := hg2.same s29
      have hA9 := bg9 _ _ ag hA
      refine neD_lst (ns := nI U) (ms := []) (.inl (.inl hD9)) (.inl (.inl hp9)) ⟨_, rfl, ?_⟩
      rcases U with _ | ⟨u, U⟩
      all_goals first
      | refine iteNF rfl ⟨(show 3 ≤ sizeLine by decide), fun p4 np4 => ?_⟩
      | refine iteNT (by simp) ⟨_, rfl, D, _, 0, .int (u : Int), rfl, rfl, .inl (.inl hD9), atI_nat (j := 0) rfl, (show 3 ≤ sizeLine by decide), fun p4 np4 => ?_⟩
      all_goals
        obtain ⟨H10, e10, s10, hp10⟩ := fresh _ np4
        rw [e10]
        refine ⟨_, rfl, _, rfl, _, rfl, a, fs, wd, i, b, rfl, s10 _ _ hA9, hFew, by omega, by rw [eT]; omega, by rw [eT]; exact hb, fun H11 t11 l11 s11 nt11 nl11 ht11 hl11 => ?_⟩
        rw [eT, eS, eU] at ht11
        rw [eT, eS] at hl11
        refine ⟨_, rfl, ne_trip ht11 hl11 (s11 _ _ hp10) (s11 _ _ (s10 _ _ hx9)) ⟨_, rfl, iteF ?_⟩⟩
        have bg11 := bg9.same (s10.trans s11)
        have gg11 := (gg9.same (s10.trans s11)).mono (show n + 100 * k + 100 ≤ n + 100 * (k + 1) by omega)
        have hD11 := s11 _ _ (s10 _ _ hD9)
        refine ⟨_, rfl, Nat.zero_le _, fun p5 np5 => ?_⟩
        obtain ⟨H12, e12, s12, hp12⟩ := fresh (.lst ([] : List V)) np5
        rw [e12]
        have bg12 := bg11.same s12
        have gg12 := gg11.same s12
        have hD12 := s12 _ _ hD11
      · refine neD_lst (ns := []) (ms := []) (.inl (.inl hD12)) (.inl (.inl hp12)) ⟨_, rfl, iteNF rfl (iteF ?_)⟩
        exact ⟨_, _, _, _, _, _, _, _, rfl, bg12, gg12⟩
      · refine neD_lst (ns := nI (u :: U)) (ms := []) (.inl (.inl hD12)) (.inl (.inl hp12)) ⟨_, rfl, iteNT (by simp) ?_⟩
        refine ⟨_, rfl, _, rfl, D, _, 0, .int (u : Int), rfl, rfl, .inl (.inl hD12), atI_nat (j := 0) rfl, _, rfl, _, rfl, by rw [bS_len]; exact Nat.le_of_lt (small4 (by omega)), ?_⟩
        rw [cut_bSd]
        refine ⟨_, rfl, _, rfl, D, _, 0, .int (u : Int), rfl, rfl, .inl (.inl hD12), atI_nat (j := 0) rfl, _, rfl, _, rfl, by rw [bS_len]; exact Nat.le_of_lt (small4 (by omega)), ?_⟩
        rw [cut_bSd, hdr u (hU u List.mem_cons_self)]
        refine ⟨rfl, _, rfl, iteNF rfl ?_⟩
        exact ⟨_, _, _, _, _, _, _, _, rfl, bg12, gg12⟩
  · rintro σ H1 ⟨v4, v5, v6, v7, v8, v9, v10, v11, rfl, b1, hg1⟩
    exact q _ b1 (hg1.mono (by omega))
end
end My

namespace My
open PySem PySem.Spec PyProof.Rows L2 Pre
theorem both_is {w v n : Nat} {T : List Bool} (hB : IsBoth w v T) (h0 : 0 < n) (hz : (whole w (List.replicate n false) && whole v (List.replicate n false)) = true) (hno : ∀ m, m < n → 0 < m → ∀ x ∈ txs m, (whole w x && whole v x) = false) : T = List.replicate n false := by
  obtain ⟨h1, h2, h3, h4⟩ := hB
  rw [Bool.and_eq_true] at hz
  have hle := h4 (List.replicate n false) (by intro e; have := congrArg List.length e; rw [List.length_replicate] at this; simp at this; omega) hz.1 hz.2
  have hl := vF_len hle
  rw [List.length_replicate] at hl
  have hlt : ¬ T.length < n := fun z => by
    have := hno T.length z (Nat.pos_of_ne_zero fun e => h1 (List.eq_nil_of_length_eq_zero e)) T ((txs_mem _ T).mpr rfl)
    rw [h2, h3] at this
    cases this
  have el : T.length = n := by omega
  refine vF_inj (by rw [el, List.length_replicate]) ?_
  rw [vF_eq 1 T, vF_eq 1 (List.replicate n false), el, List.length_replicate] at hle
  have hz0 : ∀ k, vF 0 (List.replicate k false) = 0 := fun k => by
    induction k with
    | zero => rfl
    | succ k ih => rw [List.replicate_succ, vF_cons]; exact ih
  rw [hz0] at hle ⊢
  omega
theorem both01 {T : List Bool} (hB : IsBoth 0 1 T) : T = [false, false] := both_is (n := 2) hB (by decide) (by decide +kernel) (by decide +kernel)
theorem both12 {T : List Bool} (hB : IsBoth 1 2 T) : T = [false, false, false, false, false, false] := both_is (n := 6) hB (by decide) (by decide +kernel) (by decide +kernel)
def foundD : PyData := .list [.tuple [.str (bS [false, false]), .list ([0, 0].map PyData.int), .list ([0].map PyData.int)], .tuple [.str (bS [false, false, false, false, false, false]), .list ([0, 0, 0].map PyData.int), .list ([0, 0].map PyData.int)]]
def turnsD : PyData := .list [.tuple [.list ([3, 1].map PyData.int), .str (bS []), .int 5], .tuple [.list ([1, 3].map PyData.int), .str (bS []), .int 2]]
theorem foundD_ok : SeqAt.shaped foundD = true ∧ PyData.eqv foundD foundD = true := by decide +kernel
theorem turnsD_ok : SeqAt.shaped turnsD = true ∧ PyData.eqv turnsD turnsD = true := by decide +kernel
theorem str_00 : (("00" : String) : Str) = bS [false, false] := by decide +kernel
theorem str_000000 : (("000000" : String) : Str) = bS [false, false, false, false, false, false] := by decide +kernel
theorem tx03 : txF 1 [0, 3] = [false, false, true, false, true] := by decide +kernel
theorem few03 : Few 1 [0, 3] := ⟨by decide, by decide, by decide, by decide +kernel⟩
theorem t0 : ((rdT 1 (turnAt [false, false, true, false, true] 0 false)).map (·.1)) = [3, 1] ∧ (turnAt [false, false, true, false, true] 0 false).drop (plc 1 (turnAt [false, false, true, false, true] 0 false) (rdT 1 (turnAt [false, false, true, false, true] 0 false)).length) = [] ∧ (bothN 1 [false, false, true, false, true] (turnAt [false, false, true, false, true] 0 false) 0).head? = some 5 := by decide +kernel
theorem t1 : ((rdT 1 (turnAt [false, false, true, false, true] 1 false)).map (·.1)) = [1, 3] ∧ (turnAt [false, false, true, false, true] 1 false).drop (plc 1 (turnAt [false, false, true, false, true] 1 false) (rdT 1 (turnAt [false, false, true, false, true] 1 false)).length) = [] ∧ (bothN 1 [false, false, true, false, true] (turnAt [false, false, true, false, true] 1 false) 1).head? = some 2 := by decide +kernel
theorem rd2 : ((rdT 0 [false, false]).map (·.1)) = [0, 0] ∧ ((rdT 1 [false, false]).map (·.1)) = [0] := by decide +kernel
theorem rd6 : ((rdT 1 [false, false, false, false, false, false]).map (·.1)) = [0, 0, 0] ∧ ((rdT 2 [false, false, false, false, false, false]).map (·.1)) = [0, 0] := by decide +kernel
local macro_rules | `(tactic| walk_at "go") => `(tactic| repeat (first | (with_reducible first | refine iteT ?_ | refine iteF ?_ | refine iteNtt ?_ | refine iteNff ?_ | refine iteET (by omega) ?_ | refine iteEF (by omega) ?_ | refine iteENT (by omega) ?_ | refine iteENF (by omega) ?_ | refine iteDT (by omega) ?_ | refine iteDF (by omega) ?_ | refine iteNT (by omega) ?_ | refine iteNF (by omega) ?_) | refine ⟨_, rfl, ?_⟩ | refine ⟨_, _, rfl, rfl, ?_⟩ | refine ⟨_, _, rfl, ?_⟩ | refine ⟨rfl, ?_⟩ | refine .inl ⟨_, rfl, ?_⟩ | refine .inr ⟨_, rfl, ?_⟩))
local macro_rules | `(tactic| walk_at "b") => `(tactic| try dsimp (config := { proj := false, iota := false, eta := false, zeta := false }) only)
section
variable {P : Program} {w : World} {K : PySem.W.Frag} {mg : Str → Option Value} {base : Heap}
def sp_law (K : PySem.W.Frag) : Sp := fun vs H Q _ => ∃ (a : Addr) (ns : List Int), vs = [.ref a] ∧ SqL K H a (ns.map V.int) ∧ ns.length ≤ 63 ∧ ∀ H', Q (.bl true) H'
theorem G_law (T : Top K mg) : FnOk P w K mg base CX0 6 T.f_law T.fd_law ["_law_script"] (sp_law K) := by
  refine T.F_law.ok sc_law (fun vs H Q E h => by obtain ⟨a, ns, rfl, _⟩ := h; rfl) (fun cdv A outer s H vs Q E hr h => ?_)
  obtain ⟨a, ns, rfl, hS, hn, q⟩ := h
  refine ⟨_, PSs.nox (pss_cons (ps_set (i := 1) sc_law.nd rfl (by first | exact Or.inl rfl | exact Or.inr rfl) (pe_call (G_law_generator T) (hr.mono (by decide)) (by rfl) T.g_law_generator T.F_law_generator.kp T.b_law_generator .nil pass0 (pa_cons (pv 0) (pa_cons pe_int pa_nil))))
  (pss_cons (ps_for PassesOwn.never rfl (pi_range1 (by rfl) T.n_range (pa_cons pe_int pa_nil)) (pg_name (i := 2) sc_law.nd rfl (by first | exact Or.inl rfl | exact Or.inr rfl))
    (pss_cons (ps_par (by rfl) sc_law.nd (i := 6) (j := 7) rfl rfl (by decide) rfl rfl (pa_cons (pe_call (G_law_small_folds T) (hr.mono (by decide)) (by rfl) T.g_law_small_folds T.F_law_small_folds.kp T.b_law_small_folds .nil pass0 (pa_cons (pv 1) (pa_cons pe_int pa_nil))) (pa_cons (pe_call (G_law_random T) (hr.mono (by decide)) (by rfl) T.g_law_random T.F_law_random.kp T.b_law_random .nil pass0 (pa_cons (pv 1) (pa_cons pe_int pa_nil))) pa_nil)) (by rfl))
  (pss_cons (ps_if (PW.pt (pw_or (pt_not (pt_val (pe_call (G_law_written_right T) (hr.mono (by decide)) (by rfl) T.g_law_written_right T.F_law_written_right.kp T.b_law_written_right .nil pass0 (pa_cons (pv 1) (pa_cons (pv 6) (pa_cons (pv 7) pa_nil)))))) (pw_or1 (pt_not (pt_val (pe_call (G_law_turned_right T) (hr.mono (by decide)) (by rfl) T.g_law_turned_right T.F_law_turned_right.kp T.b_law_turned_right .nil pass0 (pa_cons (pv 1) (pa_cons (pv 6) (pa_cons (pv 7) pa_nil)))))))))
    (pss_one (ps_ret pe_bl))
    pss_nil)
  (pss_one (ps_if (pt_not (pt_val (pe_call (G_law_readings_right T) (hr.mono (by decide)) (by rfl) T.g_law_readings_right T.F_law_readings_right.kp T.b_law_readings_right .nil pass0 (pa_cons (pe_call (G_law_text T) (hr.mono (by decide)) (by rfl) T.g_law_text T.F_law_text.kp T.b_law_text .nil pass0 (pa_cons (pv 6) (pa_cons (pv 7) pa_nil))) (pa_cons pe_int pa_nil)))))
    (pss_one (ps_ret pe_bl))
    pss_nil)))))
  (pss_cons (ps_for PassesOwn.never rfl (k_piL K rfl (pe_lst (pa_cons (pe_call (G_law_bits T) (hr.mono (by decide)) (by rfl) T.g_law_bits T.F_law_bits.kp T.b_law_bits .nil pass0 (pa_cons (pv 1) (pa_cons pe_int pa_nil))) (pa_cons (pe_call (G_law_bits T) (hr.mono (by decide)) (by rfl) T.g_law_bits T.F_law_bits.kp T.b_law_bits .nil pass0 (pa_cons (pv 1) (pa_cons pe_int pa_nil))) (pa_cons pe_str (pa_cons (pe_op op_rep_str pe_str (pe_call (G_law_random T) (hr.mono (by decide)) (by rfl) T.g_law_random T.F_law_random.kp T.b_law_random .nil pass0 (pa_cons (pv 1) (pa_cons pe_int pa_nil)))) pa_nil)))))) (pg_name (i := 3) sc_law.nd rfl (by first | exact Or.inl rfl | exact Or.inr rfl))
    (pss_one (ps_if (pt_not (pt_val (pe_call (G_law_readings_right T) (hr.mono (by decide)) (by rfl) T.g_law_readings_right T.F_law_readings_right.kp T.b_law_readings_right .nil pass0 (pa_cons (pv 3) (pa_cons (pe_op op_add pe_int (pe_call (G_law_random T) (hr.mono (by decide)) (by rfl) T.g_law_random T.F_law_random.kp T.b_law_random .nil pass0 (pa_cons (pv 1) (pa_cons pe_int pa_nil)))) pa_nil)))))
    (pss_one (ps_ret pe_bl))
    pss_nil)))
  (pss_cons (ps_par (by rfl) sc_law.nd (i := 4) (j := 5) rfl rfl (by decide) rfl rfl (pa_cons (pe_call (G_law_random T) (hr.mono (by decide)) (by rfl) T.g_law_random T.F_law_random.kp T.b_law_random .nil pass0 (pa_cons (pv 1) (pa_cons pe_int pa_nil))) (pa_cons (pe_call (G_law_random T) (hr.mono (by decide)) (by rfl) T.g_law_random T.F_law_random.kp T.b_law_random .nil pass0 (pa_cons (pv 1) (pa_cons pe_int pa_nil))) pa_nil)) (by rfl))
  (pss_cons (ps_if (PW.pt (pw_or (pt_not (pt_val (pe_call (G_law_both_right T) (hr.mono (by decide)) (by rfl) T.g_law_both_right T.F_law_both_right.kp T.b_law_both_right .nil pass0 (pa_cons (pv 4) (pa_cons (pv 5) pa_nil))))) (pw_or1 (pt_not (pt_val (pe_call (G_law_both_right T) (hr.mono (by decide)) (by rfl) T.g_law_both_right T.F_law_both_right.kp T.b_law_both_right .nil pass0 (pa_cons (pv 5) (pa_cons (pv 4) pa_nil))))))))
    (pss_one (ps_ret pe_bl))
    pss_nil)
  (pss_cons (ps_if (pt_not (pt_val (pe_call (G_law_both_right T) (hr.mono (by decide)) (by rfl) T.g_law_both_right T.F_law_both_right.kp T.b_law_both_right .nil pass0 (pa_cons (pe_call (G_law_random T) (hr.mono (by decide)) (by rfl) T.g_law_random T.F_law_random.kp T.b_law_random .nil pass0 (pa_cons (pv 1) (pa_cons pe_int pa_nil))) (pa_cons (pe_call (G_law_random T) (hr.mono (by decide)) (by rfl) T.g_law_random T.F_law_random.kp T.b_law_random .nil pass0 (pa_cons (pv 1) (pa_cons pe_int pa_nil))) pa_nil)))))
    (pss_one (ps_ret pe_bl))
    pss_nil)
  (pss_cons (ps_if (pt_cmpR (k_neD K rfl hr.units) (pe_lst (pa_cons (pe_call (G_both_read T) (hr.mono (by decide)) (by rfl) T.g_both_read T.F_both_read.kp T.b_both_read .nil pass0 (pa_cons pe_int (pa_cons pe_int pa_nil))) (pa_cons (pe_call (G_both_read T) (hr.mono (by decide)) (by rfl) T.g_both_read T.F_both_read.kp T.b_both_read .nil pass0 (pa_cons pe_int (pa_cons pe_int pa_nil))) pa_nil))) (pe_lst (pa_cons (pe_tup (pa_cons pe_str (pa_cons (pe_lst (pa_cons pe_int (pa_cons pe_int pa_nil))) (pa_cons (pe_lst (pa_cons pe_int pa_nil)) pa_nil)))) (pa_cons (pe_tup (pa_cons pe_str (pa_cons (pe_lst (pa_cons pe_int (pa_cons pe_int (pa_cons pe_int pa_nil)))) (pa_cons (pe_lst (pa_cons pe_int (pa_cons pe_int pa_nil))) pa_nil)))) pa_nil))) (nomark _))
    (pss_one (ps_ret pe_bl))
    pss_nil)
  (pss_one (ps_ret (pe_cmpR (k_eqD K rfl hr.units) (pe_lst (pa_cons (pe_call (G_turned_reading T) (hr.mono (by decide)) (by rfl) T.g_turned_reading T.F_turned_reading.kp T.b_turned_reading .nil pass0 (pa_cons (pe_lst (pa_cons pe_int (pa_cons pe_int pa_nil))) (pa_cons pe_int (pa_cons pe_int pa_nil)))) (pa_cons (pe_call (G_turned_reading T) (hr.mono (by decide)) (by rfl) T.g_turned_reading T.F_turned_reading.kp T.b_turned_reading .nil pass0 (pa_cons (pe_lst (pa_cons pe_int (pa_cons pe_int pa_nil))) (pa_cons pe_int (pa_cons pe_int pa_nil)))) pa_nil))) (pe_lst (pa_cons (pe_tup (pa_cons (pe_lst (pa_cons pe_int (pa_cons pe_int pa_nil))) (pa_cons pe_str (pa_cons pe_int pa_nil)))) (pa_cons (pe_tup (pa_cons (pe_lst (pa_cons pe_int (pa_cons pe_int pa_nil))) (pa_cons pe_str (pa_cons pe_int pa_nil)))) pa_nil))) (nomark _))))))))))), ?_⟩
  refine ⟨_, rfl, a, ns, 0, rfl, hS, fun H1 g s1 ng hg1 => ?_⟩
  refine ⟨_, rfl, by decide, by decide, ?_⟩
  walk_at "b"
  refine for_range (lo := 0) (n := 2) (fun i σ H2 => ∃ v2 v6 v7, σ = [some (.ref a), some (.ref g), v2, none, none, none, v6, v7] ∧ GenAt H2 g (4000 * i)) ⟨none, none, none, rfl, hg1⟩ ?_ ?_
  · rintro i σ H2 hi ⟨v2, v6, v7, rfl, hg2⟩
    refine ⟨_, rfl, g, _, 6, rfl, hg2, by omega, by omega, fun H3 p fs b3 np pg hg3 hp3 hl3 hf3 => ?_⟩
    refine ⟨_, rfl, g, 5, _, rfl, hg3, by omega, by decide, by decide, fun d H4 d0 d1 hg4 b4 => ?_⟩
    obtain ⟨wd, rfl⟩ : ∃ wd : Nat, d = wd := ⟨d.toNat, by omega⟩
    refine ⟨_, _, rfl, ?_⟩
    have hp4 := b4 _ _ pg hp3
    have hF : FoldsOk fs wd := ⟨hl3, by omega, hf3⟩
    obtain ⟨hFew, hTl⟩ := hF.few
    refine ⟨_, rfl, _, rfl, _, rfl, g, p, _, fs, wd, rfl, hg4, by omega, hp4, pg, hF, fun H5 b5 hg5 => ⟨_, rfl, iteNtt ?_⟩⟩
    have hp5 := b5 _ _ pg hp4
    refine ⟨_, rfl, _, rfl, _, rfl, g, p, _, fs, wd, rfl, hg5, by omega, hp5, pg, hF, fun H6 b6 hg6 => ⟨_, rfl, iteNtt ?_⟩⟩
    have hp6 := b6 _ _ pg hp5
    refine ⟨_, rfl, _, rfl, p, fs, wd, rfl, .inl (.inl hp6), hFew, txF wd fs, 6, rfl, by omega, by omega, fun H7 s7 => ⟨_, rfl, iteNtt ?_⟩⟩
    exact ⟨_, _, _, rfl, (hg6.same s7).mono (by omega)⟩
  · rintro σ H2 ⟨v2, v6, v7, rfl, hg2⟩
    refine ⟨_, rfl, g, _, 9, rfl, hg2, by omega, by omega, fun b1 H3 _ hg3 hl1 => ?_⟩
    refine ⟨_, rfl, g, _, 5, rfl, hg3, by omega, by omega, fun b2 H4 _ hg4 hl2 => ?_⟩
    refine ⟨_, rfl, g, 13, _, rfl, hg4, by omega, by decide, by decide, fun d H5 d0 d1 hg5 _ => ?_⟩
    obtain ⟨dn, rfl⟩ : ∃ dn : Nat, d = dn := ⟨d.toNat, by omega⟩
    refine ⟨_, dn, rfl, rfl, by rw [str_zero, bS_len]; decide, by omega, ?_⟩
    rw [bS_mul, str_nil]
    refine ⟨(show 4 ≤ sizeLine by decide), fun p np => ?_⟩
    obtain ⟨H6, e6, s6, hp6⟩ := fresh (.lst ([b1, b2, [], List.replicate dn false].map fun b => V.str (bS b))) np
    have hg6 := hg5.same s6
    have pg := hg5.ne np
    have hall : ∀ b ∈ [b1, b2, [], List.replicate dn false], b.length ≤ 100 := by
      intro b hb
      simp only [List.mem_cons, List.not_mem_nil, or_false] at hb
      rcases hb with rfl | rfl | rfl | rfl
      · omega
      · omega
      · simp
      · rw [List.length_replicate]; omega
    have hlen : ([b1, b2, [], List.replicate dn false].map fun b => V.str (bS b)).length = 4 := rfl
    rw [show upd H5 p (.lst [V.str (bS b1), V.str (bS b2), V.str (bS []), V.str (bS (List.replicate dn false))]) = H6 from e6]
    clear e6
    generalize [b1, b2, [], List.replicate dn false] = L at *
    refine ⟨p, rfl, ⟨_, .inl (.inl hp6)⟩, for_list (K := K) (a := p) (xs := L.map fun b => V.str (bS b)) (fun i σ H7 => ∃ v3, σ = [some (.ref a), some (.ref g), v2, v3, none, none, v6, v7] ∧ GenAt H7 g (10000 + 100 * i) ∧ H7 p = some (.lst (L.map fun b => V.str (bS b)))) ⟨none, rfl, hg6.mono (by omega), hp6⟩ (fun i σ H7 _ ⟨_, _, _, e⟩ => .inl (.inl e)) ?_ ?_⟩
    · rintro i x σ H7 hx ⟨v3, rfl, hg7, hp7⟩
      rw [List.getElem?_map] at hx
      obtain ⟨b, hb, rfl⟩ := Option.map_eq_some_iff.mp hx
      have hbl := hall b (List.mem_of_getElem? hb)
      have hi4 : i < 4 := by have := (List.getElem?_eq_some_iff.mp hb).1; rw [List.length_map] at hlen; omega
      refine ⟨_, rfl, _, rfl, g, 5, _, rfl, hg7, by omega, by decide, by decide, fun e H8 f0 f1 hg8 b8 => ?_⟩
      obtain ⟨en, rfl⟩ : ∃ en : Nat, e = en := ⟨e.toNat, by omega⟩
      refine ⟨_, _, rfl, rfl, b, 1 + en, by show [V.str (bS b), V.int (1 + (en : Int))] = _; rw [show (1 + (en : Int)) = ((1 + en : Nat) : Int) by omega], by omega, by omega, fun H9 s9 => ⟨_, rfl, iteNtt ?_⟩⟩
      exact ⟨_, rfl, (hg8.same s9).mono (by omega), s9 _ _ (b8 _ _ pg hp7)⟩
    · rintro σ H7 ⟨v3, rfl, hg7, hp7⟩
      rw [hlen] at hg7
      refine ⟨_, rfl, g, 5, _, rfl, hg7, by omega, by decide, by decide, fun d1 H8 d10 d11 hg8 _ => ?_⟩
      refine ⟨_, rfl, g, 5, _, rfl, hg8, by omega, by decide, by decide, fun d2 H9 d20 d21 hg9 _ => ?_⟩
      obtain ⟨x, rfl⟩ : ∃ x : Nat, d1 = x := ⟨d1.toNat, by omega⟩
      obtain ⟨y, rfl⟩ : ∃ y : Nat, d2 = y := ⟨d2.toNat, by omega⟩
      refine ⟨_, _, rfl, ?_⟩
      refine ⟨_, rfl, _, rfl, x, y, rfl, by omega, by omega, fun H10 s10 => ⟨_, rfl, iteNtt ?_⟩⟩
      refine ⟨_, rfl, _, rfl, y, x, rfl, by omega, by omega, fun H11 s11 => ⟨_, rfl, iteNtt ?_⟩⟩
      have hg11 := hg9.same (s10.trans s11)
      refine ⟨_, rfl, g, 25, _, rfl, hg11, by omega, by decide, by decide, fun d3 H12 d30 d31 hg12 _ => ?_⟩
      refine ⟨_, rfl, g, 25, _, rfl, hg12, by omega, by decide, by decide, fun d4 H13 d40 d41 hg13 _ => ?_⟩
      obtain ⟨x', rfl⟩ : ∃ x : Nat, d3 = x := ⟨d3.toNat, by omega⟩
      obtain ⟨y', rfl⟩ : ∃ y : Nat, d4 = y := ⟨d4.toNat, by omega⟩
      refine ⟨x', y', rfl, by omega, by omega, fun H14 s14 => ⟨_, rfl, iteNtt ?_⟩⟩
      -- both_read, told
      refine ⟨0, 1, rfl, by decide, by decide, fun H15 t1' a1 c1 T1 hB1 s15 nt1 na1 nc1 ht1 ha1 hc1 => ?_⟩
      obtain rfl := both01 hB1
      rw [rd2.1] at ha1
      rw [rd2.2] at hc1
      refine ⟨1, 2, rfl, by decide, by decide, fun H16 t2' a2 c2 T2 hB2 s16 nt2 na2 nc2 ht2 ha2 hc2 => ?_⟩
      obtain rfl := both12 hB2
      rw [rd6.1] at ha2
      rw [rd6.2] at hc2
      refine ⟨(show 2 ≤ sizeLine by decide), fun p1 np1 => ?_⟩
      obtain ⟨H17, e17, s17, hp17⟩ := fresh (.lst [V.ref t1', V.ref t2']) np1
      rw [e17]
      refine ⟨(show 2 ≤ sizeLine by decide), fun q1 nq1 => ?_⟩
      obtain ⟨H18, e18, s18, hq1⟩ := fresh (.lst [V.int 0, V.int 0]) nq1
      rw [e18]
      refine ⟨(show 1 ≤ sizeLine by decide), fun q2 nq2 => ?_⟩
      obtain ⟨H19, e19, s19, hq2⟩ := fresh (.lst [V.int 0]) nq2
      rw [e19, str_00]
      refine ⟨(show 3 ≤ sizeLine by decide), fun q3 nq3 => ?_⟩
      obtain ⟨H20, e20, s20, hq3⟩ := fresh (.tup [V.str (bS [false, false]), V.ref q1, V.ref q2]) nq3
      rw [e20]
      refine ⟨(show 3 ≤ sizeLine by decide), fun q4 nq4 => ?_⟩
      obtain ⟨H21, e21, s21, hq4⟩ := fresh (.lst [V.int 0, V.int 0, V.int 0]) nq4
      rw [e21]
      refine ⟨(show 2 ≤ sizeLine by decide), fun q5 nq5 => ?_⟩
      obtain ⟨H22, e22, s22, hq5⟩ := fresh (.lst [V.int 0, V.int 0]) nq5
      rw [e22, str_000000]
      refine ⟨(show 3 ≤ sizeLine by decide), fun q6 nq6 => ?_⟩
      obtain ⟨H23, e23, s23, hq6⟩ := fresh (.tup [V.str (bS [false, false, false, false, false, false]), V.ref q4, V.ref q5]) nq6
      rw [e23]
      refine ⟨(show 2 ≤ sizeLine by decide), fun q7 nq7 => ?_⟩
      obtain ⟨H24, e24, s24, hq7⟩ := fresh (.lst [V.ref q3, V.ref q6]) nq7
      rw [e24]
      have sx : Same H17 H24 := s18.trans (s19.trans (s20.trans (s21.trans (s22.trans (s23.trans s24)))))
      have sy : Same H16 H24 := s17.trans sx
      have sz : Same H15 H24 := s16.trans sy
      refine ⟨foundD, foundD, .lst (.inl (.inl (sx _ _ hp17))) (.cons (.tup (.inl (.inl (sz _ _ ht1))) (.cons (.str _) (.cons (.lst (.inl (.inl (sz _ _ ha1))) (Pre.dp_ints _)) (.cons (.lst (.inl (.inl (sz _ _ hc1))) (Pre.dp_ints _)) .nil)))) (.cons (.tup (.inl (.inl (sy _ _ ht2))) (.cons (.str _) (.cons (.lst (.inl (.inl (sy _ _ ha2))) (Pre.dp_ints _)) (.cons (.lst (.inl (.inl (sy _ _ hc2))) (Pre.dp_ints _)) .nil)))) .nil)),
        .lst (.inl (.inl hq7)) (.cons (.tup (.inl (.inl (s24 _ _ (s23 _ _ (s22 _ _ (s21 _ _ hq3)))))) (.cons (.str _) (.cons (.lst (.inl (.inl (s24 _ _ (s23 _ _ (s22 _ _ (s21 _ _ (s20 _ _ (s19 _ _ hq1)))))))) (Pre.dp_ints [0, 0])) (.cons (.lst (.inl (.inl (s24 _ _ (s23 _ _ (s22 _ _ (s21 _ _ (s20 _ _ hq2))))))) (Pre.dp_ints [0])) .nil)))) (.cons (.tup (.inl (.inl (s24 _ _ hq6))) (.cons (.str _) (.cons (.lst (.inl (.inl (s24 _ _ (s23 _ _ (s22 _ _ hq4))))) (Pre.dp_ints [0, 0, 0])) (.cons (.lst (.inl (.inl (s24 _ _ (s23 _ _ hq5)))) (Pre.dp_ints [0, 0])) .nil)))) .nil)), foundD_ok.1, foundD_ok.1, ?_⟩
      rw [foundD_ok.2]
      refine ⟨_, rfl, iteF ?_⟩
      -- turned_reading, told
      refine ⟨(show 2 ≤ sizeLine by decide), fun r1 nr1 => ?_⟩
      obtain ⟨H25, e25, s25, hr1⟩ := fresh (.lst [V.int 0, V.int 3]) nr1
      rw [e25]
      refine ⟨r1, [0, 3], 1, 0, false, rfl, hr1, few03, by decide, by rw [tx03]; decide, by rw [tx03]; rfl, fun H26 u1 l1 s26 nu1 nl1 hu1 hl1' => ?_⟩
      rw [tx03] at hu1 hl1'
      rw [t0.2.1, t0.2.2] at hu1
      rw [t0.1] at hl1'
      refine ⟨(show 2 ≤ sizeLine by decide), fun r2 nr2 => ?_⟩
      obtain ⟨H27, e27, s27, hr2⟩ := fresh (.lst [V.int 0, V.int 3]) nr2
      rw [e27]
      refine ⟨r2, [0, 3], 1, 1, false, rfl, hr2, few03, by decide, by rw [tx03]; decide, by rw [tx03]; rfl, fun H28 u2 l2 s28 nu2 nl2 hu2 hl2' => ?_⟩
      rw [tx03] at hu2 hl2'
      rw [t1.2.1, t1.2.2] at hu2
      rw [t1.1] at hl2'
      refine ⟨(show 2 ≤ sizeLine by decide), fun p2 np2 => ?_⟩
      obtain ⟨H29, e29, s29, hp29⟩ := fresh (.lst [V.ref u1, V.ref u2]) np2
      rw [e29]
      refine ⟨(show 2 ≤ sizeLine by decide), fun w1 nw1 => ?_⟩
      obtain ⟨H30, e30, s30, hw1⟩ := fresh (.lst [V.int 3, V.int 1]) nw1
      rw [e30]
      refine ⟨(show 3 ≤ sizeLine by decide), fun w2 nw2 => ?_⟩
      obtain ⟨H31, e31, s31, hw2⟩ := fresh (.tup [V.ref w1, V.str (bS []), V.int 5]) nw2
      rw [e31]
      refine ⟨(show 2 ≤ sizeLine by decide), fun w3 nw3 => ?_⟩
      obtain ⟨H32, e32, s32, hw3⟩ := fresh (.lst [V.int 1, V.int 3]) nw3
      rw [e32]
      refine ⟨(show 3 ≤ sizeLine by decide), fun w4 nw4 => ?_⟩
      obtain ⟨H33, e33, s33, hw4⟩ := fresh (.tup [V.ref w3, V.str (bS []), V.int 2]) nw4
      rw [e33]
      refine ⟨(show 2 ≤ sizeLine by decide), fun w5 nw5 => ?_⟩
      obtain ⟨H34, e34, s34, hw5⟩ := fresh (.lst [V.ref w2, V.ref w4]) nw5
      rw [e34]
      have sa : Same H29 H34 := s30.trans (s31.trans (s32.trans (s33.trans s34)))
      have sb : Same H28 H34 := s29.trans sa
      have sc : Same H26 H34 := s27.trans (s28.trans sb)
      refine ⟨turnsD, turnsD, .lst (.inl (.inl (sa _ _ hp29))) (.cons (.tup (.inl (.inl (sc _ _ hu1))) (.cons (.lst (.inl (.inl (sc _ _ hl1'))) (Pre.dp_ints [3, 1])) (.cons (.str _) (.cons (.int 5) .nil)))) (.cons (.tup (.inl (.inl (sb _ _ hu2))) (.cons (.lst (.inl (.inl (sb _ _ hl2'))) (Pre.dp_ints [1, 3])) (.cons (.str _) (.cons (.int 2) .nil)))) .nil)),
        .lst (.inl (.inl hw5)) (.cons (.tup (.inl (.inl (s34 _ _ (s33 _ _ (s32 _ _ hw2))))) (.cons (.lst (.inl (.inl (s34 _ _ (s33 _ _ (s32 _ _ (s31 _ _ hw1)))))) (Pre.dp_ints [3, 1])) (.cons (.str _) (.cons (.int 5) .nil)))) (.cons (.tup (.inl (.inl (s34 _ _ hw4))) (.cons (.lst (.inl (.inl (s34 _ _ (s33 _ _ hw3)))) (Pre.dp_ints [1, 3])) (.cons (.str _) (.cons (.int 2) .nil)))) .nil)), turnsD_ok.1, turnsD_ok.1, ?_⟩
      rw [turnsD_ok.2]
      exact q _
end
end My

open PySem PySem.W PySem.Calls PyProof.Rows
set_option maxRecDepth 100000 in
set_option maxHeartbeats 0 in
theorem PySem.Challenge.cw_wholesound_k45_bits_of_folds_holds : PySem.Challenge.rw_wholesound_k45_bits_of_folds.Holds := by
  w_on; o_law
  refine HandSHeadRun.head_any (r := OpenLaw.row PySem.Challenge.rw_wholesound_k45_bits_of_folds) (q := view (OpenLaw.row PySem.Challenge.rw_wholesound_k45_bits_of_folds).prog [43]) (H := My.hk) (ob := My.ob) (M := 8000) (loose := My.loose) (d := HandSHeadRun.topDef (OpenLaw.row PySem.Challenge.rw_wholesound_k45_bits_of_folds).prog 43) (kwd := []) My.ob_eq
    (by kernel_rfl) (fun s => by kernel_rfl) My.run (by kernel_rfl) (by kernel_rfl) (by kernel_rfl) (by rfl) (by first | assumption | decide +kernel) (by decide +kernel) ⟨rfl, rfl, rfl, rfl, rfl, by decide +kernel⟩ ?hw ?hc
  case hw => w_witness2
  case hc =>
    refine L2.walk_ofE (l := PySem.Challenge.rw_wholesound_k45_bits_of_folds) (n := 63) (k := 6) (x := "_law_script") (CX := L2.CX0) rfl (by decide) (by kernel_rfl) ⟨rfl, by decide, by decide⟩ ?F (fun _ _ _ _ z => z)
    intro w mg fa h Y G hmg0
    obtain ⟨K, KX, c⟩ := Y
    have hmg : mg ("law" : PySem.Str) = some (.ref fa) := by
      have e : (HandSHeadRun.topDef (OpenLaw.row PySem.Challenge.rw_wholesound_k45_bits_of_folds).prog 43).name = ("law" : PySem.Str) := by kernel_rfl
      rw [← e]
      exact hmg0
    have T : My.Top K mg := My.top_mk KX G c
    have e := hmg.symm.trans T.g_law
    cases e
    have b := L2.FunD.bindsA (ps := ["_law_script"]) T.F_law fun _ _ _ _ _ _ us hl => match us, hl with | [_], _ => rfl
    exact ⟨K, T.fd_law, My.sp_law K, KX, fun s v => b s [v] rfl, fun H a ns hl _ hS => ⟨a, ns, rfl, hS, hl, fun _ => rfl⟩, fun base _ _ => My.G_law T⟩


