import PyProof.Rows.All
import Wide.All
import OpenK.AllK
import Wide.FinOn
import KE.KUnpackStar
import HandS.ForMost
import HandS.Flow
import HandS.Walk
import HandS.Wide
import HandS.Text
import HandS.Style
import HandS.More
import HandS.IsInst
import HandS.DictComp
import HandS.Property
import HandS.ClsMeth
import HandS.WordsDict
import KE.KxText
import HandS.OwnEq
import PyProof.InstNe
import PyProof.Rows.SortStrRead
import HandS.ListItems
import HandS.Finally
import HandS.Defaults
import PySem.Challenge.RW_flagtrees_k50_texts_written
set_option Elab.async false
set_option linter.all false
set_option maxRecDepth 100000
set_option maxHeartbeats 8000000

/-! Own: a star ahead of one target, `*a, b = a list`. -/
namespace L2
open PySem PySem.Spec PyProof.Rows PySem.Calls
section
variable {P : Program} {w : World} {A : Around} {Er : Value → Shared → Prop} {s : Shared}
/-- the items of a list at l, all but the last one in a new list -/
theorem unpack_but_last {l : Addr} {vs : List Value} {z : Value} {Q : List Value → Shared → Prop} (at_ : s.heap.IsList l (vs ++ [z]).toArray) (calm : A.handled = none) (few : vs.length + 1 ≤ 16384)
    (k : ∀ (h' : Heap) (tk : Nat), (∀ b o, s.heap.get? b = some o → h'.get? b = some o) →
      Q [.ref h'.objs.size, z] { s with heap := h'.push { cls := .type "list", data := .seq vs.toArray }, toks := tk }) : wpAny (model P w) A (unpackItems (.ref l) 2 (some 0)) Q Er s := by
  have old : l < s.heap.objs.size := at_.elim fun o q => Heap.lt_size q.1
  have sz : (vs ++ [z]).toArray.size = vs.length + 1 := by simp
  unfold unpackItems notIterableAtAll
  refine wpAny_bind (wpAny_bind (wpAny_specialOf at_.typeIs slot_list_iter.lookup (wpAny_pure ?_)))
  rw [if_neg (by simp)]
  refine wpAny_bind (wpAny_holding (wpAny_pyIter_list at_ ?_))
  refine wpAny_bind (wpAny_holding (show wpAny _ _ (pure []) _ _ _ from wpAny_pure ?_))
  rw [if_neg (by simp)]
  have itNew : (s.heap.push { cls := .type "list_iterator", data := .fields #[.ref l, .int 0 0] }).IsListIter s.heap.objs.size l 0 := ⟨_, Heap.get?_push_size _ rfl, rfl, rfl⟩
  have at2 := at_.push { cls := .type "list_iterator", data := .fields #[.ref l, .int 0 0] }
  refine wpAny_bind (wpAny_holding (PySem.W.kun_collect (T := "list_iterator") (k := 0) (.inr (.inr (.inl rfl))) (Walks.list (A := A.in1) calm s.heap.objs.size l (Nat.ne_of_lt old) (vs ++ [z]).toArray) (fun j u st => st.1.typeIs) (by omega) ⟨itNew, at2⟩
    (Heap.lt_size (Heap.get?_push_size _ rfl)) (Heap.lt_size at2.choose_spec.1) (fun h2 tk keep => ?_) (by rw [sz, sizeLine_eq]; omega)))
  rw [List.drop_zero]
  have len : ((vs ++ [z]).toArray.toList).length = vs.length + 1 := by simp
  show wpAny _ _ (if ((vs ++ [z]).toArray.toList).length < 1 then _ else _) _ _ _
  rw [if_neg (by omega)]
  show wpAny _ _ (newList (((vs ++ [z]).toArray.toList).take (((vs ++ [z]).toArray.toList).length - 1)) >>= fun d => pure ([] ++ [d] ++ ((vs ++ [z]).toArray.toList).drop (((vs ++ [z]).toArray.toList).length - 1))) _ _ _
  have e1 : ((vs ++ [z]).toArray.toList).take (((vs ++ [z]).toArray.toList).length - 1) = vs := by simp
  have e2 : ((vs ++ [z]).toArray.toList).drop (((vs ++ [z]).toArray.toList).length - 1) = [z] := by simp
  rw [e1, e2]
  refine wpAny_bind (wpAny_newList (wpAny_pure ?_))
  exact k h2 tk fun b o q => keep b o (Nat.ne_of_lt (Heap.lt_size q)) (Heap.get?_push_of_some _ q)
end
/-- *a, b = a list: all but the last in a new list, then the last -/
def gStar1 (K : PySem.W.Frag) (t : TGs) : TG := fun v σ H Q => ∃ (a : Addr) (ys : List V) (z : V), v = .ref a ∧ SqL K H a (ys ++ [z]) ∧ ys.length + 1 ≤ 16384 ∧ ∀ D, H D = none → t [.ref D, z] σ (upd H D (.lst ys)) Q
section
variable {X : Cx} {t1 t2 : Expr} {p : Pos} {n : Nat} {pos : Pos} {t : TGs}
theorem pg_star1 (hc : X.calm = true) (h : PGs X [t1, t2] t) (one : assignEach [.Starred t1 p, t2] X.env = [(true, assign t1 X.env), (false, assign t2 X.env)] := by rfl) (two : (assignEach [t1, t2] X.env).map (·.2) = [assign t1 X.env, assign t2 X.env] := by rfl) :
    PG X (.Tuple [.Starred t1 p, t2] n pos) (gStar1 X.K t) := by
  refine ⟨fun pins s σ H v u Q I r want => ?_⟩
  obtain ⟨a, ys, z, e, sq, few, want⟩ := want
  subst e
  cases r
  obtain ⟨its, rv, plain, hz⟩ := I.list sq
  obtain ⟨us, w, ei, r1, r2⟩ : ∃ us w, its = us ++ [w] ∧ Vals ys us ∧ RelV z w := by
    have gen : ∀ (ys : List V) (its : List Value), Vals (ys ++ [z]) its → ∃ us w, its = us ++ [w] ∧ Vals ys us ∧ RelV z w := by
      intro ys
      induction ys with
      | nil =>
        intro its q
        cases q with
        | cons q1 q2 =>
          cases q2
          exact ⟨[], _, rfl, .nil, q1⟩
      | cons y ys ih =>
        intro its q
        cases q with
        | cons q1 q2 =>
          obtain ⟨us, w, e, r1, r2⟩ := ih _ q2
          exact ⟨_ :: us, w, by rw [e] <;> rfl, .cons q1 r1, r2⟩
    exact gen ys its rv
  subst ei
  have len := r1.length
  rw [assign_Tuple]
  refine wpAny_bind (wpAny_standAt ?_)
  unfold unpack
  rw [one]
  show wpAny _ _ (holding [.ref a] (unpackItems (.ref a) 2 (some 0)) >>= fun its => assignInOrder [assign t1 X.env, assign t2 X.env] its) _ _ _
  refine wpAny_bind (wpAny_holding (unpack_but_last plain.isList (I.ok.hd hc) (by omega) fun h' tk kp => ?_))
  have I1 : Inv X pins σ H { s with heap := h' } := I.kept (t' := s.toks) kp
  have small : ys.length ≤ sizeLine := by
    rw [sizeLine_eq]
    omega
  have I2 : Inv X pins σ (upd H h'.objs.size (.lst ys)) { s with heap := h'.push { cls := .type "list", data := .seq us.toArray }, toks := tk } :=
    I1.laid (t' := tk) (fun b o q => Heap.get?_push_of_some _ q) (Nat.le_refl _) ⟨small, us, _, r1, Heap.get?_push_size _ rfl⟩
  rw [← two]
  exact h.run pins _ σ _ [.ref h'.objs.size, z] [.ref h'.objs.size, w] Q I2 (.cons rfl (.cons r2 .nil)) (want _ (I1.hok.fresh (Nat.le_refl _)))
end
end L2


namespace K50
open PySem L2
def top (i : Nat) : Stmt := PySem.Challenge.pw_flagtrees_k50_texts_written.main.body.getD i (.Pass ⟨0, 0, 0, 0⟩)
abbrev Same (H H' : Hp) : Prop := ∀ b o, H b = some o → H' b = some o
theorem Same.trans {H H1 H2 : Hp} (a : Same H H1) (b : Same H1 H2) : Same H H2 := fun x o e => b x o (a x o e)
theorem Same.free {H H' : Hp} {p : Addr} (s : Same H H') (n : H' p = none) : H p = none := by
  cases e : H p with
  | none => rfl
  | some o =>
    rw [s p o e] at n
    cases n
theorem Same.sql {K : PySem.W.Frag} {H H' : Hp} {a : Addr} {xs : List V} (e : Same H H') (h : SqL K H a xs) : SqL K H' a xs := by
  rcases h with (h | ⟨o, h⟩) | h
  · exact .inl (.inl (e _ _ h))
  · exact .inl (.inr ⟨o, e _ _ h⟩)
  · exact .inr h
theorem Same.sqt {K : PySem.W.Frag} {H H' : Hp} {a : Addr} {xs : List V} (e : Same H H') (h : SqT K H a xs) : SqT K H' a xs := by
  rcases h with (h | ⟨o, h⟩) | h
  · exact .inl (.inl (e _ _ h))
  · exact .inl (.inr ⟨o, e _ _ h⟩)
  · exact .inr h
theorem same_new {H : Hp} {p : Addr} {o : HO} (n : H p = none) : Same H (upd H p o) := fun b u e => by
  rw [upd_ne (ne_of_none e n)]
  exact e
/-- the drawing state: at d the list [cells, next, mixed], the cells at c -/
def DrawAt (H : Hp) (d c : Addr) : Prop := ∃ (nx mx : Int) (cells : List Int), H d = some (.lst [.ref c, .int nx, .int mx]) ∧ H c = some (.lst (cells.map V.int)) ∧ cells ≠ [] ∧ cells.length ≤ 63 ∧ (∀ z ∈ cells, 0 ≤ z) ∧ 0 ≤ nx ∧ 0 ≤ mx ∧ mx < 2147483647
/-- all that was tracked, but d and c, is as it was -/
def Keep (d c : Addr) (H H' : Hp) : Prop := ∀ b o, b ≠ d → b ≠ c → H b = some o → H' b = some o
theorem Keep.refl {d c : Addr} {H : Hp} : Keep d c H H := fun _ _ _ _ e => e
theorem Keep.trans {d c : Addr} {H H1 H2 : Hp} (a : Keep d c H H1) (b : Keep d c H1 H2) : Keep d c H H2 := fun x o h h' e => b x o h h' (a x o h h' e)
theorem Keep.of_same {d c : Addr} {H H' : Hp} (s : Same H H') : Keep d c H H' := fun b o _ _ e => s b o e
theorem DrawAt.mono {H H' : Hp} {d c : Addr} (s : Same H H') (x : DrawAt H d c) : DrawAt H' d c := by
  obtain ⟨nx, mx, cells, h1, h2, r⟩ := x
  exact ⟨nx, mx, cells, s _ _ h1, s _ _ h2, r⟩
theorem DrawAt.apart {H : Hp} {d c p : Addr} (x : DrawAt H d c) (n : H p = none) : p ≠ d ∧ p ≠ c := by
  obtain ⟨nx, mx, cells, h1, h2, r⟩ := x
  exact ⟨(ne_of_none h1 n).symm, (ne_of_none h2 n).symm⟩
theorem ints_ne {ns : List Int} {c : Addr} {r : List V} : ns.map V.int ≠ V.ref c :: r := by
  cases ns with
  | nil => intro h; cases h
  | cons a t => intro h; cases h
theorem DrawAt.ne {H : Hp} {d c : Addr} (x : DrawAt H d c) : c ≠ d := by
  obtain ⟨_, _, _, h1, h2, _⟩ := x
  exact ne_of h2 h1 fun z => ints_ne (HO.lst.inj z)
/-- what the text finds among the module's names -/
structure Nm (mg : Str → Option Value) : Prop where
  abs : mg "abs" = none
  len : mg "len" = none
  rng : mg "range" = none
  enu : mg "enumerate" = none
  zip : mg "zip" = none
  isi : mg "isinstance" = none
  all : mg "all" = none
  srt : mg "sorted" = none
  lst : mg "list" = none
  dct : mg "dict" = none
  str : mg "str" = none
  int : mg "int" = none
  tup : mg "tuple" = none
def spBegin (K : PySem.W.Frag) : Sp := fun vs H Q _ => ∃ (a : Addr) (ns : List Int), vs = [.ref a] ∧ SqL K H a (ns.map V.int) ∧ ns.length ≤ 63 ∧
  ∀ (H' : Hp) (d c : Addr), Same H H' → H d = none → H c = none → DrawAt H' d c → Q (.ref d) H'
def spDraw : Sp := fun vs H Q _ => ∃ (d c : Addr) (n : Int), vs = [.ref d, .int n] ∧ DrawAt H d c ∧ 0 < n ∧ n.natAbs < 2 ^ 200 ∧
  ∀ (k : Int) (H' : Hp), 0 ≤ k → k < n → DrawAt H' d c → Keep d c H H' → Q (.int k) H'
/-- an item of a list, a sign of a text -/
def Items (K : PySem.W.Frag) (H : Hp) (d c : Addr) (v : V) (n : Nat) (P : Nat → V → Prop) : Prop :=
  (∃ (l : Addr) (xs : List V), v = .ref l ∧ l ≠ d ∧ l ≠ c ∧ H l = some (.lst xs) ∧ xs.length = n ∧ ∀ i x, xs[i]? = some x → P i x) ∨
  (∃ z : Str, v = .str z ∧ z.length = n ∧ ∀ i s, z.cps.toList[i]? = some s → P i (.str ⟨#[s]⟩))
def spPick (K : PySem.W.Frag) : Sp := fun vs H Q _ => ∃ (d c : Addr) (v : V) (n : Nat) (P : Nat → V → Prop), vs = [.ref d, v] ∧ DrawAt H d c ∧ Items K H d c v n P ∧ 0 < n ∧ n < 1000 ∧
  ∀ (i : Nat) (x : V) (H' : Hp), P i x → DrawAt H' d c → Keep d c H H' → Q x H'
abbrev sBegin : Stmt := top 31
abbrev sDraw : Stmt := top 32
abbrev sPick : Stmt := top 33
theorem cut_ints (ns : List Int) (lo hi : Option Int) : ∃ ms : List Int, cutV (ns.map V.int) lo hi = ms.map V.int ∧ ms.length ≤ ns.length := by
  unfold cutV
  generalize HT.sIx (ns.map V.int).length 0 lo = i
  generalize HT.sIx (ns.map V.int).length (ns.map V.int).length hi = j
  refine ⟨(ns.drop i).take (j - i), by rw [List.map_take, List.map_drop], ?_⟩
  rw [List.length_take, List.length_drop]
  omega
theorem take_more {α : Type} {l : List α} {i : Nat} {x : α} (h : l[i]? = some x) : l.take (i + 1) = l.take i ++ [x] := by
  rw [List.take_succ, h] <;> rfl
/-- the list of the magnitudes -/
def mags (ms : List Int) : List Int := ms.map fun i => if i < 0 then -i else i
theorem mags_nn (ms : List Int) : ∀ z ∈ mags ms, 0 ≤ z := fun z h => by
  obtain ⟨i, _, rfl⟩ := List.mem_map.mp h
  split <;> omega
theorem at_mod {cells : List Int} {nx : Int} (ne : cells ≠ []) : ∃ (j : Nat) (z : Int), nx % ((cells.map V.int).length : Int) = (j : Int) ∧ j < cells.length ∧ cells[j]? = some z ∧ z ∈ cells := by
  have l0 : 0 < cells.length := List.length_pos_iff.mpr ne
  rw [List.length_map]
  have h1 : 0 ≤ nx % (cells.length : Int) := Int.emod_nonneg _ (by omega)
  have h2 : nx % (cells.length : Int) < (cells.length : Int) := Int.emod_lt_of_pos _ (by omega)
  refine ⟨(nx % (cells.length : Int)).toNat, cells[(nx % (cells.length : Int)).toNat]'(by omega), by omega, by omega, by simp, List.getElem_mem _⟩
theorem map_at {cells : List Int} {j : Nat} {z : Int} (h : cells[j]? = some z) : (cells.map V.int)[j]? = some (.int z) := by
  rw [List.getElem?_map, h] <;> rfl
theorem ixN_nat {n j : Nat} (h : j < n) : ixN n (j : Int) = some j := by
  unfold ixN
  rw [if_pos (by omega), if_pos (by omega)]
  simp
section
variable {P : Program} {w : World} {K : PySem.W.Frag} {mg : Str → Option Value} {base : Heap}
theorem scBegin : FnScope ["_law_script", "_law_cell"] ["_law_script"] (defScope sBegin) := ⟨rfl, rfl, rfl, by decide +kernel, rfl, by decide +kernel, by decide +kernel⟩
theorem ok_begin {f : Addr} {fd : FuncData} (F : Fun K "_law_begin" "_law_begin" sBegin f fd) (T : Nm mg) : FnOk P w K mg base CX0 1 f fd ["_law_script"] (spBegin K) := by
  refine F.ok scBegin (fun vs H Q E h => ?_) (fun cdv A outer s H vs Q E hr h => ?_)
  · obtain ⟨a, ns, rfl, _⟩ := h
    rfl
  · obtain ⟨a, ns, rfl, hS, hlen, k⟩ := h
    refine ⟨_, pss_one (ps_ret (pe_lst (pa_cons (pe_orT (pe_lc (own := [("_law_cell", 1)]) (g := gName 1) (tt := tYes) rfl scBegin.nd (pi_list (pe_slice sl_list (pv 0) po_none (po_some pe_int))) (blkOk_by (N := ["_law_script", "_law_cell"]) (sc := defScope sBegin) (by decide +kernel))
      (fun _ _ _ _ _ => pg_name (i := 1) scBegin.nd rfl (Or.inl rfl)) (fun _ _ _ _ _ => pts_nil) (fun _ _ _ _ _ => pe_callB call_abs (by rfl) T.abs (by decide +kernel) (pa_cons (pv 1) pa_nil))) (pe_one (pe_lst (pa_cons pe_int pa_nil))))
      (pa_cons pe_int (pa_cons pe_int pa_nil))))), ?_⟩
    obtain ⟨ms, em, lm⟩ := cut_ints ns none (some 63)
    refine ⟨_, rfl, _, rfl, a, _, rfl, hS, fun p np => ?_⟩
    rw [em]
    have s1 : Same H (upd H p (.lst (ms.map V.int))) := same_new np
    refine ⟨p, rfl, ⟨_, SqL.of upd_same⟩, fun D nD => lc_list (xs := ms.map V.int) (fun i H' => Same (upd H p (.lst (ms.map V.int))) H' ∧ H' D = some (.lst ((mags (ms.take i)).map V.int))) ?_ ?_ ?_ ?_⟩
    · exact ⟨same_new nD, by rw [upd_same, List.take_zero] <;> rfl⟩
    · exact fun i H' _ q => Same.sql q.1 (SqL.of upd_same)
    · intro i x H' hx ⟨q1, q2⟩
      obtain ⟨z, hz, rfl⟩ : ∃ z, ms[i]? = some z ∧ x = V.int z := by
        rw [List.getElem?_map] at hx
        obtain ⟨z, hz, rfl⟩ := Option.map_eq_some_iff.mp hx
        exact ⟨z, hz, rfl⟩
      refine ⟨rfl, ?_⟩
      refine ⟨_, rfl, z, rfl, _, q2, ?_, ?_⟩
      · rw [List.length_map]
        unfold mags
        rw [List.length_map, List.length_take]
        exact Nat.lt_of_le_of_lt (Nat.min_le_right _ _) (Nat.lt_of_le_of_lt (Nat.le_trans lm hlen) (by decide))
      · refine ⟨fun b o e => ?_, ?_⟩
        · rw [upd_ne (ne_of_none e nD)]
          exact q1 b o e
        · rw [upd_same, take_more hz]
          unfold mags
          rw [List.map_append, List.map_append] <;> rfl
    · intro H' ⟨q1, q2⟩
      rw [List.length_map, List.take_length] at q2
      have sH : Same H H' := Same.trans s1 q1
      refine ⟨_, .inl ⟨_, SqL.of q2, rfl⟩, ?_⟩
      have hD : H D = none := Same.free s1 nD
      refine ite2 (fun nz => ?_) (fun nz => ?_)
      · refine ⟨by show 3 ≤ sizeLine; decide, fun d nd => ?_⟩
        have ncd : D ≠ d := ne_of_none q2 nd
        refine k _ d D (Same.trans sH (same_new nd)) (Same.free sH nd) hD ⟨0, 1, mags ms, upd_same, by rw [upd_ne ncd]; exact q2, fun z => ?_, ?_, mags_nn ms, by omega, by omega, by omega⟩
        · rw [z] at nz
          cases nz
        · unfold mags
          rw [List.length_map]
          exact Nat.le_trans lm hlen
      · refine ⟨by show 1 ≤ sizeLine; decide, fun c nc => ?_⟩
        refine ⟨by show 3 ≤ sizeLine; decide, fun d nd => ?_⟩
        have ncd : c ≠ d := ne_of_none upd_same nd
        have nd' : H' d = none := by
          rw [upd_ne (Ne.symm ncd)] at nd
          exact nd
        exact k _ d c (Same.trans sH (Same.trans (same_new nc) (same_new nd))) (Same.free sH nd') (Same.free sH nc) ⟨0, 1, [1], upd_same, by rw [upd_ne ncd, upd_same] <;> rfl, by simp, by decide, by simp, by omega, by omega, by omega⟩
theorem scDraw : FnScope ["_law_state", "_law_many", "_law_cells", "_law_at", "_law_cell"] ["_law_state", "_law_many"] (defScope sDraw) := ⟨rfl, rfl, rfl, by decide +kernel, rfl, by decide +kernel, by decide +kernel⟩
theorem ok_draw {f : Addr} {fd : FuncData} (F : Fun K "_law_draw" "_law_draw" sDraw f fd) (T : Nm mg) : FnOk P w K mg base CX0 1 f fd ["_law_state", "_law_many"] spDraw := by
  refine F.ok scDraw (fun vs H Q E h => ?_) (fun cdv A outer s H vs Q E hr h => ?_)
  · obtain ⟨d, c, n, rfl, _⟩ := h
    rfl
  · obtain ⟨d, c, n, rfl, hD, n0, n1, k⟩ := h
    have ncd := hD.ne
    obtain ⟨nx, mx, cells, hd, hc, ne, len, nn, a0, m0, m1⟩ := hD
    refine ⟨_, pss_cons (ps_set (i := 2) scDraw.nd rfl (.inl rfl) (pe_ix ix_list (pv 0) pe_int (fun _ _ => rfl)))
      (pss_cons (ps_set (i := 3) scDraw.nd rfl (.inl rfl) (pe_op op_mod (pe_ix ix_list (pv 0) pe_int (fun _ _ => rfl)) (pe_callB call_len_seq (by rfl) T.len PySem.boot_len (pa_cons (pv 2) pa_nil))))
      (pss_cons (ps_set (i := 4) scDraw.nd rfl (.inl rfl) (pe_ix ix_list (pv 2) (pv 3) (fun _ _ => rfl)))
      (pss_cons (ps_if (pt_cmpR op_ge (pv 4) (pe_op op_pow pe_int pe_int) (nomark _))
        (pss_cons (ps_asg (pe_op op_fdivW (pv 4) (pv 1)) (pg_sub (pv 2) (pv 3) set_list)) (pss_one (ps_ret (pe_op op_mod (pv 4) (pv 1))))) pss_nil)
      (pss_cons (ps_asg (pe_op op_add (pe_ix ix_list (pv 0) pe_int (fun _ _ => rfl)) pe_int) (pg_sub (pv 0) pe_int set_list))
      (pss_cons (ps_asg (pe_op op_mod (pe_op op_add (pe_op op_add (pe_op op_add (pe_op op_mul (pe_ix ix_list (pv 0) pe_int (fun _ _ => rfl)) pe_int) (pv 4)) (pe_op op_mul pe_int (pe_ix ix_list (pv 0) pe_int (fun _ _ => rfl)))) pe_int) pe_int) (pg_sub (pv 0) pe_int set_list))
      (pss_one (ps_ret (pe_op op_mod (pe_op op_fdiv (pe_op op_mod (pe_op op_mul (pe_ix ix_list (pv 0) pe_int (fun _ _ => rfl)) (pe_ix ix_list (pv 0) pe_int (fun _ _ => rfl))) pe_int) pe_int) (pv 1))))))))), ?_⟩
    obtain ⟨j, z, ej, jl, hz, zm⟩ := at_mod (nx := nx) ne
    have z0 := nn z zm
    have l0 : (0 : Int) < ((cells.map V.int).length : Int) := by
      have := List.length_pos_iff.mpr ne
      rw [List.length_map]
      omega
    refine ⟨_, rfl, d, _, 0, .ref c, rfl, rfl, SqL.of hd, rfl, ?_⟩
    refine ⟨_, rfl, d, _, 1, .int nx, rfl, rfl, SqL.of hd, rfl, _, rfl, c, _, rfl, .inl (SqL.of hc), _, _, rfl, rfl, l0, ?_⟩
    refine ⟨_, rfl, _, rfl, c, _, _, .int z, rfl, rfl, SqL.of hc, by rw [ej]; exact atI_nat (map_at hz), ?_⟩
    refine ⟨_, rfl, 10, 18, rfl, rfl, ⟨by decide, by decide, by decide⟩, _, _, rfl, rfl, _, rfl, ?_⟩
    refine ite2 (fun _ => ?_) (fun _ => ?_)
    · refine ⟨_, rfl, _, rfl, _, _, rfl, rfl, wide_div n0 n1 (by decide) (by decide), _, rfl, _, rfl, c, _, _, j, rfl, rfl, hc, by rw [ej]; exact ixN_nat (by rw [List.length_map]; exact jl), ?_⟩
      rw [show (cells.map V.int).set j (.int (z / n)) = (cells.set j (z / n)).map V.int by rw [List.map_set]]
      refine ⟨_, rfl, _, rfl, _, _, rfl, rfl, n0, ?_⟩
      refine k _ _ (Int.emod_nonneg _ (by omega)) (Int.emod_lt_of_pos _ n0) ⟨nx, mx, _, by rw [upd_ne ncd.symm]; exact hd, upd_same, ?_, by rw [List.length_set]; exact len, ?_, a0, m0, m1⟩ (fun b o _ h2 e => by rw [upd_ne h2]; exact e)
      · intro e
        have := congrArg List.length e
        rw [List.length_set] at this
        exact ne (List.length_eq_zero_iff.mp this)
      · intro y hy
        rcases List.mem_or_eq_of_mem_set hy with h | h
        · exact nn y h
        · rw [h]
          exact Int.ediv_nonneg z0 (by omega)
    · refine ⟨_, rfl, d, _, 1, .int nx, rfl, rfl, SqL.of hd, rfl, _, _, rfl, rfl, _, rfl, d, _, 1, 1, rfl, rfl, hd, rfl, ?_⟩
      refine ⟨_, rfl, d, _, 2, .int mx, rfl, rfl, SqL.of upd_same, rfl, _, _, rfl, rfl, .inl ⟨by omega, by omega⟩, _, rfl, _, _, rfl, rfl, _, rfl, d, _, 1, .int (nx + 1), rfl, rfl, SqL.of upd_same, rfl, _, _, rfl, rfl, .inl ⟨by decide, by decide⟩,
        _, _, rfl, rfl, _, _, rfl, rfl, _, _, rfl, rfl, (by show (0 : Int) < 2147483647; decide), _, rfl, d, _, 2, 2, rfl, rfl, upd_same, rfl, ?_⟩
      rw [upd_upd]
      obtain ⟨m, em⟩ : ∃ m, m = (mx * 48271 + z + 7919 * (nx + 1) + 12345) % 2147483647 := ⟨_, rfl⟩
      have h0 : 0 ≤ m := by rw [em]; exact Int.emod_nonneg _ (by decide)
      have h1 : m < 2147483647 := by rw [em]; exact Int.emod_lt_of_pos _ (by decide)
      refine ⟨_, rfl, d, _, 2, .int m, rfl, rfl, SqL.of upd_same, by rw [em] <;> rfl, _, rfl, d, _, 2, .int m, rfl, rfl, SqL.of upd_same, by rw [em] <;> rfl, _, _, rfl, rfl, .inl ⟨by omega, by omega⟩, _, _, rfl, rfl, (by show (0 : Int) < 2147483629; decide), _, _, rfl, rfl, ⟨by decide, by decide⟩,
        _, rfl, _, _, rfl, rfl, n0, ?_⟩
      exact k _ _ (Int.emod_nonneg _ (by omega)) (Int.emod_lt_of_pos _ n0) ⟨nx + 1, m, cells, by rw [upd_same, em] <;> rfl, by rw [upd_ne ncd]; exact hc, ne, len, nn, by omega, h0, h1⟩ (fun b o h2 _ e => by rw [upd_ne h2]; exact e)
theorem scPick : FnScope ["_law_state", "_law_some"] ["_law_state", "_law_some"] (defScope sPick) := ⟨rfl, rfl, rfl, by decide +kernel, rfl, by decide +kernel, by decide +kernel⟩
theorem ok_pick {f fT : Addr} {fd fdT : FuncData} (F : Fun K "_law_pick" "_law_pick" sPick f fd) (T : Nm mg) (FT : Fun K "_law_draw" "_law_draw" sDraw fT fdT) (bT : Binds K fdT ["_law_state", "_law_many"] []) (gT : mg "_law_draw" = some (.ref fT)) :
    FnOk P w K mg base CX0 2 f fd ["_law_state", "_law_some"] (spPick K) := by
  have GT : FnOk P w K mg base CX0 1 fT fdT ["_law_state", "_law_many"] spDraw := ok_draw FT T
  refine F.ok scPick (fun vs H Q E h => ?_) (fun cdv A outer s H vs Q E hr h => ?_)
  · obtain ⟨d, c, v, n, P, rfl, _⟩ := h
    rfl
  · obtain ⟨d, c, v, n, Pr, rfl, hD, it, x0, x1, k⟩ := h
    have hr1 : Room 1 _ := hr.mono (by decide)
    refine ⟨_, pss_one (ps_ret (pe_ix ix_seq (pv 1) (pe_call GT hr1 rfl gT FT.kp bT .nil pass0 (pa_cons (pv 0) (pa_cons (pe_callB call_len (by rfl) T.len PySem.boot_len (pa_cons (pv 1) pa_nil)) pa_nil))) (fun _ _ => rfl))), ?_⟩
    have small : ∀ n : Nat, n < 1000 → ((n : Int)).natAbs < 2 ^ 200 := fun n hn => by
      rw [Int.natAbs_natCast]
      exact Nat.lt_trans hn (by decide)
    rcases it with ⟨l, xs, rfl, nd, nc, hl, en, hp⟩ | ⟨z, rfl, en, hp⟩
    · refine ⟨_, rfl, _, rfl, _, rfl, _, xs.length, rfl, .inl ⟨xs, SqL.of hl, rfl⟩, d, c, _, rfl, hD, by omega, small _ (by omega), fun i H' i0 i1 hD' off => ?_⟩
      have hi : i.toNat < xs.length := by omega
      have e : xs[i.toNat]? = some xs[i.toNat] := List.getElem?_eq_getElem hi
      have e2 := atI_nat e
      rw [show ((i.toNat : Nat) : Int) = i by omega] at e2
      exact .inl ⟨l, xs, i, xs[i.toNat], rfl, rfl, SqL.of (off l _ nd nc hl), e2, k i.toNat _ H' (hp _ _ e) hD' off⟩
    · have zl : z.length ≤ sizeLine := Nat.le_trans (by omega : z.length ≤ 1000) (by decide)
      refine ⟨_, rfl, _, rfl, _, rfl, _, z.length, rfl, ⟨zl, rfl⟩, d, c, _, rfl, hD, by omega, small _ (by omega), fun i H' i0 i1 hD' off => ?_⟩
      have hi : i.toNat < z.cps.toList.length := by
        have : z.length = z.cps.toList.length := by simp [Str.length]
        omega
      have e : z.cps.toList[i.toNat]? = some z.cps.toList[i.toNat] := List.getElem?_eq_getElem hi
      have e2 := atI_nat e
      rw [show ((i.toNat : Nat) : Int) = i by omega] at e2
      exact .inr (.inr ⟨z, i, _, rfl, rfl, zl, e2, k i.toNat _ H' (hp _ _ e) hD' off⟩)
end
end K50


/-! k50: names, plain Lean. -/
namespace K50
open PySem L2 TL
/-- a name that the law draws: letters, one to eight, not ending in f -/
def NameL (z : Str) : Prop := (∀ c ∈ tl z, 97 ≤ c ∧ c ≤ 122) ∧ 1 ≤ (tl z).length ∧ (tl z).length ≤ 8 ∧ (tl z).getLast? ≠ some 102
instance (z : Str) : Decidable (NameL z) := by unfold NameL; infer_instance
theorem NameL.len {z : Str} (h : NameL z) : 1 ≤ z.length ∧ z.length ≤ 8 := by
  rw [len_tl]
  exact ⟨h.2.1, h.2.2.1⟩
theorem NameL.self {z : Str} (h : NameL z) : z ≠ "self" := fun e => by
  subst e
  revert h
  decide +kernel
def ends : List Str := ["ax", "ay", "az", "au", "av", "aw", "bx", "by", "bz", "bu", "bv", "bw", "cx", "cy"]
theorem split_ends : Txt.split "ax ay az au av aw bx by bz bu bv bw cx cy" " " = ends := by decide +kernel
theorem ends_ok : ∀ e ∈ ends, (tl e).length = 2 ∧ (∀ c ∈ tl e, 97 ≤ c ∧ c ≤ 122) ∧ (tl e).getLast? ≠ some 102 := by decide +kernel
def cand (f e : Str) : Str := cutS f none (some 6) ++ e
theorem tl_cut6 (z : Str) : tl (cutS z none (some 6)) = (tl z).take 6 := by
  have e : HT.sIx z.length z.length (some 6) = min 6 z.length := HT.sIx_nat _ _ 6
  show ((tl z).drop 0).take (HT.sIx z.length z.length (some 6) - 0) = (tl z).take 6
  rw [e, List.drop_zero, Nat.sub_zero, len_tl, ← List.take_take, List.take_length]
theorem cand_ok {f e : Str} (hf : NameL f) (he : e ∈ ends) : NameL (cand f e) := by
  obtain ⟨l2, ch, la⟩ := ends_ok e he
  have t : tl (cand f e) = (tl f).take 6 ++ tl e := by
    unfold cand
    rw [tl_append, tl_cut6]
  refine ⟨fun c hc => ?_, ?_, ?_, ?_⟩
  · rw [t] at hc
    rcases List.mem_append.mp hc with h | h
    · exact hf.1 c (List.mem_of_mem_take h)
    · exact ch c h
  · rw [t, List.length_append]
    omega
  · rw [t, List.length_append, List.length_take]
    omega
  · rw [t, List.getLast?_append]
    cases e2 : (tl e).getLast? with
    | none =>
      rw [List.getLast?_eq_none_iff] at e2
      rw [e2] at l2
      cases l2
    | some z =>
      rw [e2] at la
      exact la
theorem sub_len {α : Type} [DecidableEq α] : ∀ (l m : List α), l.Nodup → (∀ x ∈ l, x ∈ m) → l.length ≤ m.length
  | [], m, _, _ => Nat.zero_le _
  | a :: l, m, nd, h => by
    have ha : a ∈ m := h a (List.mem_cons_self ..)
    obtain ⟨na, nl⟩ := List.nodup_cons.mp nd
    have := sub_len l (m.erase a) nl fun x hx => (List.mem_erase_of_ne (fun e : x = a => na (by rw [← e]; exact hx))).mpr (h x (List.mem_cons_of_mem _ hx))
    rw [List.length_erase_of_mem ha] at this
    have : 1 ≤ m.length := List.length_pos_of_mem ha
    show l.length + 1 ≤ m.length
    omega
theorem cands_nodup (f : Str) : (ends.map (cand f)).Nodup := by
  have nd : ends.Nodup := by decide +kernel
  refine List.pairwise_map.mpr (nd.imp fun ne e => ne ?_)
  unfold cand at e
  refine ext_tl ?_
  have e' := congrArg tl e
  rw [tl_append, tl_append] at e'
  exact List.append_cancel_left e'
/-- the names that are still free, in their order -/
def free (fs : List Str) (l : List Str) : List Str := l.filter fun x => !decide (x ∈ fs)
theorem free_some {f : Str} {fs : List Str} (hf : NameL f) (few : fs.length ≤ 11) : ∃ x r, free fs (f :: ends.map (cand f)) = x :: r ∧ NameL x ∧ x ∉ fs := by
  have ne : free fs (f :: ends.map (cand f)) ≠ [] := fun e => by
    have all : ∀ x ∈ ends.map (cand f), x ∈ fs := fun x hx => by
      refine Decidable.byContradiction fun n => ?_
      have : x ∈ free fs (f :: ends.map (cand f)) := List.mem_filter.mpr ⟨List.mem_cons_of_mem _ hx, by rw [decide_eq_false n] <;> rfl⟩
      rw [e] at this
      cases this
    have := sub_len _ _ (cands_nodup f) all
    rw [List.length_map] at this
    have : ends.length = 14 := rfl
    omega
  cases e : free fs (f :: ends.map (cand f)) with
  | nil => exact absurd e ne
  | cons x r =>
    have hx : x ∈ free fs (f :: ends.map (cand f)) := by rw [e]; exact List.mem_cons_self ..
    obtain ⟨h1, h2⟩ := List.mem_filter.mp hx
    refine ⟨x, r, rfl, ?_, fun hm => ?_⟩
    · rcases List.mem_cons.mp h1 with rfl | h1
      · exact hf
      · obtain ⟨e, he, rfl⟩ := List.mem_map.mp h1
        exact cand_ok hf he
    · rw [decide_eq_true hm] at h2
      cases h2
theorem inV_strs (x : Str) : ∀ fs : List Str, inV (.str x) (fs.map V.str) = decide (x ∈ fs)
  | [] => rfl
  | y :: fs => by
    show (eqV (.str y) (.str x) || inV (.str x) (fs.map V.str)) = _
    rw [inV_strs x fs]
    have e : eqV (.str y) (.str x) = decide (x = y) := by
      show (y == x) = decide (x = y)
      rw [Bool.eq_iff_iff, beq_iff_eq, decide_eq_true_eq]
      exact eq_comm
    rw [e, Bool.eq_iff_iff]
    simp only [Bool.or_eq_true, decide_eq_true_eq, List.mem_cons]
theorem flat_strs : ∀ fs : List Str, (fs.map V.str).all flatV = true
  | [] => rfl
  | _ :: fs => flat_strs fs
/-- signs joined -/
theorem join_signs : ∀ ys : List Str, (∀ y ∈ ys, ∃ s : Nat, y = ⟨#[s]⟩ ∧ s ∈ ([97, 98, 99, 109, 122] : List Nat)) → (tl (Txt.join "" ys)).length = ys.length ∧ ∀ c ∈ tl (Txt.join "" ys), c ∈ ([97, 98, 99, 109, 122] : List Nat)
  | [], _ => by
    rw [join_eq]
    exact ⟨rfl, fun c h => by cases h⟩
  | [y], h => by
    obtain ⟨s, rfl, hs⟩ := h y (List.mem_cons_self ..)
    rw [join_eq]
    exact ⟨rfl, fun c hc => by
      rw [List.mem_singleton.mp hc]
      exact hs⟩
  | y :: z :: r, h => by
    obtain ⟨s, rfl, hs⟩ := h y (List.mem_cons_self ..)
    obtain ⟨h1, h2⟩ := join_signs (z :: r) fun q hq => h q (List.mem_cons_of_mem _ hq)
    rw [join_eq] at h1 h2 ⊢
    have t : tl (Str.join "" (⟨#[s]⟩ :: z :: r)) = s :: tl (Str.join "" (z :: r)) := by
      show tl (⟨#[s]⟩ ++ "" ++ Str.join "" (z :: r)) = _
      rw [tl_append, tl_append] <;> rfl
    rw [t]
    refine ⟨by rw [List.length_cons, h1] <;> rfl, fun c hc => ?_⟩
    rcases List.mem_cons.mp hc with rfl | hc
    · exact hs
    · exact h2 c hc
theorem join_name {ys : List Str} (h : ∀ y ∈ ys, ∃ s : Nat, y = ⟨#[s]⟩ ∧ s ∈ ([97, 98, 99, 109, 122] : List Nat)) (h1 : 1 ≤ ys.length) (h4 : ys.length ≤ 4) : NameL (Txt.join "" ys) := by
  obtain ⟨l, ch⟩ := join_signs ys h
  refine ⟨fun c hc => ?_, by omega, by omega, fun e => ?_⟩
  · have := ch c hc
    simp only [List.mem_cons, List.not_mem_nil, or_false] at this
    omega
  · have := ch 102 (List.mem_of_getLast? e)
    simp only [List.mem_cons, List.not_mem_nil, or_false] at this
    omega
end K50


namespace K50
open PySem L2 TL
abbrev sNames : Stmt := top 34
def spNames (K : PySem.W.Frag) : Sp := fun vs H Q _ => ∃ (d c : Addr) (n : Nat), vs = [.ref d, .int (n : Int)] ∧ DrawAt H d c ∧ 1 ≤ n ∧ n ≤ 12 ∧
  ∀ (l : Addr) (fs : List Str) (H' : Hp), fs.length = n → fs.Nodup → (∀ z ∈ fs, NameL z) → H l = none → H' l = some (.lst (fs.map V.str)) → DrawAt H' d c → Keep d c H H' → Q (.ref l) H'
theorem DrawAt.off {H : Hp} {d c p : Addr} {o : HO} (x : DrawAt H d c) (n1 : p ≠ d) (n2 : p ≠ c) : DrawAt (upd H p o) d c := by
  obtain ⟨nx, mx, cells, h1, h2, r⟩ := x
  exact ⟨nx, mx, cells, by rw [upd_ne n1.symm]; exact h1, by rw [upd_ne n2.symm]; exact h2, r⟩
theorem Keep.put {d c p : Addr} {H H' : Hp} {o : HO} (k : Keep d c H H') (n : H p = none) : Keep d c H (upd H' p o) := fun b u h1 h2 e => by
  rw [upd_ne (ne_of_none e n)]
  exact k b u h1 h2 e
theorem Keep.free {d c p : Addr} {H H' : Hp} (k : Keep d c H H') (n : H' p = none) (n1 : p ≠ d) (n2 : p ≠ c) : H p = none := by
  cases e : H p with
  | none => rfl
  | some o =>
    rw [k p o n1 n2 e] at n
    cases n
theorem items_strs {Pz : Str → Prop} {ws : List Str} (h : ∀ z ∈ ws, Pz z) : ∀ (i : Nat) (x : V), (ws.map V.str)[i]? = some x → ∃ z, x = .str z ∧ Pz z := fun i x e => by
  rw [List.getElem?_map] at e
  obtain ⟨z, hz, rfl⟩ := Option.map_eq_some_iff.mp e
  exact ⟨z, rfl, h z (List.mem_of_getElem? hz)⟩
def words7 : List Str := ["start", "size", "must", "stay", "root", "new", "eightaaa"]
theorem words7_ok : ∀ z ∈ words7, NameL z := by decide +kernel
/-- a sign of the law's letters -/
def Sgn (y : Str) : Prop := ∃ s : Nat, y = ⟨#[s]⟩ ∧ s ∈ ([97, 98, 99, 109, 122] : List Nat)
theorem sum_sgn : ∀ ys : List Str, (∀ y ∈ ys, Sgn y) → (ys.map (·.length)).sum = ys.length
  | [], _ => rfl
  | y :: ys, h => by
    obtain ⟨s, rfl, _⟩ := h y (List.mem_cons_self ..)
    rw [List.map_cons, List.sum_cons, sum_sgn ys fun q hq => h q (List.mem_cons_of_mem _ hq), List.length_cons]
    show 1 + ys.length = ys.length + 1
    omega
theorem free_step {fs cs : List Str} {i : Nat} {x : Str} (h : cs[i]? = some x) : free fs (cs.take (i + 1)) = free fs (cs.take i) ++ (if x ∈ fs then [] else [x]) := by
  rw [take_more h]
  unfold free
  rw [List.filter_append]
  by_cases e : x ∈ fs
  · rw [if_pos e, List.filter_cons, decide_eq_true e, List.filter_nil] <;> rfl
  · rw [if_neg e, List.filter_cons, decide_eq_false e, List.filter_nil] <;> rfl
abbrev rAddS : R2 := fun x y H Q => ∃ i j, x = .str i ∧ y = .str j ∧ i.length + j.length ≤ sizeLine ∧ Q (.str (i ++ j)) H
def tNameTurn (K : PySem.W.Frag) : TS := tSeq (tAsg (tM1 (fun x xs H Q => ∃ (a : Str) (p : Addr), ∃ ys : List Str, x = .str a ∧ xs = [.ref p] ∧ (SqL K H p (ys.map V.str) ∨ SqT K H p (ys.map V.str)) ∧ (ys.map (·.length)).sum + ys.length * a.length ≤ 16777216 ∧ Q (.str (Txt.join a ys)) H)
    (tC (.str "")) (tLc (iRng1 (tCons (tOp rAdd (tC (.int 1)) (tCall spDraw [] E0 (tCons (tVar 0) (tCons (tC (.int 4)) tNil)))) tNil)) (gName 7) tYes (tCall (spPick K) [] E0 (tCons (tVar 0) (tCons (tC (.str "abcmz")) tNil))) [7])) (gName 4))
  (tSeq (tAsg (tCall (spPick K) [] E0 (tCons (tVar 0) (tCons (tLst (tCons (tC (.str "start")) (tCons (tC (.str "size")) (tCons (tC (.str "must")) (tCons (tC (.str "stay")) (tCons (tC (.str "root")) (tCons (tC (.str "new")) (tCons (tC (.str "eightaaa")) tNil)))))))) tNil))) (gName 5))
  (tSeq (tAsg (tCall (spPick K) [] E0 (tCons (tVar 0) (tCons (tLst (tCons (tVar 4) (tCons (tVar 4) (tCons (tVar 5) tNil)))) tNil))) (gName 4))
  (tSeq (tAsg (tLc (iList K (tM1 (fun x xs H Q => ∃ a b, x = .str a ∧ xs = [.str b] ∧ (b.length == 0) = false ∧ a.length + 2 ≤ sizeLine ∧ rNewStrs (Txt.split a b) H Q) (tC (.str "ax ay az au av aw bx by bz bu bv bw cx cy")) (tC (.str " ")))) (gName 8) tYes
      (tOp rAddS (tSl rSlS (tVar 4) tNoPart (tPart (tC (.int 6)))) (tVar 8)) [8]) (gName 6))
  (tDrop (tBM K "list" rAppend (tVar 2) (tCons (tOp (rIxL K) (tLc (iList K (tOp rCat (tLst (tCons (tVar 4) tNil)) (tVar 6))) (gName 9) (tTest (tOp (rIn K true) (tVar 9) (tVar 2))) (tVar 9) [9]) (tC (.int 0))) tNil))))))
theorem nameTurn_ok {K : PySem.W.Frag} {D : Ends} {H : Hp} {u1 u3 u4 u5 u6 u7 u8 u9 : Option V} {d c l : Addr} {fs : List Str} (dr : DrawAt H d c) (ld : l ≠ d) (lc : l ≠ c) (hl : H l = some (.lst (fs.map V.str))) (few : fs.length ≤ 11)
    (nx : ∀ u4 u5 u6 u7 u8 u9 H' x, NameL x → x ∉ fs → DrawAt H' d c → (∀ b o, b ≠ d → b ≠ c → b ≠ l → H b = some o → H' b = some o) → H' l = some (.lst ((fs ++ [x]).map V.str)) → D.nx [some (.ref d), u1, some (.ref l), u3, u4, u5, u6, u7, u8, u9] H') :
    tNameTurn K D [some (.ref d), u1, some (.ref l), u3, u4, u5, u6, u7, u8, u9] H := by
  have big : 1000 ≤ sizeLine := by decide
  refine ⟨⟨_, rfl⟩, _, rfl, d, c, 4, rfl, dr, by decide, by decide, fun m H1 m0 m1 dr1 kp1 => ⟨_, _, rfl, rfl, _, rfl, by omega, by omega, fun D1 nD1 => ?_⟩⟩
  obtain ⟨D1d, D1c⟩ := dr1.apart nD1
  refine lc_it (walk_range (lo := 0) (n := (1 + m).toNat)) (fun i H' => DrawAt H' d c ∧ Keep d c H1 H' ∧ ∃ ys : List Str, H' D1 = some (.lst (ys.map V.str)) ∧ ys.length = i ∧ ∀ y ∈ ys, Sgn y) ⟨dr1.off D1d D1c, Keep.refl.put nD1, [], upd_same, rfl, fun y h => by cases h⟩ (fun _ _ _ _ => trivial) ?_ ?_
  · intro i x Ha Hb hi ⟨da, ka, ys, ey, ly, sy⟩ ⟨e1, e2⟩
    subst e1
    subst e2
    refine ⟨rfl, ?_⟩
    refine ⟨_, rfl, d, c, _, 5, (fun _ x => ∃ y, x = .str y ∧ Sgn y), rfl, da, .inr ⟨"abcmz", rfl, rfl, fun i s hs => ⟨_, rfl, s, rfl, List.mem_of_getElem? hs⟩⟩, by decide, by decide, fun i' x Hc px dc kc => ?_⟩
    obtain ⟨y, rfl, gy⟩ := px
    refine ⟨_, kc D1 _ D1d D1c ey, ?_, dc.off D1d D1c, (ka.trans kc).put nD1, ys ++ [y], by rw [upd_same, List.map_append] <;> rfl, by rw [List.length_append, ly] <;> rfl, fun q hq => ?_⟩
    · rw [List.length_map, ly]
      omega
    · rcases List.mem_append.mp hq with h | h
      · exact sy q h
      · rw [List.mem_singleton.mp h]
        exact gy
  · intro H2 ⟨d2, k2, ys, ey, ly, sy⟩
    refine ⟨_, D1, ys, rfl, rfl, .inl (SqL.of ey), by rw [sum_sgn ys sy]; show ys.length + ys.length * 0 ≤ 16777216; omega, ?_⟩
    have fl : NameL (Txt.join "" ys) := join_name sy (by omega) (by omega)
    have K2 : Keep d c H H2 := kp1.trans k2
    refine ⟨_, rfl, by show 7 ≤ sizeLine; decide, fun p np => ?_⟩
    obtain ⟨pd, pc⟩ := d2.apart np
    refine ⟨d, c, _, 7, (fun _ x => ∃ z, x = .str z ∧ NameL z), rfl, d2.off pd pc, .inl ⟨p, words7.map V.str, rfl, pd, pc, upd_same, rfl, items_strs words7_ok⟩, by decide, by decide, fun i x H3 px d3 k3 => ?_⟩
    obtain ⟨wd, rfl, wok⟩ := px
    have K3 : Keep d c H H3 := (K2.trans (Keep.of_same (same_new np))).trans k3
    refine ⟨_, rfl, _, rfl, _, rfl, _, rfl, by show 3 ≤ sizeLine; decide, fun p3 np3 => ?_⟩
    obtain ⟨pd3, pc3⟩ := d3.apart np3
    refine ⟨d, c, _, 3, (fun _ x => ∃ z, x = .str z ∧ NameL z), rfl, d3.off pd3 pc3, .inl ⟨p3, [Txt.join "" ys, Txt.join "" ys, wd].map V.str, rfl, pd3, pc3, upd_same, rfl, items_strs fun z hz => ?_⟩, by decide, by decide, fun i x H4 px d4 k4 => ?_⟩
    · simp only [List.mem_cons, List.not_mem_nil, or_false] at hz
      rcases hz with rfl | rfl | rfl
      · exact fl
      · exact fl
      · exact wok
    obtain ⟨f, rfl, fok⟩ := px
    have K4 : Keep d c H H4 := (K3.trans (Keep.of_same (same_new np3))).trans k4
    refine ⟨⟨_, rfl⟩, _, _, rfl, rfl, by decide +kernel, by decide +kernel, fun p4 np4 => ?_⟩
    rw [split_ends]
    obtain ⟨H5, e5⟩ : ∃ X, X = upd H4 p4 (.lst (ends.map V.str)) := ⟨_, rfl⟩
    have at5 : H5 p4 = some (.lst (ends.map V.str)) := by rw [e5]; exact upd_same
    have s5 : Same H4 H5 := e5 ▸ same_new np4
    rw [← e5]
    have fl8 := fok.len
    refine ⟨p4, rfl, ⟨_, SqL.of at5⟩, fun D4 nD4 => lc_list (xs := ends.map V.str) (fun i H' => Same H5 H' ∧ H' D4 = some (.lst (((ends.take i).map (cand f)).map V.str))) ⟨same_new nD4, by rw [upd_same] <;> rfl⟩ (fun i H' _ q => Same.sql q.1 (SqL.of at5)) ?_ ?_⟩
    · intro i x Ha hx ⟨q1, q2⟩
      rw [List.getElem?_map] at hx
      obtain ⟨e, he, rfl⟩ := Option.map_eq_some_iff.mp hx
      have l2 := (ends_ok e (List.mem_of_getElem? he)).1
      rw [← len_tl] at l2
      have l6 := cutS_length f none (some 6)
      refine ⟨rfl, ?_⟩
      refine ⟨_, rfl, _, rfl, f, rfl, by omega, _, rfl, _, _, rfl, rfl, by omega, _, q2, ?_, ?_, ?_⟩
      · rw [List.length_map, List.length_map, List.length_take]
        have : ends.length = 14 := rfl
        omega
      · intro b o eb
        rw [upd_ne (ne_of_none eb nD4)]
        exact q1 b o eb
      · rw [upd_same, take_more he, List.map_append, List.map_append] <;> rfl
    · intro H6 ⟨s6, a6⟩
      rw [List.length_map, List.take_length] at a6
      have s46 : Same H4 H6 := s5.trans s6
      have l4 := K4 l _ ld lc hl
      have l6 := s46 _ _ l4
      refine ⟨_, rfl, .inl ⟨rfl, _, SqL.of l6⟩, ?_⟩
      refine ⟨_, rfl, by show 1 ≤ sizeLine; decide, fun q nq => ⟨_, rfl, q, D4, _, _, rfl, rfl, upd_same, by rw [upd_ne (ne_of_none a6 nq)]; exact a6, by rw [List.length_map, List.length_map]; show 1 + 14 ≤ sizeLine; omega, fun r nr => ?_⟩⟩
      obtain ⟨H7, e7⟩ : ∃ X, X = upd (upd H6 q (.lst [.str f])) r (.lst ([.str f] ++ (ends.map (cand f)).map V.str)) := ⟨_, rfl⟩
      have s7 : Same H6 H7 := e7 ▸ (same_new nq).trans (same_new nr)
      have at7 : H7 r = some (.lst ((f :: ends.map (cand f)).map V.str)) := by rw [e7, upd_same] <;> rfl
      rw [← e7]
      refine ⟨r, rfl, ⟨_, SqL.of at7⟩, fun D7 nD7 => lc_list (xs := (f :: ends.map (cand f)).map V.str) (fun i H' => Same H7 H' ∧ H' D7 = some (.lst ((free fs ((f :: ends.map (cand f)).take i)).map V.str))) ⟨same_new nD7, by rw [upd_same] <;> rfl⟩ (fun i H' _ q => Same.sql q.1 (SqL.of at7)) ?_ ?_⟩
      · intro i x Ha hx ⟨q1, q2⟩
        rw [List.getElem?_map] at hx
        obtain ⟨e, he, rfl⟩ := Option.map_eq_some_iff.mp hx
        refine ⟨rfl, ?_⟩
        refine ⟨_, rfl, _, rfl, l, _, rfl, .inl (SqL.of (q1 _ _ (s7 _ _ l6))), rfl, flat_strs fs, _, rfl, ?_⟩
        rw [inV_strs, free_step he]
        by_cases hm : e ∈ fs
        · rw [if_pos hm, decide_eq_true hm, List.append_nil]
          exact iteF ⟨q1, q2⟩
        · rw [if_neg hm, decide_eq_false hm]
          show if true = true then _ else _
          rw [if_pos rfl]
          refine ⟨_, rfl, _, q2, ?_, ?_, ?_⟩
          · rw [List.length_map]
            have h1 : (free fs ((f :: ends.map (cand f)).take i)).length ≤ ((f :: ends.map (cand f)).take i).length := List.length_filter_le _ _
            rw [List.length_take, List.length_cons, List.length_map] at h1
            have : ends.length = 14 := rfl
            omega
          · intro b o eb
            rw [upd_ne (ne_of_none eb nD7)]
            exact q1 b o eb
          · rw [upd_same, List.map_append] <;> rfl
      · intro H8 ⟨s8, a8⟩
        rw [List.length_map, List.take_length] at a8
        obtain ⟨x, rest, ex, xok, xn⟩ := free_some fok few
        rw [ex] at a8
        have l8 := s8 _ _ (s7 _ _ l6)
        refine ⟨D7, _, 0, .str x, rfl, rfl, SqL.of a8, (atI_nat (j := 0) rfl : atI _ ((0 : Nat) : Int) = _), ?_⟩
        refine ⟨l, _, _, rfl, rfl, l8, by rw [List.length_map]; omega, ?_⟩
        have s48 : Same H4 H8 := s46.trans (s7.trans s8)
        refine nx _ _ _ _ _ _ _ x xok xn ((d4.mono s48).off ld lc) (fun b o b1 b2 b3 eb => ?_) (by rw [upd_same, List.map_append] <;> rfl)
        rw [upd_ne b3]
        exact s48 _ _ (K4 b o b1 b2 eb)
def tNames (K : PySem.W.Frag) : TS := tSeq (tAsg (tLst tNil) (gName 2)) (tSeq (tFor (iRng1 (tCons (tVar 1) tNil)) (gName 3) (tNameTurn K)) (tRet (tVar 2)))
theorem names_ok {K : PySem.W.Frag} {D : Ends} {H : Hp} {d c : Addr} {n : Nat} {u2 u3 u4 u5 u6 u7 u8 u9 : Option V} (dr : DrawAt H d c) (n12 : n ≤ 12)
    (k : ∀ (l : Addr) (fs : List Str) (H' : Hp), fs.length = n → fs.Nodup → (∀ z ∈ fs, NameL z) → H l = none → H' l = some (.lst (fs.map V.str)) → DrawAt H' d c → Keep d c H H' → D.rt (.ref l) H') :
    tNames K D [some (.ref d), some (.int (n : Int)), u2, u3, u4, u5, u6, u7, u8, u9] H := by
  refine ⟨by show 0 ≤ sizeLine; decide, fun l nl => ?_⟩
  obtain ⟨ld, lc⟩ := dr.apart nl
  refine ⟨_, rfl, _, rfl, by omega, by omega, ?_⟩
  refine for_it (walk_range (lo := 0) (n := ((n : Int)).toNat)) (fun j σ' H' => (∃ u3 u4 u5 u6 u7 u8 u9, σ' = [some (.ref d), some (.int (n : Int)), some (.ref l), u3, u4, u5, u6, u7, u8, u9]) ∧ DrawAt H' d c ∧ Keep d c H H' ∧
    ∃ fs : List Str, H' l = some (.lst (fs.map V.str)) ∧ fs.length = j ∧ fs.Nodup ∧ ∀ z ∈ fs, NameL z) ⟨⟨_, _, _, _, _, _, _, rfl⟩, dr.off ld lc, Keep.refl.put nl, [], upd_same, rfl, List.nodup_nil, fun z h => by cases h⟩ (fun _ _ _ _ _ => trivial) ?_ ?_
  · intro j x σ' Ha Hb hj ⟨⟨u3, u4, u5, u6, u7, u8, u9, e⟩, da, ka, fs, el, ln, nd, ok⟩ ⟨e1, e2⟩
    subst e
    subst e1
    subst e2
    refine nameTurn_ok da ld lc el (by omega) fun u4 u5 u6 u7 u8 u9 H' x xok xn d' k' l' => ⟨⟨_, _, _, _, _, _, _, rfl⟩, d', fun b o b1 b2 e => ?_, fs ++ [x], l', by rw [List.length_append, ln] <;> rfl, ?_, fun z hz => ?_⟩
    · exact k' b o b1 b2 (ne_of_none e nl) (ka b o b1 b2 e)
    · refine List.nodup_append.mpr ⟨nd, by simp, fun a ha b hb => ?_⟩
      rw [List.mem_singleton.mp hb]
      exact fun z => xn (z ▸ ha)
    · rcases List.mem_append.mp hz with h | h
      · exact ok z h
      · rw [List.mem_singleton.mp h]
        exact xok
  · intro σ' H' ⟨⟨u3, u4, u5, u6, u7, u8, u9, e⟩, da, ka, fs, el, ln, nd, ok⟩
    subst e
    exact ⟨_, rfl, k l fs H' (by omega) nd ok nl el da ka⟩
section
variable {P : Program} {w : World} {K : PySem.W.Frag} {mg : Str → Option Value} {base : Heap}
theorem scNames : FnScope ["_law_state", "_law_many", "_law_found", "_law_k", "_law_flag", "_law_word", "_law_others", "_law_j", "_law_ending", "_law_lone"] ["_law_state", "_law_many"] (defScope sNames) := ⟨rfl, rfl, rfl, by decide +kernel, rfl, by decide +kernel, by decide +kernel⟩
theorem ok_names {f fD fP : Addr} {fd fdD fdP : FuncData} (F : Fun K "_law_names" "_law_names" sNames f fd) (T : Nm mg) (FD : Fun K "_law_draw" "_law_draw" sDraw fD fdD) (bD : Binds K fdD ["_law_state", "_law_many"] []) (gD : mg "_law_draw" = some (.ref fD))
    (FP : Fun K "_law_pick" "_law_pick" sPick fP fdP) (bP : Binds K fdP ["_law_state", "_law_some"] []) (gP : mg "_law_pick" = some (.ref fP)) : FnOk P w K mg base CX0 3 f fd ["_law_state", "_law_many"] (spNames K) := by
  have GD : FnOk P w K mg base CX0 1 fD fdD ["_law_state", "_law_many"] spDraw := ok_draw FD T
  have GP : FnOk P w K mg base CX0 2 fP fdP ["_law_state", "_law_some"] (spPick K) := ok_pick FP T FD bD gD
  refine F.ok scNames (fun vs H Q E h => ?_) (fun cdv A outer s H vs Q E hr h => ?_)
  · obtain ⟨d, c, n, rfl, _⟩ := h
    rfl
  · obtain ⟨d, c, n, rfl, hD, n1, n12, k⟩ := h
    have hr1 : Room 1 _ := hr.mono (by decide)
    refine ⟨tNames K, ?_, names_ok hD n12 k⟩
    exact pss_cons (ps_set (i := 2) scNames.nd rfl (.inr rfl) (pe_lst pa_nil))
      (pss_cons (ps_for PassesOwn.never rfl (pi_range1 rfl T.rng (pa_cons (pv 1) pa_nil)) (pg_name (i := 3) scNames.nd rfl (.inl rfl))
        (pss_cons (ps_set (i := 4) scNames.nd rfl (.inr rfl) (pe_join pe_str (pe_lc (own := [("_law_j", 7)]) (g := gName 7) (tt := tYes) rfl scNames.nd (pi_range1 rfl T.rng (pa_cons (pe_op op_add pe_int (pe_call GD hr1 rfl gD FD.kp bD .nil pass0 (pa_cons (pv 0) (pa_cons pe_int pa_nil)))) pa_nil))
          (blkOk_by (N := ["_law_state", "_law_many", "_law_found", "_law_k", "_law_flag", "_law_word", "_law_others", "_law_j", "_law_ending", "_law_lone"]) (sc := defScope sNames) (by decide +kernel))
          (fun _ _ _ _ _ => pg_name (i := 7) scNames.nd rfl (Or.inl rfl)) (fun _ _ _ _ _ => pts_nil) (fun _ _ _ _ _ => pe_call GP hr rfl gP FP.kp bP .nil pass0 (pa_cons (pv 0) (pa_cons pe_str pa_nil))))))
        (pss_cons (ps_set (i := 5) scNames.nd rfl (.inl rfl) (pe_call GP hr rfl gP FP.kp bP .nil pass0 (pa_cons (pv 0) (pa_cons (pe_lst (pa_cons pe_str (pa_cons pe_str (pa_cons pe_str (pa_cons pe_str (pa_cons pe_str (pa_cons pe_str (pa_cons pe_str pa_nil)))))))) pa_nil))))
        (pss_cons (ps_set (i := 4) scNames.nd rfl (.inr rfl) (pe_call GP hr rfl gP FP.kp bP .nil pass0 (pa_cons (pv 0) (pa_cons (pe_lst (pa_cons (pv 4) (pa_cons (pv 4) (pa_cons (pv 5) pa_nil)))) pa_nil))))
        (pss_cons (ps_setLc (i := 6) (own := [("_law_ending", 8)]) (g := gName 8) (tt := tYes) rfl scNames.nd rfl rfl (sw_true rfl rfl rfl (by decide +kernel)) (pi_list (pe_split pe_str pe_str))
          (blkOk_by (N := ["_law_state", "_law_many", "_law_found", "_law_k", "_law_flag", "_law_word", "_law_others", "_law_j", "_law_ending", "_law_lone"]) (sc := defScope sNames) (by decide +kernel))
          (fun _ _ _ _ _ => pg_name (i := 8) scNames.nd rfl (Or.inl rfl)) (fun _ _ _ _ _ => pts_nil) (fun _ _ _ _ _ => pe_op op_add_str (pe_slice sl_str (pv 4) po_none (po_some pe_int)) (pv 8)))
        (pss_one (ps_expr (pe_bm PySem.F.plainAttrs_list PySem.F.slot_list_append PySem.F.type_list_append mt_append (pv 2) (pa_cons (pe_ix ix_list (pe_lc (own := [("_law_lone", 9)]) (g := gName 9) (tt := tTest (tOp (rIn K true) (tVar 9) (tVar 2))) rfl scNames.nd (pi_list (pe_op op_cat (pe_lst (pa_cons (pv 4) pa_nil)) (pv 6)))
          (blkOk_by (N := ["_law_state", "_law_many", "_law_found", "_law_k", "_law_flag", "_law_word", "_law_others", "_law_j", "_law_ending", "_law_lone"]) (sc := defScope sNames) (by decide +kernel))
          (fun _ _ _ _ _ => pg_name (i := 9) scNames.nd rfl (Or.inl rfl)) (fun _ _ _ _ _ => pts_one (pt_cmpR op_notIn_seq (pv 9) (pv 2) rfl)) (fun _ _ _ _ _ => pv 9)) pe_int (fun _ _ => rfl)) pa_nil)))))))))
      (pss_one (ps_ret (pv 2))))
end
end K50


namespace K50
open PySem L2 TL
abbrev sTree : Stmt := top 35
/-- a dict of texts by texts -/
def prs (t : List (Str × Str)) : List (Key × V) := t.map fun p => (Sum.inr p.1, V.str p.2)
theorem prs_app (t : List (Str × Str)) (f z : Str) : prs t ++ [(Sum.inr f, V.str z)] = prs (t ++ [(f, z)]) := by
  unfold prs
  rw [List.map_append] <;> rfl
theorem prs_any (t : List (Str × Str)) (f : Str) : ((prs t).any fun kv => decide (kv.1 = Sum.inr f)) = decide (f ∈ t.map Prod.fst) := by
  induction t with
  | nil => rfl
  | cons p t ih =>
    show (decide ((Sum.inr p.1 : Key) = Sum.inr f) || ((prs t).any fun kv => decide (kv.1 = Sum.inr f))) = _
    rw [ih, Bool.eq_iff_iff]
    simp only [Bool.or_eq_true, decide_eq_true_eq, List.map_cons, List.mem_cons]
    constructor
    · rintro (h | h)
      · exact .inl (Sum.inr.inj h).symm
      · exact .inr h
    · rintro (h | h)
      · exact .inl (by rw [h])
      · exact .inr h
theorem put_new {t : List (Str × Str)} {f z : Str} (n : f ∉ t.map Prod.fst) : putK (prs t) (Sum.inr f) (V.str z) = prs (t ++ [(f, z)]) := by
  unfold putK
  rw [prs_any, decide_eq_false n, if_neg (by decide), prs_app]
/-- flags in the order of their making: each one's parent is the root or made before -/
structure TreeOk (t : List (Str × Str)) : Prop where
  one : 1 ≤ t.length
  few : t.length ≤ 12
  nd : (t.map Prod.fst).Nodup
  nm : ∀ z ∈ t.map Prod.fst, NameL z
  up : ∀ (i : Nat) (p : Str × Str), t[i]? = some p → p.2 = "" ∨ p.2 ∈ (t.take i).map Prod.fst
def spTree : Sp := fun vs H Q _ => ∃ (d c : Addr) (n : Nat), vs = [.ref d, .int (n : Int)] ∧ DrawAt H d c ∧ 1 ≤ n ∧ n ≤ 12 ∧
  ∀ (q : Addr) (t : List (Str × Str)) (H' : Hp), TreeOk t → t.length = n → H q = none → H' q = some (.dK (prs t)) → DrawAt H' d c → Keep d c H H' → Q (.ref q) H'
theorem cut_take {xs : List V} {j : Nat} (h : j ≤ xs.length) : cutV xs none (some (j : Int)) = xs.take j := by
  have e : HT.sIx xs.length xs.length (some (j : Int)) = min j xs.length := HT.sIx_nat _ _ j
  show (xs.drop 0).take (HT.sIx xs.length xs.length (some (j : Int)) - 0) = xs.take j
  rw [e, List.drop_zero, Nat.sub_zero, Nat.min_eq_left h]
theorem cut_sub {xs : List V} (ne : xs ≠ []) : cutV xs (some (-2)) none ≠ [] ∧ ∀ x ∈ cutV xs (some (-2)) none, x ∈ xs := by
  have l0 : 0 < xs.length := List.length_pos_iff.mpr ne
  have e : HT.sIx xs.length 0 (some (-2)) = ((-2 : Int) + (xs.length : Int)).toNat := by
    show (if (-2 : Int) < 0 then ((-2 : Int) + (xs.length : Int)).toNat else min (-2 : Int).toNat xs.length) = _
    rw [if_pos (by decide)]
  have c : cutV xs (some (-2)) none = (xs.drop ((-2 : Int) + (xs.length : Int)).toNat).take (xs.length - ((-2 : Int) + (xs.length : Int)).toNat) := by
    show (xs.drop (HT.sIx xs.length 0 (some (-2)))).take (xs.length - HT.sIx xs.length 0 (some (-2))) = _
    rw [e]
  rw [c]
  refine ⟨fun z => ?_, fun x hx => List.mem_of_mem_drop (List.mem_of_mem_take hx)⟩
  have := congrArg List.length z
  rw [List.length_take, List.length_drop, List.length_nil] at this
  omega
theorem at_back {xs : List V} (ne : xs ≠ []) : ∃ x, atI xs (-1) = some x ∧ x ∈ xs := by
  have l0 : 0 < xs.length := List.length_pos_iff.mpr ne
  refine ⟨xs[xs.length - 1], ?_, List.getElem_mem _⟩
  unfold atI ixN
  rw [if_neg (by decide), if_pos (by omega)]
  show xs[_]? = _
  rw [show ((-1 : Int) + (xs.length : Int)).toNat = xs.length - 1 by omega, List.getElem?_eq_getElem (by omega)]
def tLastTwo (K : PySem.W.Frag) : TE := tSl (rSlL K) (tVar 7) (tPart (tUn (rU fun i => .int (-i)) (tC (.int 2)))) tNoPart
def tTreeTurn (K : PySem.W.Frag) : TS := tSeq (tAsg (tOp rCat (tLst (tCons (tC (.str "")) tNil)) (tSl (rSlL K) (tVar 2) tNoPart (tPart (tVar 5)))) (gName 7))
  (tSeq (tAsg (tLst (tCons (tOp (rIxL K) (tVar 7) (tUn (rU fun i => .int (-i)) (tC (.int 1)))) (tCons (tC (.str "")) (tCons (tCall (spPick K) [] E0 (tCons (tVar 0) (tCons (tVar 7) tNil))) (tCons (tCall (spPick K) [] E0 (tCons (tVar 0) (tCons (tVar 7) tNil))) (tCons (tCall (spPick K) [] E0 (tCons (tVar 0) (tCons (tLastTwo K) tNil))) tNil)))))) (gName 8))
  (sDPut (tVar 4) (tVar 6) (tOp (rIxL K) (tVar 8) (tVar 3))))
theorem treeTurn_ok {K : PySem.W.Frag} {D : Ends} {H : Hp} {u1 u7 u8 : Option V} {d c pn q : Addr} {w j : Nat} {fs : List Str} {f : Str} {t : List (Str × Str)} (dr : DrawAt H d c) (qd : q ≠ d) (qc : q ≠ c) (pd : pn ≠ d) (pc : pn ≠ c) (hn : H pn = some (.lst (fs.map V.str))) (hq : H q = some (.dK (prs t)))
    (hw : w < 5) (hj : j ≤ fs.length) (f12 : fs.length ≤ 12) (fresh : f ∉ t.map Prod.fst) (t12 : t.length ≤ 12)
    (nx : ∀ u7 u8 H' (z : Str), (z = "" ∨ z ∈ fs.take j) → DrawAt H' d c → (∀ b o, b ≠ d → b ≠ c → b ≠ q → H b = some o → H' b = some o) → H' q = some (.dK (prs (t ++ [(f, z)]))) → D.nx [some (.ref d), u1, some (.ref pn), some (.int (w : Int)), some (.ref q), some (.int (j : Int)), some (.str f), u7, u8] H') :
    tTreeTurn K D [some (.ref d), u1, some (.ref pn), some (.int (w : Int)), some (.ref q), some (.int (j : Int)), some (.str f), u7, u8] H := by
  have big : 1000 ≤ sizeLine := by decide
  let A : List Str := "" :: fs.take j
  have lenA : A.length = j + 1 := by
    show (fs.take j).length + 1 = j + 1
    rw [List.length_take, Nat.min_eq_left hj]
  have mem : ∀ z ∈ A, z = "" ∨ z ∈ fs.take j := fun z hz => List.mem_cons.mp hz
  refine ⟨by show 1 ≤ sizeLine; omega, fun p1 n1 => ⟨_, rfl, _, rfl, _, rfl, pn, fs.map V.str, rfl, SqL.of ?_, fun p2 n2 => ⟨p1, p2, [.str ""], _, rfl, rfl, ?_, upd_same, ?_, fun pa na => ?_⟩⟩⟩
  · rw [upd_ne (ne_of_none hn n1)]
    exact hn
  · rw [upd_ne (ne_of_none upd_same n2), upd_same]
  · have := cutV_length (fs.map V.str) none (some (j : Int))
    rw [List.length_map] at this
    show 1 + _ ≤ sizeLine
    omega
  rw [cut_take (by rw [List.length_map]; exact hj), ← List.map_take] at na ⊢
  obtain ⟨H1, e1⟩ : ∃ X, X = upd (upd (upd H p1 (.lst [.str ""])) p2 (.lst ((fs.take j).map V.str))) pa (.lst ([.str ""] ++ (fs.take j).map V.str)) := ⟨_, rfl⟩
  have s1 : Same H H1 := e1 ▸ ((same_new n1).trans (same_new n2)).trans (same_new na)
  have at1 : H1 pa = some (.lst (A.map V.str)) := by rw [e1, upd_same] <;> rfl
  have pad : pa ≠ d ∧ pa ≠ c := ((dr.mono (same_new n1)).mono (same_new n2)).apart na
  rw [← e1]
  have dr1 := dr.mono s1
  have neA : A.map V.str ≠ [] := by simp [A]
  obtain ⟨x0, hx0, mx0⟩ := at_back neA
  obtain ⟨z0, mz0, rfl⟩ := List.mem_map.mp mx0
  refine ⟨_, rfl, 1, rfl, pa, _, _, .str z0, rfl, rfl, SqL.of at1, hx0, ?_⟩
  refine ⟨_, rfl, _, rfl, d, c, _, A.length, (fun _ x => ∃ z, x = .str z ∧ z ∈ A), rfl, dr1, .inl ⟨pa, A.map V.str, rfl, pad.1, pad.2, at1, by rw [List.length_map], items_strs fun z hz => hz⟩, by omega, by omega, fun i x H2 px dr2 k2 => ?_⟩
  obtain ⟨z1, rfl, mz1⟩ := px
  have at2 := k2 pa _ pad.1 pad.2 at1
  refine ⟨_, rfl, _, rfl, d, c, _, A.length, (fun _ x => ∃ z, x = .str z ∧ z ∈ A), rfl, dr2, .inl ⟨pa, A.map V.str, rfl, pad.1, pad.2, at2, by rw [List.length_map], items_strs fun z hz => hz⟩, by omega, by omega, fun i x H3 px dr3 k3 => ?_⟩
  obtain ⟨z2, rfl, mz2⟩ := px
  have at3 := k3 pa _ pad.1 pad.2 at2
  refine ⟨_, rfl, _, rfl, 2, rfl, _, rfl, pa, _, rfl, SqL.of at3, fun p4 n4 => ?_⟩
  obtain ⟨c1, c2⟩ := cut_sub neA
  have p4d := dr3.apart n4
  have l4 := cutV_length (A.map V.str) (some (-2)) none
  rw [List.length_map] at l4
  refine ⟨d, c, _, (cutV (A.map V.str) (some (-2)) none).length, (fun _ x => ∃ z, x = .str z ∧ z ∈ A), rfl, dr3.off p4d.1 p4d.2, .inl ⟨p4, _, rfl, p4d.1, p4d.2, upd_same, rfl, fun i x hx => ?_⟩, List.length_pos_iff.mpr c1, by omega, fun i x H4 px dr4 k4 => ?_⟩
  · obtain ⟨z, mz, rfl⟩ := List.mem_map.mp (c2 x (List.mem_of_getElem? hx))
    exact ⟨z, rfl, mz⟩
  obtain ⟨z3, rfl, mz3⟩ := px
  have K4 : Keep d c H H4 := ((((Keep.of_same s1).trans k2).trans k3).trans (Keep.of_same (same_new n4))).trans k4
  refine ⟨by show 5 ≤ sizeLine; omega, fun p5 n5 => ?_⟩
  let B : List Str := [z0, "", z1, z2, z3]
  have mB : ∀ z ∈ B, z ∈ A := fun z hz => by
    simp only [B, List.mem_cons, List.not_mem_nil, or_false] at hz
    rcases hz with rfl | rfl | rfl | rfl | rfl
    · exact mz0
    · exact List.mem_cons_self ..
    · exact mz1
    · exact mz2
    · exact mz3
  have lB : w < B.length := hw
  have hB : (B.map V.str)[w]? = some (.str B[w]) := by rw [List.getElem?_map, List.getElem?_eq_getElem lB] <;> rfl
  have qH4 := K4 q _ qd qc hq
  have q5 : q ≠ p5 := ne_of_none qH4 n5
  refine ⟨_, rfl, _, rfl, p5, B.map V.str, _, .str B[w], rfl, rfl, SqL.of upd_same, atI_nat hB, ?_⟩
  refine ⟨_, rfl, _, rfl, q, _, rfl, DPut.k (k := Sum.inr f) (kvs := prs t) (by rw [upd_ne q5]; exact qH4) (by unfold prs; rw [List.length_map]; omega), ?_⟩
  rw [put_new fresh]
  have p5d := dr4.apart n5
  refine nx _ _ _ B[w] (mem _ (mB _ (List.getElem_mem _))) ((dr4.off p5d.1 p5d.2).off qd qc) (fun b o b1 b2 b3 eb => ?_) upd_same
  rw [upd_ne b3, upd_ne (ne_of_none (K4 b o b1 b2 eb) n5)]
  exact K4 b o b1 b2 eb
def tTree (K : PySem.W.Frag) : TS := tSeq (tPar3 2 3 4 (tCons (tCall (spNames K) [] E0 (tCons (tVar 0) (tCons (tVar 1) tNil))) (tCons (tCall spDraw [] E0 (tCons (tVar 0) (tCons (tC (.int 5)) tNil))) (tCons tDNewK tNil))))
  (tSeq (tFor (iEnum K (tCons (tVar 2) tNil)) (gTup K 2 (gCons (gName 5) (gCons (gName 6) gNil))) (tTreeTurn K)) (tRet (tVar 4)))
theorem tree_ok {K : PySem.W.Frag} {D : Ends} {H : Hp} {d c : Addr} {n : Nat} {u2 u3 u4 u5 u6 u7 u8 : Option V} (dr : DrawAt H d c) (n1 : 1 ≤ n) (n12 : n ≤ 12)
    (k : ∀ (q : Addr) (t : List (Str × Str)) (H' : Hp), TreeOk t → t.length = n → H q = none → H' q = some (.dK (prs t)) → DrawAt H' d c → Keep d c H H' → D.rt (.ref q) H') :
    tTree K D [some (.ref d), some (.int (n : Int)), u2, u3, u4, u5, u6, u7, u8] H := by
  refine ⟨_, rfl, _, rfl, d, c, n, rfl, dr, n1, n12, fun pn fs H1 ln nd ok npn hn dr1 k1 => ?_⟩
  have pnd := dr.apart npn
  refine ⟨_, rfl, d, c, 5, rfl, dr1, by decide, by decide, fun w H2 w0 w5 dr2 k2 q nq => ?_⟩
  obtain ⟨qd, qc⟩ := dr2.apart nq
  have hn2 := k2 pn _ pnd.1 pnd.2 hn
  have K2 : Keep d c H H2 := k1.trans k2
  refine ⟨_, _, _, rfl, ?_⟩
  obtain ⟨w', ew⟩ : ∃ w' : Nat, w = (w' : Int) := ⟨w.toNat, by omega⟩
  subst ew
  refine ⟨_, rfl, pn, fs.map V.str, rfl, SqL.of (by rw [upd_ne (ne_of_none hn2 nq)]; exact hn2), ?_⟩
  refine for_it walk_enum (fun j σ' H' => (∃ u5 u6 u7 u8, σ' = [some (.ref d), some (.int (n : Int)), some (.ref pn), some (.int (w' : Int)), some (.ref q), u5, u6, u7, u8]) ∧ DrawAt H' d c ∧ H' pn = some (.lst (fs.map V.str)) ∧ Keep d c H2 H' ∧
    ∃ t : List (Str × Str), H' q = some (.dK (prs t)) ∧ t.map Prod.fst = fs.take j ∧ ∀ (i : Nat) (p : Str × Str), t[i]? = some p → p.2 = "" ∨ p.2 ∈ (t.take i).map Prod.fst)
    ⟨⟨_, _, _, _, rfl⟩, dr2.off qd qc, by rw [upd_ne (ne_of_none hn2 nq)]; exact hn2, Keep.refl.put nq, [], upd_same, by rw [List.take_zero] <;> rfl, fun i p h => by simp at h⟩ (fun j σ' H' _ q => SqL.of q.2.2.1) ?_ ?_
  · intro j T σ' Ha Hb hj ⟨⟨u5, u6, u7, u8, e⟩, da, hna, ka, t, hq, et, up⟩ ⟨T', y, z, eT, nT, eH, ey, ez⟩
    subst e
    subst eT
    subst eH
    cases ey
    rw [List.length_map] at hj
    have ez2 : (fs.map V.str)[j]? = some z := ez
    rw [List.getElem?_map] at ez2
    obtain ⟨f, hf, rfl⟩ := Option.map_eq_some_iff.mp ez2
    have tl := congrArg List.length et
    rw [List.length_map, List.length_take] at tl
    have fresh : f ∉ t.map Prod.fst := by
      rw [et]
      intro hm
      obtain ⟨i, hi⟩ := List.mem_iff_getElem?.mp hm
      have hi2 := (List.getElem?_eq_some_iff.mp hi).1
      rw [List.length_take] at hi2
      rw [List.getElem?_take, if_pos (by omega)] at hi
      have := (List.getElem?_inj (by omega) nd).mp (hi.trans hf.symm)
      omega
    have hT := da.apart nT
    have sT : Same Ha (upd Ha T' (.tup [.int (j : Int), .str f])) := same_new nT
    refine ⟨T', _, rfl, .inl (.inl upd_same), rfl, ?_⟩
    refine ⟨_, _, rfl, _, _, rfl, rfl, ?_⟩
    refine treeTurn_ok (da.mono sT) qd qc pnd.1 pnd.2 (sT _ _ hna) (sT _ _ hq) (by omega) (by omega) (by omega) fresh (by omega) fun u7 u8 H' z hz d' k' q' => ⟨⟨_, _, _, _, rfl⟩, d', k' pn _ pnd.1 pnd.2 (ne_of (sT _ _ hna) (sT _ _ hq) (by intro z; cases z)) (sT _ _ hna), fun b o b1 b2 e => ?_, t ++ [(f, z)], q', ?_, ?_⟩
    · exact k' b o b1 b2 (ne_of_none e nq) (sT _ _ (ka b o b1 b2 e))
    · rw [List.map_append, et, take_more hf] <;> rfl
    · intro i p h
      by_cases hi : i < t.length
      · rw [List.getElem?_append_left hi] at h
        rw [List.take_append_of_le_length (by omega)]
        exact up i p h
      · have hl := (List.getElem?_eq_some_iff.mp h).1
        rw [List.length_append] at hl
        have ei : i = t.length := by
          have : ([(f, z)] : List (Str × Str)).length = 1 := rfl
          omega
        subst ei
        rw [List.getElem?_append_right (Nat.le_refl _), Nat.sub_self] at h
        have ep : (f, z) = p := Option.some.inj h
        subst ep
        rw [List.take_append_of_le_length (Nat.le_refl _), List.take_length, et]
        exact hz
  · intro σ' H' ⟨⟨u5, u6, u7, u8, e⟩, da, hna, ka, t, hq, et, up⟩
    subst e
    rw [List.length_map, List.take_length] at et
    have lt := congrArg List.length et
    rw [List.length_map] at lt
    exact ⟨_, rfl, k q t H' ⟨by omega, by omega, by rw [et]; exact nd, by rw [et]; exact ok, up⟩ (by omega) (K2.free nq qd qc) hq da (K2.trans ka)⟩
section
variable {P : Program} {w : World} {K : PySem.W.Frag} {mg : Str → Option Value} {base : Heap}
theorem scTree : FnScope ["_law_state", "_law_many", "_law_names_here", "_law_way", "_law_found", "_law_k", "_law_flag", "_law_above", "_law_some"] ["_law_state", "_law_many"] (defScope sTree) := ⟨rfl, rfl, rfl, by decide +kernel, rfl, by decide +kernel, by decide +kernel⟩
theorem ok_tree {f fD fP fN : Addr} {fd fdD fdP fdN : FuncData} (F : Fun K "_law_tree" "_law_tree" sTree f fd) (T : Nm mg) (FD : Fun K "_law_draw" "_law_draw" sDraw fD fdD) (bD : Binds K fdD ["_law_state", "_law_many"] []) (gD : mg "_law_draw" = some (.ref fD))
    (FP : Fun K "_law_pick" "_law_pick" sPick fP fdP) (bP : Binds K fdP ["_law_state", "_law_some"] []) (gP : mg "_law_pick" = some (.ref fP))
    (FN : Fun K "_law_names" "_law_names" sNames fN fdN) (bN : Binds K fdN ["_law_state", "_law_many"] []) (gN : mg "_law_names" = some (.ref fN)) : FnOk P w K mg base CX0 4 f fd ["_law_state", "_law_many"] spTree := by
  have GD : FnOk P w K mg base CX0 1 fD fdD ["_law_state", "_law_many"] spDraw := ok_draw FD T
  have GP : FnOk P w K mg base CX0 2 fP fdP ["_law_state", "_law_some"] (spPick K) := ok_pick FP T FD bD gD
  have GN : FnOk P w K mg base CX0 3 fN fdN ["_law_state", "_law_many"] (spNames K) := ok_names FN T FD bD gD FP bP gP
  refine F.ok scTree (fun vs H Q E h => ?_) (fun cdv A outer s H vs Q E hr h => ?_)
  · obtain ⟨d, c, n, rfl, _⟩ := h
    rfl
  · obtain ⟨d, c, n, rfl, hD, n1, n12, k⟩ := h
    have hr1 : Room 1 _ := hr.mono (by decide)
    have hr2 : Room 2 _ := hr.mono (by decide)
    refine ⟨tTree K, ?_, tree_ok hD n1 n12 k⟩
    exact pss_cons (ps_par3 (i := 2) (j := 3) (l := 4) rfl scTree.nd rfl rfl rfl (by decide) (by decide) (by decide) rfl rfl rfl (pa_cons (pe_call GN hr rfl gN FN.kp bN .nil pass0 (pa_cons (pv 0) (pa_cons (pv 1) pa_nil))) (pa_cons (pe_call GD hr1 rfl gD FD.kp bD .nil pass0 (pa_cons (pv 0) (pa_cons pe_int pa_nil))) (pa_cons pe_dnewK pa_nil))) (by rfl))
      (pss_cons (ps_for PassesOwn.never rfl (pi_enum rfl T.enu (pa_cons (pv 2) pa_nil)) (pg_tup rfl (pgs_cons (pg_name (i := 5) scTree.nd rfl (.inl rfl)) (pgs_cons (pg_name (i := 6) scTree.nd rfl (.inl rfl)) pgs_nil)))
        (pss_cons (ps_set (i := 7) scTree.nd rfl (.inl rfl) (pe_op op_cat (pe_lst (pa_cons pe_str pa_nil)) (pe_slice sl_list (pv 2) po_none (po_some (pv 5)))))
        (pss_cons (ps_set (i := 8) scTree.nd rfl (.inl rfl) (pe_lst (pa_cons (pe_ix ix_list (pv 7) (pe_un un_neg pe_int) (fun _ _ => rfl)) (pa_cons pe_str (pa_cons (pe_call GP hr2 rfl gP FP.kp bP .nil pass0 (pa_cons (pv 0) (pa_cons (pv 7) pa_nil))) (pa_cons (pe_call GP hr2 rfl gP FP.kp bP .nil pass0 (pa_cons (pv 0) (pa_cons (pv 7) pa_nil)))
          (pa_cons (pe_call GP hr2 rfl gP FP.kp bP .nil pass0 (pa_cons (pv 0) (pa_cons (pe_slice sl_list (pv 7) (po_some (pe_un un_neg pe_int)) po_none) pa_nil))) pa_nil)))))))
        (pss_one (ps_dput (hu_of hr) (pv 4) (pv 6) (pe_ix ix_list (pv 8) (pv 3) (fun _ _ => rfl)) rfl)))))
      (pss_one (ps_ret (pv 4))))
end
end K50


namespace K50
open PySem L2 TL
abbrev sPlaces : Stmt := top 36
theorem cut_strs (A : List Str) (lo hi : Option Int) : ∃ L : List Str, cutV (A.map V.str) lo hi = L.map V.str ∧ (∀ z ∈ L, z ∈ A) ∧ L.length ≤ A.length := by
  unfold cutV
  generalize HT.sIx (A.map V.str).length 0 lo = i
  generalize HT.sIx (A.map V.str).length (A.map V.str).length hi - i = k
  refine ⟨(A.drop i).take k, by rw [List.map_take, List.map_drop], fun z hz => List.mem_of_mem_drop (List.mem_of_mem_take hz), ?_⟩
  rw [List.length_take, List.length_drop]
  omega
theorem cut_two {xs : List V} (ne : xs ≠ []) : cutV xs none (some 2) ≠ [] := fun z => by
  have l0 : 0 < xs.length := List.length_pos_iff.mpr ne
  have e : HT.sIx xs.length xs.length (some 2) = min 2 xs.length := HT.sIx_nat _ _ 2
  have c : cutV xs none (some 2) = (xs.drop 0).take (min 2 xs.length - 0) := by
    show (xs.drop 0).take (HT.sIx xs.length xs.length (some 2) - 0) = _
    rw [e]
  rw [c] at z
  have := congrArg List.length z
  rw [List.length_take, List.length_drop, List.length_nil] at this
  omega
theorem cut_last {xs : List V} (ne : xs ≠ []) : cutV xs (some (-1)) none ≠ [] := fun z => by
  have l0 : 0 < xs.length := List.length_pos_iff.mpr ne
  have e : HT.sIx xs.length 0 (some (-1)) = ((-1 : Int) + (xs.length : Int)).toNat := by
    show (if (-1 : Int) < 0 then ((-1 : Int) + (xs.length : Int)).toNat else min (-1 : Int).toNat xs.length) = _
    rw [if_pos (by decide)]
  have c : cutV xs (some (-1)) none = (xs.drop ((-1 : Int) + (xs.length : Int)).toNat).take (xs.length - ((-1 : Int) + (xs.length : Int)).toNat) := by
    show (xs.drop (HT.sIx xs.length 0 (some (-1)))).take (xs.length - HT.sIx xs.length 0 (some (-1))) = _
    rw [e]
  rw [c] at z
  have := congrArg List.length z
  rw [List.length_take, List.length_drop, List.length_nil] at this
  omega
theorem keys_prs (t : List (Str × Str)) : ((prs t).map fun kv => kV kv.1) = (t.map Prod.fst).map V.str := by
  unfold prs
  rw [List.map_map, List.map_map] <;> rfl
def spPlaces : Sp := fun vs H Q _ => ∃ (d c q : Addr) (m : Nat) (t : List (Str × Str)), vs = [.ref d, .ref q, .int (m : Int)] ∧ DrawAt H d c ∧ H q = some (.dK (prs t)) ∧ t.length ≤ 12 ∧ m ≤ 60 ∧
  ∀ (l : Addr) (zs : List Str) (H' : Hp), zs.length = m → (∀ z ∈ zs, z = "" ∨ z ∈ t.map Prod.fst) → H l = none → H' l = some (.lst (zs.map V.str)) → DrawAt H' d c → Keep d c H H' → Q (.ref l) H'
def tPlaces (K : PySem.W.Frag) : TS := tSeq (tAsg (tOp rCat (tLst (tCons (tC (.str "")) tNil)) (tCB (fun xs H Q => ∃ (a : Addr) (kvs : List (Key × V)), xs = [.ref a] ∧ Rd H a (.dK kvs) ∧ ∀ p, H p = none → Q (.ref p) (upd H p (.lst (kvs.map fun kv => kV kv.1)))) (tCons (tVar 1) tNil))) (gName 3))
  (tSeq (tAsg (tCall (spPick K) [] E0 (tCons (tVar 0) (tCons (tLst (tCons (tVar 3) (tCons (tVar 3) (tCons (tSl (rSlL K) (tVar 3) tNoPart (tPart (tC (.int 2)))) (tCons (tSl (rSlL K) (tVar 3) (tPart (tUn (rU fun i => .int (-i)) (tC (.int 1)))) tNoPart) tNil))))) tNil))) (gName 3))
  (tRet (tLc (iRng1 (tCons (tVar 2) tNil)) (gName 4) tYes (tCall (spPick K) [] E0 (tCons (tVar 0) (tCons (tVar 3) tNil))) [4])))
theorem places_ok {K : PySem.W.Frag} {D : Ends} {H : Hp} {d c q : Addr} {m : Nat} {t : List (Str × Str)} {u3 u4 : Option V} (dr : DrawAt H d c) (hq : H q = some (.dK (prs t))) (t12 : t.length ≤ 12) (m60 : m ≤ 60)
    (k : ∀ (l : Addr) (zs : List Str) (H' : Hp), zs.length = m → (∀ z ∈ zs, z = "" ∨ z ∈ t.map Prod.fst) → H l = none → H' l = some (.lst (zs.map V.str)) → DrawAt H' d c → Keep d c H H' → D.rt (.ref l) H') :
    tPlaces K D [some (.ref d), some (.ref q), some (.int (m : Int)), u3, u4] H := by
  have big : 1000 ≤ sizeLine := by decide
  let A : List Str := "" :: t.map Prod.fst
  have lenA : A.length = t.length + 1 := by
    show (t.map Prod.fst).length + 1 = _
    rw [List.length_map]
  refine ⟨by show 1 ≤ sizeLine; omega, fun p1 n1 => ⟨_, rfl, q, prs t, rfl, .inl (by rw [upd_ne (ne_of_none hq n1)]; exact hq), fun p2 n2 => ⟨p1, p2, [.str ""], _, rfl, rfl, by rw [upd_ne (ne_of_none upd_same n2), upd_same], upd_same, ?_, fun pa na => ?_⟩⟩⟩
  · rw [keys_prs, List.length_map, List.length_map]
    show 1 + _ ≤ sizeLine
    omega
  rw [keys_prs] at na ⊢
  obtain ⟨H1, e1⟩ : ∃ X, X = upd (upd (upd H p1 (.lst [.str ""])) p2 (.lst ((t.map Prod.fst).map V.str))) pa (.lst ([.str ""] ++ (t.map Prod.fst).map V.str)) := ⟨_, rfl⟩
  have s1 : Same H H1 := e1 ▸ ((same_new n1).trans (same_new n2)).trans (same_new na)
  have at1 : H1 pa = some (.lst (A.map V.str)) := by rw [e1, upd_same] <;> rfl
  have pad : pa ≠ d ∧ pa ≠ c := ((dr.mono (same_new n1)).mono (same_new n2)).apart na
  rw [← e1]
  have neA : A.map V.str ≠ [] := by simp [A]
  refine ⟨_, rfl, _, rfl, _, rfl, _, rfl, _, rfl, pa, _, rfl, SqL.of at1, fun p3 n3 => ?_⟩
  have s3 := same_new (o := .lst (cutV (A.map V.str) none (some 2))) n3
  have at3 := s3 _ _ at1
  refine ⟨_, rfl, 1, rfl, _, rfl, pa, _, rfl, SqL.of at3, fun p4 n4 => ?_⟩
  have s4 := same_new (o := .lst (cutV (A.map V.str) (some (-1)) none)) n4
  refine ⟨by show 4 ≤ sizeLine; omega, fun p5 n5 => ?_⟩
  have s5 := same_new (o := .lst [.ref pa, .ref pa, .ref p3, .ref p4]) n5
  obtain ⟨H5, e5⟩ : ∃ X, X = upd (upd (upd H1 p3 (.lst (cutV (A.map V.str) none (some 2)))) p4 (.lst (cutV (A.map V.str) (some (-1)) none))) p5 (.lst [.ref pa, .ref pa, .ref p3, .ref p4]) := ⟨_, rfl⟩
  have dr1 := dr.mono s1
  have p3d := dr1.apart n3
  have p4d := (dr1.mono s3).apart n4
  have p5d := ((dr1.mono s3).mono s4).apart n5
  have s15 : Same H1 H5 := e5 ▸ (s3.trans s4).trans s5
  have ha : H5 pa = some (.lst (A.map V.str)) := s15 _ _ at1
  have h3 : H5 p3 = some (.lst (cutV (A.map V.str) none (some 2))) := by
    rw [e5]
    exact s5 _ _ (s4 _ _ upd_same)
  have h4 : H5 p4 = some (.lst (cutV (A.map V.str) (some (-1)) none)) := by
    rw [e5]
    exact s5 _ _ upd_same
  obtain ⟨L3, el3, m3, ll3⟩ := cut_strs A none (some 2)
  obtain ⟨L4, el4, m4, ll4⟩ := cut_strs A (some (-1)) none
  have ne3 : L3 ≠ [] := fun z => cut_two neA (by rw [el3, z] <;> rfl)
  have ne4 : L4 ≠ [] := fun z => cut_last neA (by rw [el4, z] <;> rfl)
  rw [el3] at h3
  rw [el4] at h4
  refine ⟨d, c, _, 4, (fun _ x => ∃ (r : Addr) (L : List Str), x = .ref r ∧ H5 r = some (.lst (L.map V.str)) ∧ L ≠ [] ∧ (∀ z ∈ L, z ∈ A) ∧ r ≠ d ∧ r ≠ c ∧ L.length ≤ A.length), rfl, ?_, .inl ⟨p5, _, rfl, p5d.1, p5d.2, upd_same, rfl, fun i x hx => ?_⟩, by decide, by decide, fun i x H6 px dr6 k6 => ?_⟩
  · rw [← e5]
    exact dr1.mono s15
  · have hm := List.mem_of_getElem? hx
    simp only [List.mem_cons, List.not_mem_nil, or_false] at hm
    rcases hm with rfl | rfl | rfl | rfl
    · exact ⟨pa, A, rfl, ha, by simp [A], fun z hz => hz, pad.1, pad.2, Nat.le_refl _⟩
    · exact ⟨pa, A, rfl, ha, by simp [A], fun z hz => hz, pad.1, pad.2, Nat.le_refl _⟩
    · exact ⟨p3, L3, rfl, h3, ne3, m3, p3d.1, p3d.2, ll3⟩
    · exact ⟨p4, L4, rfl, h4, ne4, m4, p4d.1, p4d.2, ll4⟩
  rw [← e5] at k6
  obtain ⟨r, L, rfl, hr, neL, mL, rd, rc, lL⟩ := px
  have hr6 := k6 r _ rd rc hr
  have K6 : Keep d c H H6 := (Keep.of_same (s1.trans s15)).trans k6
  have posL : 0 < L.length := List.length_pos_iff.mpr neL
  refine ⟨_, rfl, _, rfl, by omega, by omega, fun D1 nD1 => ?_⟩
  have D1d := dr6.apart nD1
  refine lc_it (walk_range (lo := 0) (n := ((m : Int)).toNat)) (fun i H' => DrawAt H' d c ∧ Keep d c H6 H' ∧ ∃ zs : List Str, H' D1 = some (.lst (zs.map V.str)) ∧ zs.length = i ∧ ∀ z ∈ zs, z ∈ A) ⟨dr6.off D1d.1 D1d.2, Keep.refl.put nD1, [], upd_same, rfl, fun y h => by cases h⟩ (fun _ _ _ _ => trivial) ?_ ?_
  · intro i x Ha Hb hi ⟨da, ka, ys, ey, ly, sy⟩ ⟨e1, e2⟩
    subst e1
    subst e2
    refine ⟨rfl, ?_⟩
    refine ⟨_, rfl, _, rfl, d, c, _, L.length, (fun _ x => ∃ z, x = .str z ∧ z ∈ L), rfl, da, .inl ⟨r, _, rfl, rd, rc, ka r _ rd rc hr6, by rw [List.length_map], items_strs fun z hz => hz⟩, posL, by omega, fun i' x Hc px dc kc => ?_⟩
    obtain ⟨z, rfl, hz⟩ := px
    refine ⟨_, kc D1 _ D1d.1 D1d.2 ey, by rw [List.length_map, ly]; omega, dc.off D1d.1 D1d.2, (ka.trans kc).put nD1, ys ++ [z], by rw [upd_same, List.map_append] <;> rfl, by rw [List.length_append, ly] <;> rfl, fun y hy => ?_⟩
    rcases List.mem_append.mp hy with h | h
    · exact sy y h
    · rw [List.mem_singleton.mp h]
      exact mL z hz
  · intro H7 ⟨d7, k7, zs, ez, lz, sz⟩
    exact k D1 zs H7 (by omega) (fun z hz => List.mem_cons.mp (sz z hz)) (K6.free nD1 D1d.1 D1d.2) ez d7 (K6.trans k7)
section
variable {P : Program} {w : World} {K : PySem.W.Frag} {mg : Str → Option Value} {base : Heap}
theorem scPlaces : FnScope ["_law_state", "_law_tree_here", "_law_users", "_law_some", "_law_user"] ["_law_state", "_law_tree_here", "_law_users"] (defScope sPlaces) := ⟨rfl, rfl, rfl, by decide +kernel, rfl, by decide +kernel, by decide +kernel⟩
theorem ok_places {f fD fP : Addr} {fd fdD fdP : FuncData} (F : Fun K "_law_places" "_law_places" sPlaces f fd) (T : Nm mg) (FD : Fun K "_law_draw" "_law_draw" sDraw fD fdD) (bD : Binds K fdD ["_law_state", "_law_many"] []) (gD : mg "_law_draw" = some (.ref fD))
    (FP : Fun K "_law_pick" "_law_pick" sPick fP fdP) (bP : Binds K fdP ["_law_state", "_law_some"] []) (gP : mg "_law_pick" = some (.ref fP)) : FnOk P w K mg base CX0 3 f fd ["_law_state", "_law_tree_here", "_law_users"] spPlaces := by
  have GP : FnOk P w K mg base CX0 2 fP fdP ["_law_state", "_law_some"] (spPick K) := ok_pick FP T FD bD gD
  refine F.ok scPlaces (fun vs H Q E h => ?_) (fun cdv A outer s H vs Q E hr h => ?_)
  · obtain ⟨d, c, q, m, t, rfl, _⟩ := h
    rfl
  · obtain ⟨d, c, q, m, t, rfl, hD, hq, t12, m60, k⟩ := h
    refine ⟨tPlaces K, ?_, places_ok hD hq t12 m60 k⟩
    exact pss_cons (ps_set (i := 3) scPlaces.nd rfl (.inr rfl) (pe_op op_cat (pe_lst (pa_cons pe_str pa_nil)) (pe_callTy (call_listD rfl) (by rfl) T.lst (by decide +kernel) (pa_cons (pv 1) pa_nil))))
      (pss_cons (ps_set (i := 3) scPlaces.nd rfl (.inr rfl) (pe_call GP hr rfl gP FP.kp bP .nil pass0 (pa_cons (pv 0) (pa_cons (pe_lst (pa_cons (pv 3) (pa_cons (pv 3) (pa_cons (pe_slice sl_list (pv 3) po_none (po_some pe_int)) (pa_cons (pe_slice sl_list (pv 3) (po_some (pe_un un_neg pe_int)) po_none) pa_nil))))) pa_nil))))
      (pss_one (ps_ret (pe_lc (own := [("_law_user", 4)]) (g := gName 4) (tt := tYes) rfl scPlaces.nd (pi_range1 rfl T.rng (pa_cons (pv 2) pa_nil))
        (blkOk_by (N := ["_law_state", "_law_tree_here", "_law_users", "_law_some", "_law_user"]) (sc := defScope sPlaces) (by decide +kernel))
        (fun _ _ _ _ _ => pg_name (i := 4) scPlaces.nd rfl (Or.inl rfl)) (fun _ _ _ _ _ => pts_nil) (fun _ _ _ _ _ => pe_call GP hr rfl gP FP.kp bP .nil pass0 (pa_cons (pv 0) (pa_cons (pv 3) pa_nil)))))))
end
end K50


namespace K50
open PySem L2 TL
abbrev sIsName : Stmt := top 11
abbrev sIsAnc : Stmt := top 12
def letters : Str := "abcdefghijklmnopqrstuvwxyz"
theorem in_letters {c : Nat} (h0 : 97 ≤ c) (h1 : c ≤ 122) : c ∈ letters.cps.toList := by
  have all : ∀ i : Fin 26, (97 + i.1) ∈ letters.cps.toList := by decide +kernel
  have q := all ⟨c - 97, by omega⟩
  rw [show 97 + (⟨c - 97, by omega⟩ : Fin 26).1 = c by show 97 + (c - 97) = c; omega] at q
  exact q
/-- the module's own constants -/
structure Cs (mg : Str → Option Value) : Prop where
  long : ∃ t, mg "LONGEST" = some (.int 8 t)
  lett : ∃ t, mg "LETTERS" = some (.str letters t)
def spIsName : Sp := fun vs H Q _ => ∃ z : Str, vs = [.str z] ∧ NameL z ∧ ∀ H', Same H H' → Q (.bl true) H'
section
variable {P : Program} {w : World} {K : PySem.W.Frag} {mg : Str → Option Value} {base : Heap}
theorem scIsName : FnScope ["value", "letter"] ["value"] (defScope sIsName) := ⟨rfl, rfl, rfl, by decide +kernel, rfl, by decide +kernel, by decide +kernel⟩
theorem ok_isName {f : Addr} {fd : FuncData} (F : Fun K "is_name" "is_name" sIsName f fd) (T : Nm mg) (C : Cs mg) : FnOk P w K mg base CX0 1 f fd ["value"] spIsName := by
  obtain ⟨t1, g1⟩ := C.long
  obtain ⟨t2, g2⟩ := C.lett
  refine F.ok scIsName (fun vs H Q E h => ?_) (fun cdv A outer s H vs Q E hr h => ?_)
  · obtain ⟨z, rfl, _⟩ := h
    rfl
  · obtain ⟨z, rfl, nm, k⟩ := h
    refine ⟨_, pss_cons (ps_if (PW.pt (pw_or (pt_not (pt_val (pe_callB call_isi (by rfl) T.isi (by decide +kernel) (pa_cons (pv 0) (pa_cons (pe_bltn (v := .ty "str") (u := .type "str") (by rfl) T.str (by decide +kernel) rfl) pa_nil)))))
        (pw_or (pt_not (pt_chain op_le op_le pe_int (pe_callB call_len_str (by rfl) T.len PySem.boot_len (pa_cons (pv 0) pa_nil)) (pe_glob (v := .int 8) (by rfl) g1 ⟨_, rfl⟩))) (pw_or1 (pt_cmpR op_eq (pv 0) pe_str (nomark _))))))
        (pss_one (ps_ret pe_bl)) pss_nil)
      (pss_one (ps_ret (pe_callB (cr_all rfl) (by rfl) T.all (by decide +kernel) (pa_cons (pe_lc (own := [("letter", 1)]) (g := gName 1) (tt := tYes) (te := tOp (fun x y H Q => ∃ (c : Nat) (z : Str), x = .str ⟨#[c]⟩ ∧ y = .str z ∧ Q (.bl (decide (c ∈ z.cps.toList))) H) (tVar 1) (tC (.str letters))) rfl scIsName.nd (pi_str (pv 0))
        (blkOk_by (N := ["value", "letter"]) (sc := defScope sIsName) (by decide +kernel))
        (fun _ _ _ _ _ => pg_name (i := 1) scIsName.nd rfl (Or.inl rfl)) (fun _ _ _ _ _ => pts_nil) (fun _ _ _ _ _ => pe_cmpR op_in_sign (pv 1) (pe_glob (v := .str letters) (by rfl) g2 ⟨_, rfl⟩) rfl)) pa_nil)))), ?_⟩
    have l := nm.len
    have big : 1000 ≤ sizeLine := by decide
    refine ⟨_, rfl, .str z, _, _, _, true, rfl, .ty _, .base (.str z), kit_ty (by decide +kernel), true, rfl, ?_⟩
    refine iteF ?_
    refine ⟨_, rfl, z, rfl, by omega, _, _, rfl, rfl, _, rfl, ?_⟩
    rw [if_pos (decide_eq_true (by omega))]
    refine ⟨_, _, rfl, rfl, _, rfl, ?_⟩
    rw [decide_eq_true (show (z.length : Int) ≤ 8 by omega)]
    refine iteF ?_
    refine ⟨_, rfl, rfl, _, rfl, ?_⟩
    rw [decide_eq_false (show ¬ V.str z = V.str "self" from fun e => nm.self (V.str.inj e))]
    refine iteF ?_
    refine ⟨_, rfl, z, rfl, fun D nD => lc_it walk_str (fun i H' => Same H H' ∧ H' D = some (.lst ((List.replicate i true).map V.bl))) ⟨same_new nD, upd_same⟩ (fun _ _ _ _ => trivial) ?_ ?_⟩
    · intro i x Ha Hb hi ⟨q1, q2⟩ ⟨e, ch, hc, ex⟩
      subst e
      subst ex
      have hm : ch ∈ letters.cps.toList := by
        have hz : ch ∈ tl z := by
          rw [← Array.getElem?_toList] at hc
          exact List.mem_of_getElem? hc
        exact in_letters (nm.1 ch hz).1 (nm.1 ch hz).2
      refine ⟨rfl, ?_⟩
      refine ⟨_, rfl, ch, letters, rfl, rfl, _, q2, ?_, ?_, ?_⟩
      · rw [List.length_map, List.length_replicate]
        have : z.cps.size = z.length := rfl
        omega
      · intro b o e
        rw [upd_ne (ne_of_none e nD)]
        exact q1 b o e
      · rw [upd_same, decide_eq_true hm, List.replicate_succ', List.map_append] <;> rfl
    · intro H' ⟨q1, q2⟩
      refine ⟨D, _, rfl, SqL.of q2, ?_⟩
      have e : (List.replicate z.cps.size true).all id = true := by simp
      rw [e]
      exact k H' q1
end
end K50


namespace K50
open PySem L2 TL
/-- a flag's place among the pairs -/
def idx (t : List (Str × Str)) (a : Str) : Nat := t.findIdx fun p => decide (p.1 = a)
theorem idx_of : ∀ {t : List (Str × Str)} {i : Nat} {a p : Str}, (t.map Prod.fst).Nodup → t[i]? = some (a, p) → idx t a = i
  | [], i, a, p, _, h => by simp at h
  | (b, r) :: t, 0, a, p, nd, h => by
    have e : (b, r) = (a, p) := Option.some.inj h
    cases e
    show List.findIdx _ _ = 0
    rw [List.findIdx_cons, decide_eq_true rfl] <;> rfl
  | (b, r) :: t, i + 1, a, p, nd, h => by
    obtain ⟨nb, nt⟩ := List.nodup_cons.mp nd
    have ht : t[i]? = some (a, p) := h
    have ma : a ∈ t.map Prod.fst := List.mem_map.mpr ⟨(a, p), List.mem_of_getElem? ht, rfl⟩
    have ne : ¬ b = a := fun e => nb (by rw [show (b, r).1 = a from e]; exact ma)
    show List.findIdx _ _ = i + 1
    rw [List.findIdx_cons]
    show (bif decide (b = a) then 0 else _) = _
    rw [decide_eq_false ne]
    show t.findIdx _ + 1 = i + 1
    rw [show t.findIdx (fun p => decide (p.1 = a)) = i from idx_of nt ht]
theorem val_of : ∀ {t : List (Str × Str)} {i : Nat} {a p : Str}, (t.map Prod.fst).Nodup → t[i]? = some (a, p) → valV (prs t) (Sum.inr a) = some (.str p)
  | [], i, a, p, _, h => by simp at h
  | (b, r) :: t, 0, a, p, nd, h => by
    have e : (b, r) = (a, p) := Option.some.inj h
    cases e
    exact valV_pos rfl
  | (b, r) :: t, i + 1, a, p, nd, h => by
    obtain ⟨nb, nt⟩ := List.nodup_cons.mp nd
    have ht : t[i]? = some (a, p) := h
    have ma : a ∈ t.map Prod.fst := List.mem_map.mpr ⟨(a, p), List.mem_of_getElem? ht, rfl⟩
    have ne : ¬ (Sum.inr b : Key) = Sum.inr a := fun e => nb (by rw [show (b, r).1 = a from Sum.inr.inj e]; exact ma)
    exact (valV_neg (p := (Sum.inr b, V.str r)) ne).trans (val_of nt ht)
theorem val_none {t : List (Str × Str)} {a : Str} (n : a ∉ t.map Prod.fst) : valV (prs t) (Sum.inr a) = none := by
  have h := valV_any (Sum.inr a : Key) (prs t)
  rw [prs_any, decide_eq_false n] at h
  cases e : valV (prs t) (Sum.inr a) with
  | none => rfl
  | some v =>
    rw [e] at h
    cases h
theorem key_at {t : List (Str × Str)} {a : Str} (h : a ∈ t.map Prod.fst) : ∃ (i : Nat) (p : Str), t[i]? = some (a, p) := by
  obtain ⟨⟨b, p⟩, hm, rfl⟩ := List.mem_map.mp h
  obtain ⟨i, hi⟩ := List.mem_iff_getElem?.mp hm
  exact ⟨i, p, hi⟩
/-- the step up -/
theorem TreeOk.step {t : List (Str × Str)} (o : TreeOk t) {a : Str} (h : a ∈ t.map Prod.fst) : ∃ p : Str, valV (prs t) (Sum.inr a) = some (.str p) ∧ (p = "" ∨ (p ∈ t.map Prod.fst ∧ idx t p < idx t a)) ∧ idx t a < t.length := by
  obtain ⟨i, p, hi⟩ := key_at h
  have il := (List.getElem?_eq_some_iff.mp hi).1
  refine ⟨p, val_of o.nd hi, ?_, by rw [idx_of o.nd hi]; exact il⟩
  rcases o.up i _ hi with e | m
  · exact .inl e
  · refine .inr ⟨?_, ?_⟩
    · obtain ⟨x, hx, ex⟩ := List.mem_map.mp m
      exact List.mem_map.mpr ⟨x, List.mem_of_mem_take hx, ex⟩
    · obtain ⟨j, r, hj⟩ := key_at m
      have jl := (List.getElem?_eq_some_iff.mp hj).1
      rw [List.length_take] at jl
      rw [List.getElem?_take, if_pos (by omega)] at hj
      rw [idx_of o.nd hi, idx_of o.nd hj]
      omega
theorem TreeOk.root {t : List (Str × Str)} (o : TreeOk t) : ("" : Str) ∉ t.map Prod.fst := fun h => by
  have := (o.nm _ h).2.1
  revert this
  decide +kernel
def spIsAnc : Sp := fun vs H Q _ => ∃ (q : Addr) (f : Str) (t : List (Str × Str)), vs = [.ref q, .str f] ∧ H q = some (.dK (prs t)) ∧ TreeOk t ∧ f ∈ t.map Prod.fst ∧ ∀ H', Same H H' → Q (.bl false) H'
def rankS (t : List (Str × Str)) (σ : St) : Nat := match σ[3]? with
  | some (some (V.str a)) => if a ∈ t.map Prod.fst then idx t a + 1 else 0
  | _ => 0
section
variable {P : Program} {w : World} {K : PySem.W.Frag} {mg : Str → Option Value} {base : Heap}
theorem scIsAnc : FnScope ["parents", "name", "seen", "above"] ["parents", "name"] (defScope sIsAnc) := ⟨rfl, rfl, rfl, by decide +kernel, rfl, by decide +kernel, by decide +kernel⟩
theorem ok_isAnc {f : Addr} {fd : FuncData} (F : Fun K "is_ancestor" "is_ancestor" sIsAnc f fd) : FnOk P w K mg base CX0 1 f fd ["parents", "name"] spIsAnc := by
  refine F.ok scIsAnc (fun vs H Q E h => ?_) (fun cdv A outer s H vs Q E hr h => ?_)
  · obtain ⟨q, g, t, rfl, _⟩ := h
    rfl
  · obtain ⟨q, g, t, rfl, hq, o, hg, k⟩ := h
    have hu := hu_of hr
    refine ⟨_, pss_cons (ps_set (i := 2) scIsAnc.nd rfl (.inl rfl) (pe_lst pa_nil))
      (pss_cons (ps_set (i := 3) scIsAnc.nd rfl (.inl rfl) (pe_dget hu (pv 0) (pv 1) (fun _ _ => rfl)))
      (pss_cons (ps_while PassesOwn.never (PW.pt (pw_and (pt_cmp (pc_din hu (pv 3) (pv 0))) (pw_and1 (pt_cmpR op_notIn_seq (pv 3) (pv 2) rfl))))
        (pss_cons (ps_if (pt_cmpR op_eq (pv 3) (pv 1) (nomark _)) (pss_one (ps_ret pe_bl)) pss_nil)
        (pss_cons (ps_expr (pe_bm PySem.F.plainAttrs_list PySem.F.slot_list_append PySem.F.type_list_append mt_append (pv 2) (pa_cons (pv 3) pa_nil)))
        (pss_one (ps_set (i := 3) scIsAnc.nd rfl (.inl rfl) (pe_dget hu (pv 0) (pv 3) (fun _ _ => rfl)))))))
      (pss_one (ps_ret pe_bl)))), ?_⟩
    obtain ⟨p0, v0, w0, i0⟩ := o.step hg
    have few := o.few
    have big : 1000 ≤ sizeLine := by decide
    refine ⟨by show 0 ≤ sizeLine; omega, fun l nl => ?_⟩
    have hq1 : (upd H l (.lst [])) q = some (.dK (prs t)) := by rw [upd_ne (ne_of_none hq nl)]; exact hq
    have ql : q ≠ l := ne_of_none hq nl
    refine ⟨_, rfl, _, rfl, q, _, rfl, by rw [← v0]; exact DGet.k (k := Sum.inr g) hq1, ?_⟩
    refine while_by (fun σ H' => ∃ (a : Str) (ws : List Str), σ = [some (.ref q), some (.str g), some (.ref l), some (.str a)] ∧ H' l = some (.lst (ws.map V.str)) ∧ (∀ b u, H b = some u → H' b = some u) ∧ (a = "" ∨ (a ∈ t.map Prod.fst ∧ idx t a < idx t g ∧ ws.length + idx t a < t.length)))
      (fun σ _ => rankS t σ) ⟨p0, [], rfl, upd_same, same_new nl, w0.imp id fun z => ⟨z.1, z.2, by simp only [List.length_nil]; omega⟩⟩ ?_ ?_
    · rintro σ Hx ⟨a, ws, rfl, hl, sm, ha⟩
      have hqx := sm _ _ hq
      refine ⟨_, rfl, _, rfl, q, _, rfl, DGet.k (k := Sum.inr a) hqx, _, rfl, ?_⟩
      rcases ha with rfl | ⟨ha, ia, la⟩
      · rw [val_none o.root]
        refine iteF ?_
        exact iteF (k Hx sm)
      · obtain ⟨p, hv, hp, il⟩ := o.step ha
        rw [hv]
        show if true = true then _ else _
        rw [if_pos rfl]
        refine ⟨_, rfl, _, rfl, l, _, rfl, .inl (SqL.of hl), rfl, flat_strs ws, _, rfl, ?_⟩
        rw [inV_strs]
        by_cases hw : a ∈ ws
        · rw [decide_eq_true hw]
          exact iteF (k Hx sm)
        · rw [decide_eq_false hw]
          show if true = true then _ else _
          rw [if_pos rfl]
          refine ⟨_, rfl, _, rfl, rfl, _, rfl, ?_⟩
          rw [decide_eq_false (show ¬ V.str a = V.str g from fun e => by
            have := V.str.inj e
            subst this
            omega)]
          refine iteF ?_
          refine ⟨_, rfl, .inl ⟨rfl, _, SqL.of hl⟩, _, rfl, l, _, _, rfl, rfl, hl, by rw [List.length_map]; omega, ?_⟩
          have hq2 : (upd Hx l (.lst (ws.map V.str ++ [.str a]))) q = some (.dK (prs t)) := by rw [upd_ne ql]; exact hqx
          refine ⟨_, rfl, _, rfl, q, _, rfl, by rw [← hv]; exact DGet.k (k := Sum.inr a) hq2, ?_⟩
          refine ⟨⟨p, ws ++ [a], rfl, by rw [upd_same, List.map_append] <;> rfl, fun b u e => ?_, ?_⟩, ?_⟩
          · rw [upd_ne (ne_of_none e nl)]
            exact sm b u e
          · rcases hp with rfl | ⟨hp, ip⟩
            · exact .inl rfl
            · refine .inr ⟨hp, by omega, ?_⟩
              rw [List.length_append]
              show ws.length + 1 + idx t p < t.length
              omega
          · show rankS t [some (.ref q), some (.str g), some (.ref l), some (.str p)] < rankS t [some (.ref q), some (.str g), some (.ref l), some (.str a)]
            have e1 : rankS t [some (.ref q), some (.str g), some (.ref l), some (.str a)] = idx t a + 1 := if_pos ha
            rw [e1]
            rcases hp with rfl | ⟨hp, ip⟩
            · have e2 : rankS t [some (.ref q), some (.str g), some (.ref l), some (.str "")] = 0 := if_neg o.root
              rw [e2]
              omega
            · have e2 : rankS t [some (.ref q), some (.str g), some (.ref l), some (.str p)] = idx t p + 1 := if_pos hp
              rw [e2]
              omega
    · intro σ Hx Qa Qb h
      rintro ⟨v, e1, w, e2, a, r, e3, g, d, e4, z⟩
      refine ⟨v, e1, w, e2, a, r, e3, g, d, e4, ?_⟩
      cases d with
      | false =>
        rw [if_neg (by decide)] at z ⊢
        exact h _ _ z
      | true =>
        rw [if_pos rfl] at z ⊢
        obtain ⟨v, e1, w, e2, p, xs, e3, e4, e5, e6, b, e7, z⟩ := z
        exact ⟨v, e1, w, e2, p, xs, e3, e4, e5, e6, b, e7, h _ _ z⟩
end
end K50


namespace K50
open PySem L2 TL ClX
theorem rising_all : ∀ (l : List Str) (p : Str), PyProof.Rows.risingS p l = true → (∀ y ∈ l, tl p ≤ tl y) ∧ l.Pairwise (fun a b => tl a ≤ tl b)
  | [], p, _ => ⟨fun y h => (by cases h), List.Pairwise.nil⟩
  | x :: r, p, h => by
    have h' : (!PySem.Spec.ltCps x.cps.toList p.cps.toList && PyProof.Rows.risingS x r) = true := h
    rw [Bool.and_eq_true, PyProof.Rows.ltCps_eq] at h'
    obtain ⟨h1, h2⟩ := h'
    have px : tl p ≤ tl x := by
      show ¬ (tl x < tl p)
      intro z
      rw [decide_eq_true z] at h1
      cases h1
    obtain ⟨i1, i2⟩ := rising_all r x h2
    refine ⟨fun y hy => ?_, List.pairwise_cons.mpr ⟨i1, i2⟩⟩
    rcases List.mem_cons.mp hy with rfl | hy
    · exact px
    · exact List.le_trans px (i1 y hy)
theorem sorted_pw {l : List Str} (h : PyProof.Rows.sortedS l = true) : l.Pairwise (fun a b => tl a ≤ tl b) := by
  cases l with
  | nil => exact .nil
  | cons x r =>
    obtain ⟨i1, i2⟩ := rising_all r x h
    exact List.pairwise_cons.mpr ⟨i1, i2⟩
/-- one order of the same texts -/
theorem sorted_one {l m : List Str} (p : l.Perm m) (hl : PyProof.Rows.sortedS l = true) (hm : PyProof.Rows.sortedS m = true) : l = m :=
  List.Perm.eq_of_pairwise (le := fun a b => tl a ≤ tl b) (fun a b _ _ h1 h2 => ext_tl (List.le_antisymm h1 h2)) (sorted_pw hl) (sorted_pw hm) p
/-- a dict comprehension over a walk: Pv by the turn and the heap (the new dict at D within) -/
theorem dc_it {J : It} {n : Nat} {G : Hp → Prop} {Y : Nat → Hp → V → Hp → Prop} (w : Walk J n G Y) {g : TG} {tt : TT} {tk tv : TE} {vs : List Nat} {σ : St} {H1 : Hp} {D : Addr} {Qd : Hp → Prop} (Pv : Nat → Hp → Prop) (h0 : Pv 0 (upd H1 D (.dK []))) (hG : ∀ i H, i ≤ n → Pv i H → G H)
    (hs : ∀ i x H H', i < n → Pv i H → Y i H x H' → g x (wipe σ vs) H' fun σ2 H2 => wipe σ2 vs = wipe σ vs ∧ tt σ2 H2 fun b H3 =>
      if b = true then tk σ2 H3 fun y H4 => tv σ2 H4 fun z H5 => ∃ kvs k, y = kV k ∧ H5 D = some (.dK kvs) ∧ kvs.length < sizeLine ∧ Pv (i + 1) (upd H5 D (.dK (putK kvs k z))) else Pv (i + 1) H3) (hd : ∀ H, Pv n H → Qd H) :
    ∃ W : Nat → Nat → Hp → Prop, (∃ m, W 0 m (upd H1 D (.dK []))) ∧ ∀ i m H, W i m H →
      (J.stop i H ∧ Qd H) ∨ (J.go i H ∧ ∃ Nx : Hp → Prop, (∀ H', Nx H' → ∃ m', m' < m ∧ W (i + 1) m' H') ∧ ∀ x H', J.yld i H x H' → g x (wipe σ vs) H' fun σ2 H2 => wipe σ2 vs = wipe σ vs ∧ tt σ2 H2 fun b H3 =>
        if b = true then tk σ2 H3 fun y H4 => tv σ2 H4 fun z H5 => ∃ kvs k, y = kV k ∧ H5 D = some (.dK kvs) ∧ kvs.length < sizeLine ∧ Nx (upd H5 D (.dK (putK kvs k z))) else Nx H3) := by
  refine ⟨fun i m H => m = n - i ∧ i ≤ n ∧ Pv i H, ⟨n, by simp, Nat.zero_le _, h0⟩, fun i m H ⟨em, hi, p⟩ => ?_⟩
  have gh := hG i H hi p
  rcases Nat.lt_or_ge i n with lt | ge
  · exact .inr ⟨w.goes i H lt gh, Pv (i + 1), fun H' p' => ⟨n - (i + 1), by omega, rfl, lt, p'⟩, fun x H' y => hs i x H H' lt p (w.yields i H x H' lt gh y)⟩
  · have ei : i = n := by omega
    subst ei
    exact .inl ⟨w.stops H gh, hd H p⟩
theorem unlock_same {H H' : Hp} {q : Addr} {u : HO} {o : Obj} (e : H q = some u) (s : Same (upd H q (.frz o u)) H') : Same H (upd H' q u) := fun b x h => by
  by_cases z : b = q
  · subst z
    rw [upd_same]
    exact e.symm.trans h |>.symm ▸ rfl
  · rw [upd_ne z]
    exact s b x (by rw [upd_ne z]; exact h)
abbrev sNeed : Stmt := top 13
/-- the class Forest: its two constants -/
structure Fc (K : PySem.W.Frag) (mg : Str → Option Value) (CF : Addr) (mc : Value) : Prop where
  gF : mg "Forest" = some (.ref CF)
  rd : CRead K CF mc
  most : ∃ u, CVal K CF mc "MOST" (.int 12) u
  root : ∃ u, CVal K CF mc "ROOT" (.str "") u
def spNeed : Sp := fun vs H Q _ => ∃ (q : Addr) (t : List (Str × Str)), vs = [.ref q] ∧ H q = some (.dK (prs t)) ∧ TreeOk t ∧ ∀ H', Same H H' → Q .non H'
section
variable {P : Program} {w : World} {K : PySem.W.Frag} {mg : Str → Option Value} {base : Heap}
theorem scNeed : FnScope ["parents", "name", "above", "other"] ["parents"] (defScope sNeed) := ⟨rfl, rfl, rfl, by decide +kernel, rfl, by decide +kernel, by decide +kernel⟩
theorem ok_need {f fI fA CF : Addr} {mc : Value} {fd fdI fdA : FuncData} (F : Fun K "need_parents" "need_parents" sNeed f fd) (T : Nm mg) (C : Cs mg) (Z : Fc K mg CF mc) (FI : Fun K "is_name" "is_name" sIsName fI fdI) (bI : Binds K fdI ["value"] []) (gI : mg "is_name" = some (.ref fI))
    (FA : Fun K "is_ancestor" "is_ancestor" sIsAnc fA fdA) (bA : Binds K fdA ["parents", "name"] []) (gA : mg "is_ancestor" = some (.ref fA)) : FnOk P w K mg base CX0 2 f fd ["parents"] spNeed := by
  have GI : FnOk P w K mg base CX0 1 fI fdI ["value"] spIsName := ok_isName FI T C
  have GA : FnOk P w K mg base CX0 1 fA fdA ["parents", "name"] spIsAnc := ok_isAnc FA
  obtain ⟨um, cm⟩ := Z.most
  obtain ⟨ur, cr⟩ := Z.root
  refine F.ok scNeed (fun vs H Q E h => ?_) (fun cdv A outer s H vs Q E hr h => ?_)
  · obtain ⟨q, t, rfl, _⟩ := h
    rfl
  · obtain ⟨q, t, rfl, hq, o, k⟩ := h
    have hu := hu_of hr
    refine ⟨_, pss_cons (ps_if (PW.pt (pw_or (pt_not (pt_val (pe_callB call_isi (by rfl) T.isi (by decide +kernel) (pa_cons (pv 0) (pa_cons (pe_bltn (v := .ty "dict") (u := .type "dict") (by rfl) T.dct (by decide +kernel) rfl) pa_nil)))))
        (pw_or1 (pt_not (pt_chain op_le op_le pe_int (pe_callB call_lenD (by rfl) T.len PySem.boot_len (pa_cons (pv 0) pa_nil)) (pe_cval (pe_glob (v := .ref CF) (by rfl) Z.gF rfl))))))) pss_never pss_nil)
      (pss_cons (ps_if (pt_not (pt_val (pe_callB (cr_all rfl) (by rfl) T.all (by decide +kernel) (pa_cons (pe_lock (pe_lc (own := [("name", 1)]) (g := gName 1) (tt := tYes) rfl scNeed.nd (pi_keys (pv 0))
        (blkOk_by (N := ["parents", "name", "above", "other"]) (sc := defScope sNeed) (by decide +kernel))
        (fun _ _ _ _ _ => pg_name (i := 1) scNeed.nd rfl (Or.inl rfl)) (fun _ _ _ _ _ => pts_nil) (fun _ _ _ _ _ => pe_call GI hr rfl gI FI.kp bI .nil pass0 (pa_cons (pv 1) pa_nil)))) pa_nil)))) pss_never pss_nil)
      (pss_one (ps_for PassesOwn.never rfl (pi_list (pe_callB (call_sortedD rfl) (by rfl) T.srt (by decide +kernel) (pa_cons (pv 0) pa_nil))) (pg_name (i := 1) scNeed.nd rfl (.inl rfl))
        (pss_cons (ps_set (i := 2) scNeed.nd rfl (.inl rfl) (pe_dget hu (pv 0) (pv 1) (fun _ _ => rfl)))
        (pss_cons (ps_if (PW.pt (pw_or (pt_not (pt_val (pe_callB call_isi (by rfl) T.isi (by decide +kernel) (pa_cons (pv 2) (pa_cons (pe_bltn (v := .ty "str") (u := .type "str") (by rfl) T.str (by decide +kernel) rfl) pa_nil)))))
          (pw_or1 (PW.pt (pw_and (pt_cmpR op_ne (pv 2) (pe_cval (pe_glob (v := .ref CF) (by rfl) Z.gF rfl)) (nomark _)) (pw_and1 (pt_cmp (pc_dnotin hu (pv 2) (pv 0))))))))) pss_never pss_nil)
        (pss_one (ps_if (pt_val (pe_call GA hr rfl gA FA.kp bA .nil pass0 (pa_cons (pe_lock (pe_dc (own := [("other", 3)]) (g := gName 3) (tt := tB (tCB (rIsi K) (tCons (tDGet (tVar 0) (tVar 3)) (tCons (tC (.ty "str")) tNil)))) rfl scNeed.nd (pi_keys (pv 0))
          (blkOk_by (N := ["parents", "name", "above", "other"]) (sc := defScope sNeed) (by decide +kernel))
          (fun _ _ _ _ _ => pg_name (i := 3) scNeed.nd rfl (Or.inl rfl)) (fun _ _ _ _ _ => pts_one (pt_val (pe_callB call_isi (by rfl) T.isi (by decide +kernel) (pa_cons (pe_dget hu (pv 0) (pv 3) (fun _ _ => rfl)) (pa_cons (pe_bltn (v := .ty "str") (u := .type "str") (by rfl) T.str (by decide +kernel) rfl) pa_nil)))))
          (fun _ _ _ _ _ => pv 3) (fun _ _ _ _ _ => pe_dget hu (pv 0) (pv 3) (fun _ _ => rfl)))) (pa_cons (pv 1) pa_nil)))) pss_never pss_nil))))))), ?_⟩
    have few := o.few
    have one := o.one
    have big : 1000 ≤ sizeLine := by decide
    have lp : (prs t).length = t.length := by unfold prs; rw [List.length_map]
    -- a dict, of one to twelve
    refine ⟨_, rfl, .ref q, _, _, _, true, rfl, .ty _, .base (.dK hq), kit_ty (by decide +kernel), true, rfl, ?_⟩
    refine iteF ?_
    refine ⟨_, rfl, q, _, rfl, hq, _, _, rfl, rfl, _, rfl, ?_⟩
    rw [if_pos (decide_eq_true (by omega))]
    refine ⟨CF, mc, _, um, rfl, Z.rd, cm, _, _, rfl, rfl, _, rfl, ?_⟩
    rw [decide_eq_true (show ((prs t).length : Int) ≤ 12 by omega)]
    refine iteF ?_
    -- all are names
    refine ⟨q, .dK (prs t), hq, trivial, fun od => ⟨_, rfl, q, od, rfl, .inl ⟨prs t, upd_same, fun D nD => ?_⟩⟩⟩
    have Dq : D ≠ q := (ne_of_none upd_same nD).symm
    have key : ∀ {i : Nat} {k : Key} {v : V}, (prs t)[i]? = some (k, v) → ∃ a p : Str, k = Sum.inr a ∧ v = .str p ∧ t[i]? = some (a, p) := fun {i k v} h => by
      unfold prs at h
      rw [List.getElem?_map] at h
      obtain ⟨⟨a, p⟩, hp, e⟩ := Option.map_eq_some_iff.mp h
      cases e
      exact ⟨a, p, rfl, rfl, hp⟩
    refine lc_it walk_keys (fun i H' => Same (upd H q (.frz od (.dK (prs t)))) H' ∧ H' D = some (.lst ((List.replicate i true).map V.bl))) ⟨same_new nD, upd_same⟩ (fun i H' _ z => z.1 q _ upd_same) ?_ ?_
    · intro i x Ha Hb hi ⟨q1, q2⟩ ⟨e, k', v, hk, ex⟩
      subst e
      subst ex
      obtain ⟨a, p, rfl, rfl, hp⟩ := key hk
      refine ⟨rfl, ?_⟩
      refine ⟨_, rfl, a, rfl, o.nm a (List.mem_map.mpr ⟨(a, p), List.mem_of_getElem? hp, rfl⟩), fun H' s' => ⟨_, s' D _ q2, ?_, ?_, ?_⟩⟩
      · rw [List.length_map, List.length_replicate]
        omega
      · intro b u e
        rw [upd_ne (ne_of_none e nD)]
        exact s' _ _ (q1 b u e)
      · rw [upd_same, List.replicate_succ', List.map_append] <;> rfl
    intro H1 ⟨q1, q2⟩
    refine ⟨q1 q _ upd_same, D, _, rfl, SqL.of (by rw [upd_ne Dq]; exact q2), true, by rw [show (List.replicate (prs t).length true).all id = true by simp], ?_⟩
    refine iteF ?_
    have s1 : Same H (upd H1 q (.dK (prs t))) := unlock_same hq q1
    -- one by one, in their order
    refine ⟨_, rfl, q, prs t, t.map Prod.fst, rfl, .inl upd_same, by unfold prs; rw [List.map_map, List.map_map] <;> rfl, by rw [List.length_map]; omega, fun ys p perm srt np => ⟨p, rfl, ⟨_, SqL.of upd_same⟩, ?_⟩⟩
    obtain ⟨H2, e2⟩ : ∃ X, X = upd (upd H1 q (.dK (prs t))) p (.lst (ys.map V.str)) := ⟨_, rfl⟩
    have s2 : Same H H2 := s1.trans (e2 ▸ same_new np)
    have at2 : H2 p = some (.lst (ys.map V.str)) := by rw [e2]; exact upd_same
    rw [← e2]
    refine for_it walk_list (fun j σ' H' => (∃ u1 u2 u3, σ' = [some (.ref q), u1, u2, u3]) ∧ Same H2 H') ⟨⟨_, _, _, rfl⟩, fun _ _ e => e⟩ (fun j σ' H' _ z => SqL.of (z.2 _ _ at2)) ?_ ?_
    · intro j x σ' Ha Hb hj ⟨⟨u1, u2, u3, e⟩, sa⟩ ⟨eb, ex⟩
      subst e
      subst eb
      rw [List.getElem?_map] at ex
      obtain ⟨a, ha, rfl⟩ := Option.map_eq_some_iff.mp ex
      have ma : a ∈ t.map Prod.fst := perm.mem_iff.mp (List.mem_of_getElem? ha)
      obtain ⟨pa, hv, hpa, ia⟩ := o.step ma
      have s0a : Same H Hb := s2.trans sa
      have hqa := s0a _ _ hq
      refine ⟨_, rfl, _, rfl, q, _, rfl, by rw [← hv]; exact DGet.k (k := Sum.inr a) hqa, ?_⟩
      refine ⟨_, rfl, .str pa, _, _, _, true, rfl, .ty _, .base (.str pa), kit_ty (by decide +kernel), true, rfl, ?_⟩
      refine iteF ?_
      have anc : tIfS (tB (tCall spIsAnc [] E0 (tCons (tLockE (tDc (iKeys (tVar 0)) (gName 3) (tB (tCB (rIsi K) (tCons (tDGet (tVar 0) (tVar 3)) (tCons (tC (.ty "str")) tNil)))) (tVar 3) (tDGet (tVar 0) (tVar 3)) [3])) (tCons (tVar 1) tNil)))) tNever tNext
          ⟨fun σ' H' => (∃ u1 u2 u3, σ' = [some (.ref q), u1, u2, u3]) ∧ Same H2 H', fun v H' => Q v H', fun σ' H' => Q .non H', fun σ' H' => (∃ u1 u2 u3, σ' = [some (.ref q), u1, u2, u3]) ∧ Same H2 H'⟩ [some (.ref q), some (.str a), some (.str pa), u3] Hb := by
        refine ⟨q, .dK (prs t), hqa, trivial, fun od => ⟨_, rfl, q, od, rfl, .inl ⟨prs t, upd_same, fun D nD => ?_⟩⟩⟩
        have Dq : D ≠ q := (ne_of_none upd_same nD).symm
        refine dc_it walk_keys (fun i H' => Same (upd Hb q (.frz od (.dK (prs t)))) H' ∧ H' D = some (.dK (prs (t.take i)))) ⟨same_new nD, upd_same⟩ (fun i H' _ z => z.1 q _ upd_same) ?_ ?_
        · intro i x Hc Hd hi ⟨q1, q2⟩ ⟨e, k', v, hk, ex⟩
          subst e
          subst ex
          obtain ⟨b, r, rfl, rfl, hp⟩ := key hk
          have fz := q1 q _ upd_same
          have dg : DGet Hd q (.str b) (some (.str r)) := .inl ⟨prs t, Sum.inr b, .inr ⟨od, fz⟩, rfl, (val_of o.nd hp).symm⟩
          have nb : b ∉ (t.take i).map Prod.fst := fun hm => by
            obtain ⟨j, r', hj⟩ := key_at hm
            have jl := (List.getElem?_eq_some_iff.mp hj).1
            rw [List.length_take] at jl
            rw [List.getElem?_take, if_pos (by omega)] at hj
            have e1 := idx_of o.nd hp
            have e2 := idx_of o.nd hj
            omega
          refine ⟨rfl, ?_⟩
          refine ⟨_, rfl, _, rfl, q, _, rfl, dg, .str r, _, _, _, true, rfl, .ty _, .base (.str r), kit_ty (by decide +kernel), true, rfl, ?_⟩
          show if true = true then _ else _
          rw [if_pos rfl]
          refine ⟨_, rfl, _, rfl, _, rfl, q, _, rfl, dg, prs (t.take i), Sum.inr b, rfl, q2, ?_, ?_, ?_⟩
          · unfold prs
            rw [List.length_map, List.length_take]
            omega
          · intro c u e
            rw [upd_ne (ne_of_none e nD)]
            exact q1 c u e
          · rw [upd_same, put_new nb, take_more hp]
        · intro Hc ⟨q1, q2⟩
          have lt : (prs t).length = t.length := lp
          rw [lt, List.take_length] at q2
          refine ⟨q1 q _ upd_same, _, rfl, D, a, t, rfl, by rw [upd_ne Dq]; exact q2, o, ma, fun H' s' => ⟨false, rfl, iteF ⟨⟨_, _, _, rfl⟩, (sa.trans (unlock_same hqa q1)).trans s'⟩⟩⟩
      rcases hpa with rfl | ⟨hp, _⟩
      · refine ⟨_, rfl, CF, mc, _, ur, rfl, Z.rd, cr, rfl, _, rfl, ?_⟩
        rw [decide_eq_true rfl]
        refine iteF ?_
        exact iteF anc
      · obtain ⟨pp, hv2, _⟩ := o.step hp
        refine ⟨_, rfl, CF, mc, _, ur, rfl, Z.rd, cr, rfl, _, rfl, ?_⟩
        have ne : ¬ V.str pa = V.str "" := fun e => o.root (by rw [← V.str.inj e]; exact hp)
        rw [decide_eq_false ne]
        show if true = true then _ else _
        rw [if_pos rfl]
        refine ⟨_, rfl, _, rfl, q, _, rfl, DGet.k (k := Sum.inr pa) hqa, _, rfl, ?_⟩
        rw [hv2]
        exact iteF anc
    · intro σ' H' ⟨_, sa⟩
      exact k H' (s2.trans sa)
end
end K50


namespace K50
open PySem L2 TL ClX
def inF (k : Nat) : Stmt := inClass (top 14) k
abbrev sFInit : Stmt := inF 2
abbrev sFFlags : Stmt := inF 4
/-- the flags in ascending order, each with its parent -/
structure SrtOf (ts t : List (Str × Str)) : Prop where
  perm : (ts.map Prod.fst).Perm (t.map Prod.fst)
  srt : PyProof.Rows.sortedS (ts.map Prod.fst) = true
  up : ∀ p ∈ ts, valV (prs t) (Sum.inr p.1) = some (.str p.2)
/-- a forest at x -/
def FAt (CF : Addr) (H : Hp) (x : Addr) (ts : List (Str × Str)) : Prop := ∃ dx dq, H x = some (.ins CF dx [("above", .ref dq)]) ∧ H dq = some (.dK (prs ts))
theorem FAt.mono {CF x : Addr} {H H' : Hp} {ts : List (Str × Str)} (s : Same H H') (h : FAt CF H x ts) : FAt CF H' x ts := let ⟨dx, dq, e1, e2⟩ := h; ⟨dx, dq, s _ _ e1, s _ _ e2⟩
/-- facts of a class of the text -/
structure FoC (K : PySem.W.Frag) (CF : Addr) : Prop where
  cl : Cls K CF
  nA : NoAttr K CF "above"
def spFInit (CF : Addr) : Sp := fun vs H Q _ => ∃ (x q dx : Addr) (t : List (Str × Str)), vs = [.ref x, .ref q] ∧ H x = some (.ins CF dx []) ∧ H q = some (.dK (prs t)) ∧ TreeOk t ∧
  ∀ (H' : Hp) (ts : List (Str × Str)), SrtOf ts t → FAt CF H' x ts → (∀ b o, b ≠ x → H b = some o → H' b = some o) → Q .non H'
def spFFlags (CF : Addr) : Sp := fun vs H Q _ => ∃ (x : Addr) (ts : List (Str × Str)), vs = [.ref x] ∧ FAt CF H x ts ∧ ∀ p, H p = none → Q (.ref p) (upd H p (.lst ((ts.map Prod.fst).map V.str)))
section
variable {P : Program} {w : World} {K : PySem.W.Frag} {mg : Str → Option Value} {base : Heap}
theorem scFInit : FnScope ["self", "parents", "name"] ["self", "parents"] (defScope sFInit) := ⟨rfl, rfl, rfl, by decide +kernel, rfl, by decide +kernel, by decide +kernel⟩
theorem ok_finit {f fN CF : Addr} {fd fdN : FuncData} (F : Fun K "__init__" "Forest.__init__" sFInit f fd) (T : Nm mg) (O : FoC K CF) (GN : FnOk P w K mg base CX0 2 fN fdN ["parents"] spNeed) (kN : PySem.W.keepIn K (.ref fN) = true) (bN : Binds K fdN ["parents"] []) (gN : mg "need_parents" = some (.ref fN)) :
    FnOk P w K mg base CX0 3 f fd ["self", "parents"] (spFInit CF) := by
  refine F.ok scFInit (fun vs H Q E h => ?_) (fun cdv A outer s H vs Q E hr h => ?_)
  · obtain ⟨x, q, dx, t, rfl, _⟩ := h
    rfl
  · obtain ⟨x, q, dx, t, rfl, hx, hq, o, k⟩ := h
    have hu := hu_of hr
    refine ⟨_, pss_cons (ps_expr (pe_call GN hr rfl gN kN bN .nil pass0 (pa_cons (pv 1) pa_nil)))
      (pss_one (ps_fld (pv 0) (pe_dc (own := [("name", 2)]) (g := gName 2) (tt := tYes) rfl scFInit.nd (pi_list (pe_callB (call_sortedD rfl) (by rfl) T.srt (by decide +kernel) (pa_cons (pv 1) pa_nil)))
        (blkOk_by (N := ["self", "parents", "name"]) (sc := defScope sFInit) (by decide +kernel))
        (fun _ _ _ _ _ => pg_name (i := 2) scFInit.nd rfl (Or.inl rfl)) (fun _ _ _ _ _ => pts_nil) (fun _ _ _ _ _ => pv 2) (fun _ _ _ _ _ => pe_dget hu (pv 1) (pv 2) (fun _ _ => rfl))) rfl)), ?_⟩
    have few := o.few
    have big : 1000 ≤ sizeLine := by decide
    refine ⟨_, rfl, q, t, rfl, hq, o, fun H1 s1 => ?_⟩
    have hq1 := s1 _ _ hq
    refine ⟨_, rfl, q, prs t, t.map Prod.fst, rfl, .inl hq1, by unfold prs; rw [List.map_map, List.map_map] <;> rfl, by rw [List.length_map]; omega, fun ys p perm srt np => ⟨p, rfl, ⟨_, SqL.of upd_same⟩, fun D nD => ?_⟩⟩
    obtain ⟨H2, e2⟩ : ∃ X, X = upd H1 p (.lst (ys.map V.str)) := ⟨_, rfl⟩
    have s2 : Same H H2 := s1.trans (e2 ▸ same_new np)
    have at2 : H2 p = some (.lst (ys.map V.str)) := by rw [e2]; exact upd_same
    rw [← e2] at nD ⊢
    have ndy : ys.Nodup := perm.nodup_iff.mpr o.nd
    have ly := perm.length_eq
    rw [List.length_map] at ly
    refine dc_it walk_list (fun i H' => Same H2 H' ∧ ∃ ts : List (Str × Str), H' D = some (.dK (prs ts)) ∧ ts.map Prod.fst = ys.take i ∧ ∀ p ∈ ts, valV (prs t) (Sum.inr p.1) = some (.str p.2)) ⟨same_new nD, [], upd_same, by rw [List.take_zero] <;> rfl, fun p h => by cases h⟩ (fun i H' _ z => SqL.of (z.1 _ _ at2)) ?_ ?_
    · intro i y Ha Hb hi ⟨q1, ts, hD, ets, hts⟩ ⟨eb, ex⟩
      subst eb
      rw [List.getElem?_map] at ex
      obtain ⟨a, ha, rfl⟩ := Option.map_eq_some_iff.mp ex
      have ma : a ∈ t.map Prod.fst := perm.mem_iff.mp (List.mem_of_getElem? ha)
      obtain ⟨pa, hv, _, _⟩ := o.step ma
      have hqa := q1 _ _ (s2 _ _ hq)
      have fresh : a ∉ ts.map Prod.fst := by
        rw [ets]
        intro hm
        obtain ⟨j, hj⟩ := List.mem_iff_getElem?.mp hm
        have jl := (List.getElem?_eq_some_iff.mp hj).1
        have il := (List.getElem?_eq_some_iff.mp ha).1
        rw [List.length_take] at jl
        rw [List.getElem?_take, if_pos (by omega)] at hj
        have := (List.getElem?_inj (by omega) ndy).mp (hj.trans ha.symm)
        omega
      have lt := congrArg List.length ets
      rw [List.length_map, List.length_take] at lt
      refine ⟨rfl, ?_⟩
      refine ⟨_, rfl, _, rfl, _, rfl, q, _, rfl, by rw [← hv]; exact DGet.k (k := Sum.inr a) hqa, prs ts, Sum.inr a, rfl, hD, by unfold prs; rw [List.length_map]; omega, ?_, ts ++ [(a, pa)], ?_, ?_, fun z hz => ?_⟩
      · intro b u e
        rw [upd_ne (ne_of_none e nD)]
        exact q1 b u e
      · rw [upd_same, put_new fresh]
      · rw [List.map_append, ets, take_more ha] <;> rfl
      · rcases List.mem_append.mp hz with h | h
        · exact hts z h
        · rw [List.mem_singleton.mp h]
          exact hv
    · intro H3 ⟨q1, ts, hD, ets, hts⟩
      rw [List.length_map, List.take_length] at ets
      have s3 : Same H H3 := s2.trans q1
      refine ⟨_, rfl, x, CF, dx, [], rfl, s3 _ _ hx, O.cl, O.nA, by show 0 < 1000; decide, ?_⟩
      have xD : D ≠ x := (ne_of_none (s2 _ _ hx) nD).symm
      refine k _ ts ⟨by rw [ets]; exact perm, by rw [ets]; exact srt, hts⟩ ⟨dx, D, upd_same, by rw [upd_ne xD]; exact hD⟩ fun b u bx e => ?_
      rw [upd_ne bx]
      exact s3 b u e
theorem scFFlags : FnScope ["self"] ["self"] (defScope sFFlags) := ⟨rfl, rfl, rfl, by decide +kernel, rfl, by decide +kernel, by decide +kernel⟩
theorem ok_fflags {f CF : Addr} {fd : FuncData} (F : Fun K "flags" "Forest.flags" sFFlags f fd) (T : Nm mg) (O : FoC K CF) : FnOk P w K mg base CX0 1 f fd ["self"] (spFFlags CF) := by
  refine F.ok scFFlags (fun vs H Q E h => ?_) (fun cdv A outer s H vs Q E hr h => ?_)
  · obtain ⟨x, ts, rfl, _⟩ := h
    rfl
  · obtain ⟨x, ts, rfl, ⟨dx, dq, hx, hd⟩, k⟩ := h
    refine ⟨_, pss_one (ps_ret (pe_callTy (call_listD rfl) (by rfl) T.lst (by decide +kernel) (pa_cons (pe_fld (pv 0) rfl) pa_nil))), ?_⟩
    refine ⟨_, rfl, x, CF, dx, _, .ref dq, rfl, hx, O.cl, O.nA, rfl, dq, prs ts, rfl, .inl hd, fun p np => ?_⟩
    rw [keys_prs]
    exact k p np
end
end K50


namespace K50
open PySem L2 TL ClX
abbrev sIntOf : Stmt := top 25
abbrev sSzText : Stmt := top 26
abbrev sSzParse : Stmt := top 27
def digits : Str := "0123456789"
structure Cd (mg : Str → Option Value) : Prop where
  dig : ∃ t, mg "DIGITS" = some (.str digits t)
  most : ∃ t, mg "MOST_DIGITS" = some (.int 31 t)
  nofl : ∃ t, mg "NO_FLAG" = some (.str "-" t)
/-- a number's text -/
def nT (n : Nat) : Str := Str.ofString (toString ((n : Nat) : Int))
theorem tl_nT (n : Nat) : tl (nT n) = numL n := tl_num n
theorem head48 : ∀ (m n : Nat), n ≤ m → (numL n).head? = some 48 → n = 0
  | 0, n, h, _ => by omega
  | m + 1, n, h, e => by
    by_cases l : n < 10
    · rw [numL_lt l] at e
      have := Option.some.inj e
      omega
    · rw [numL_step (by omega), List.head?_append] at e
      cases c : (numL (n / 10)).head? with
      | none =>
        rw [List.head?_eq_none_iff] at c
        exact absurd c (numL_ne _)
      | some z =>
        rw [c] at e
        have ez : z = 48 := Option.some.inj e
        rw [ez] at c
        have := head48 m (n / 10) (by omega) c
        omega
theorem nT_len {n : Nat} (h : n < 10 ^ 31) : 1 ≤ (nT n).length ∧ (nT n).length ≤ 31 := by
  rw [len_tl, tl_nT]
  exact ⟨List.length_pos_iff.mpr (numL_ne n), numL_len (by decide) h⟩
theorem nT_int {n : Nat} (h : n < 10 ^ 31) : intText? (nT n) = some (n : Int) := int_num (Nat.le_trans (numL_len (by decide) h) (by decide))
theorem in_digits {c : Nat} (h0 : 48 ≤ c) (h1 : c ≤ 57) : c ∈ digits.cps.toList := by
  have all : ∀ i : Fin 10, (48 + i.1) ∈ digits.cps.toList := by decide +kernel
  have q := all ⟨c - 48, by omega⟩
  rw [show 48 + (⟨c - 48, by omega⟩ : Fin 10).1 = c by show 48 + (c - 48) = c; omega] at q
  exact q
def spIntOf : Sp := fun vs H Q _ => ∃ n : Nat, vs = [.str (nT n)] ∧ n < 10 ^ 31 ∧ ∀ H', Same H H' → Q (.int (n : Int)) H'
section
variable {P : Program} {w : World} {K : PySem.W.Frag} {mg : Str → Option Value} {base : Heap}
theorem scIntOf : FnScope ["word", "letter"] ["word"] (defScope sIntOf) := ⟨rfl, rfl, rfl, by decide +kernel, rfl, by decide +kernel, by decide +kernel⟩
theorem ok_intOf {f : Addr} {fd : FuncData} (F : Fun K "integer_of" "integer_of" sIntOf f fd) (T : Nm mg) (C : Cd mg) : FnOk P w K mg base CX0 1 f fd ["word"] spIntOf := by
  obtain ⟨t1, g1⟩ := C.most
  obtain ⟨t2, g2⟩ := C.dig
  refine F.ok scIntOf (fun vs H Q E h => ?_) (fun cdv A outer s H vs Q E hr h => ?_)
  · obtain ⟨n, rfl, _⟩ := h
    rfl
  · obtain ⟨n, rfl, hn, k⟩ := h
    refine ⟨_, pss_cons (ps_if (PW.pt (pw_or (pt_not (pt_chain op_le op_le pe_int (pe_callB call_len_str (by rfl) T.len PySem.boot_len (pa_cons (pv 0) pa_nil)) (pe_glob (v := .int 31) (by rfl) g1 ⟨_, rfl⟩)))
        (pw_or1 (pt_not (pt_val (pe_callB (cr_all rfl) (by rfl) T.all (by decide +kernel) (pa_cons (pe_lc (own := [("letter", 1)]) (g := gName 1) (tt := tYes) (te := tOp (fun x y H Q => ∃ (c : Nat) (z : Str), x = .str ⟨#[c]⟩ ∧ y = .str z ∧ Q (.bl (decide (c ∈ z.cps.toList))) H) (tVar 1) (tC (.str digits))) rfl scIntOf.nd (pi_str (pv 0))
        (blkOk_by (N := ["word", "letter"]) (sc := defScope sIntOf) (by decide +kernel))
        (fun _ _ _ _ _ => pg_name (i := 1) scIntOf.nd rfl (Or.inl rfl)) (fun _ _ _ _ _ => pts_nil) (fun _ _ _ _ _ => pe_cmpR op_in_sign (pv 1) (pe_glob (v := .str digits) (by rfl) g2 ⟨_, rfl⟩) rfl)) pa_nil))))))) (pss_one (ps_ret pe_non)) pss_nil)
      (pss_one (ps_ret (pe_ifExp (PW.pt (pw_and (pt_cmpR op_eq (pe_ix ix_str (pv 0) pe_int (fun _ _ => rfl)) pe_str (nomark _)) (pw_and1 (pt_cmpR op_ne (pv 0) pe_str (nomark _))))) pe_non (pe_callTy call_int_str (by rfl) T.int (by decide +kernel) (pa_cons (pv 0) pa_nil))))), ?_⟩
    obtain ⟨l1, l2⟩ := nT_len hn
    have big : 1000 ≤ sizeLine := by decide
    refine ⟨_, rfl, nT n, rfl, by omega, _, _, rfl, rfl, _, rfl, ?_⟩
    rw [if_pos (decide_eq_true (by omega))]
    refine ⟨_, _, rfl, rfl, _, rfl, ?_⟩
    rw [decide_eq_true (show ((nT n).length : Int) ≤ 31 by omega)]
    refine iteF ?_
    refine ⟨_, rfl, nT n, rfl, fun D nD => lc_it walk_str (fun i H' => Same H H' ∧ H' D = some (.lst ((List.replicate i true).map V.bl))) ⟨same_new nD, upd_same⟩ (fun _ _ _ _ => trivial) ?_ ?_⟩
    · intro i x Ha Hb hi ⟨q1, q2⟩ ⟨e, ch, hc, ex⟩
      subst e
      subst ex
      have hm : ch ∈ digits.cps.toList := by
        have hz : ch ∈ tl (nT n) := by
          rw [← Array.getElem?_toList] at hc
          exact List.mem_of_getElem? hc
        rw [tl_nT] at hz
        have := numL_digits n ch hz
        exact in_digits this.1 this.2
      refine ⟨rfl, ?_⟩
      refine ⟨_, rfl, ch, digits, rfl, rfl, _, q2, ?_, ?_, ?_⟩
      · rw [List.length_map, List.length_replicate]
        have : (nT n).cps.size = (nT n).length := rfl
        omega
      · intro b o e
        rw [upd_ne (ne_of_none e nD)]
        exact q1 b o e
      · rw [upd_same, decide_eq_true hm, List.replicate_succ', List.map_append] <;> rfl
    · intro H' ⟨q1, q2⟩
      refine ⟨D, _, rfl, SqL.of q2, _, rfl, ?_⟩
      have e : (List.replicate (nT n).cps.size true).all id = true := by simp
      rw [e]
      refine iteF ?_
      obtain ⟨c, rest, ec⟩ : ∃ c rest, tl (nT n) = c :: rest := by
        cases e : tl (nT n) with
        | nil => rw [len_tl, e] at l1; cases l1
        | cons c r => exact ⟨c, r, rfl⟩
      refine ⟨_, rfl, nT n, 0, c, rfl, rfl, by omega, by rw [show (nT n).cps.toList = c :: rest from ec]; exact (atI_nat (xs := c :: rest) (j := 0) rfl : atI (c :: rest) ((0 : Nat) : Int) = _), rfl, _, rfl, ?_⟩
      have done : tCB (fun xs H Q => ∃ (a : Str) (n : Int), xs = [.str a] ∧ intText? a = some n ∧ a.length ≤ 640 ∧ Q (.int n) H) (tCons (tVar 0) tNil) [some (.str (nT n)), none] H' Q := ⟨_, rfl, nT n, n, rfl, nT_int hn, by omega, k H' q1⟩
      by_cases h48 : c = 48
      · subst h48
        have n0 : n = 0 := head48 n n (Nat.le_refl _) (by rw [← tl_nT, ec] <;> rfl)
        rw [decide_eq_true (show V.str ⟨#[48]⟩ = V.str "0" from rfl)]
        show if true = true then _ else _
        rw [if_pos rfl]
        refine ⟨_, rfl, rfl, _, rfl, ?_⟩
        rw [decide_eq_true (show V.str (nT n) = V.str "0" by rw [n0] <;> rfl)]
        exact iteF done
      · rw [decide_eq_false (show ¬ V.str ⟨#[c]⟩ = V.str "0" from fun e => by
          have e2 := congrArg tl (V.str.inj e)
          exact h48 (List.cons.inj e2).1)]
        refine iteF ?_
        exact iteF done
end
end K50


namespace K50
open PySem L2 TL ClX
/-- «flag=number» -/
def szPart (num : Str → Nat) (a : Str) : Str := a ++ "=" ++ nT (num a)
def szText (num : Str → Nat) (fl : List Str) : Str := Txt.join " " (fl.map (szPart num))
theorem tl_szPart (num : Str → Nat) (a : Str) : tl (szPart num a) = tl a ++ 61 :: numL (num a) := by
  unfold szPart
  rw [tl_append, tl_append, tl_nT, List.append_assoc] <;> rfl
theorem szPart_len {num : Str → Nat} {a : Str} (h : NameL a) (hn : num a < 10 ^ 31) : (szPart num a).length ≤ 40 := by
  have := h.2.2.1
  have := numL_len (n := num a) (k := 31) (by decide) hn
  rw [len_tl, tl_szPart, List.length_append, List.length_cons]
  omega
theorem sum_le {c : Nat} : ∀ l : List Str, (∀ z ∈ l, z.length ≤ c) → (l.map (·.length)).sum ≤ l.length * c
  | [], _ => Nat.zero_le _
  | z :: l, h => by
    have h1 := h z (List.mem_cons_self ..)
    have h2 := sum_le l fun y hy => h y (List.mem_cons_of_mem _ hy)
    rw [List.map_cons, List.sum_cons, List.length_cons, Nat.succ_mul]
    omega
theorem szText_split {num : Str → Nat} {fl : List Str} (ne : fl ≠ []) (h : ∀ a ∈ fl, NameL a) : Txt.split (szText num fl) " " = fl.map (szPart num) := by
  refine split_join (s := 32) (S := []) rfl (by decide +kernel) (fun e => ne (List.map_eq_nil_iff.mp e)) fun p hp => ?_
  obtain ⟨a, ha, rfl⟩ := List.mem_map.mp hp
  rw [tl_szPart]
  intro hm
  rcases List.mem_append.mp hm with m | m
  · have := (h a ha).1 32 m
    omega
  · rcases List.mem_cons.mp m with e | m
    · cases e
    · exact numL_free (.inl (by decide)) m
theorem cut_from (z : Str) (k : Nat) : tl (cutS z (some (k : Int)) none) = (tl z).drop k := by
  have e : HT.sIx z.length 0 (some (k : Int)) = min k z.length := HT.sIx_nat _ _ k
  show ((tl z).drop (HT.sIx z.length 0 (some (k : Int)))).take (z.length - HT.sIx z.length 0 (some (k : Int))) = (tl z).drop k
  rw [e, len_tl]
  rcases Nat.le_total k (tl z).length with h | h
  · rw [Nat.min_eq_left h, List.take_of_length_le]
    rw [List.length_drop]
    omega
  · rw [Nat.min_eq_right h, List.drop_eq_nil_of_le (Nat.le_refl _), List.take_nil, List.drop_eq_nil_of_le h]
theorem szPart_tail (num : Str → Nat) (a : Str) : cutS (szPart num a) (some ((a.length : Int) + 1)) none = nT (num a) := by
  refine ext_tl ?_
  rw [show ((a.length : Int) + 1) = ((a.length + 1 : Nat) : Int) by omega, cut_from, tl_szPart, tl_nT, len_tl]
  rw [show (tl a).length + 1 = (tl a).length + 1 from rfl, ← List.drop_drop, List.drop_left] <;> rfl
theorem szPart_starts (num : Str → Nat) (a : Str) : Txt.startswith (szPart num a) (a ++ "=") = true := PySem.W.KT.starts_app (a ++ "=") (nT (num a))
/-- what the property needs -/
structure FlP (P : Program) (w : World) (K : PySem.W.Frag) (mg : Str → Option Value) (base : Heap) (CF pF gF : Addr) (dF : FuncData) : Prop where
  pr : PropOf K CF "flags" pF gF
  fn : FnOk P w K mg base CX0 1 gF dF ["self"] (spFFlags CF)
  bn : Binds K dF ["self"] []
/-- numbers by flags -/
def NumAt (kvs : List (Key × V)) (num : Str → Nat) (fl : List Str) : Prop := ∀ a ∈ fl, valV kvs (Sum.inr a) = some (.int (num a : Int)) ∧ num a < 10 ^ 31
def spSzText (CF : Addr) : Sp := fun vs H Q _ => ∃ (x q : Addr) (ts : List (Str × Str)) (kvs : List (Key × V)) (num : Str → Nat), vs = [.ref x, .ref q] ∧ FAt CF H x ts ∧ H q = some (.dK kvs) ∧ ts.length ≤ 12 ∧ (∀ a ∈ ts.map Prod.fst, NameL a) ∧ NumAt kvs num (ts.map Prod.fst) ∧
  ∀ H', Same H H' → Q (.str (szText num (ts.map Prod.fst))) H'
def spSzParse (CF : Addr) : Sp := fun vs H Q _ => ∃ (x : Addr) (ts : List (Str × Str)) (num : Str → Nat), vs = [.ref x, .str (szText num (ts.map Prod.fst))] ∧ FAt CF H x ts ∧ 1 ≤ ts.length ∧ ts.length ≤ 12 ∧ (ts.map Prod.fst).Nodup ∧ (∀ a ∈ ts.map Prod.fst, NameL a ∧ num a < 10 ^ 31) ∧
  ∀ q H', Same H H' → H q = none → H' q = some (.dK ((ts.map Prod.fst).map fun a => (Sum.inr a, V.int (num a : Int)))) → Q (.ref q) H'
theorem szText_len {num : Str → Nat} {fl : List Str} (few : fl.length ≤ 12) (h : ∀ a ∈ fl, NameL a ∧ num a < 10 ^ 31) : (szText num fl).length ≤ 600 := by
  have l := StrLaws.join_length_le " " (fl.map (szPart num))
  have s := sum_le (c := 40) (fl.map (szPart num)) fun z hz => by
    obtain ⟨a, ha, rfl⟩ := List.mem_map.mp hz
    exact szPart_len (h a ha).1 (h a ha).2
  rw [List.length_map] at l s
  unfold szText
  rw [join_eq]
  have l1 : (" " : Str).length = 1 := rfl
  rw [l1] at l
  omega
section
variable {P : Program} {w : World} {K : PySem.W.Frag} {mg : Str → Option Value} {base : Heap}
theorem scSzText : FnScope ["forest", "sizes", "flag"] ["forest", "sizes"] (defScope sSzText) := ⟨rfl, rfl, rfl, by decide +kernel, rfl, by decide +kernel, by decide +kernel⟩
theorem ok_szText {f CF pF gF : Addr} {fd dF : FuncData} (F : Fun K "sizes_text" "sizes_text" sSzText f fd) (T : Nm mg) (O : FoC K CF) (L : FlP P w K mg base CF pF gF dF) : FnOk P w K mg base CX0 3 f fd ["forest", "sizes"] (spSzText CF) := by
  refine F.ok scSzText (fun vs H Q E h => ?_) (fun cdv A outer s H vs Q E hr h => ?_)
  · obtain ⟨x, q, ts, kvs, num, rfl, _⟩ := h
    rfl
  · obtain ⟨x, q, ts, kvs, num, rfl, fa, hq, few, nm, nu, k⟩ := h
    have hu := hu_of hr
    have hr2 : Room (1 + 1) _ := hr.mono (by decide)
    refine ⟨_, pss_one (ps_ret (pe_join pe_str (pe_lc (own := [("flag", 2)]) (g := gName 2) (tt := tYes) rfl scSzText.nd (pi_list (pe_prop (pv 0) O.cl L.pr L.fn hr2 L.bn .nil pass0 (by rfl)))
      (blkOk_by (N := ["forest", "sizes", "flag"]) (sc := defScope sSzText) (by decide +kernel))
      (fun _ _ _ _ _ => pg_name (i := 2) scSzText.nd rfl (Or.inl rfl)) (fun _ _ _ _ _ => pts_nil) (fun _ _ _ _ _ => pe_op op_add_str (pe_op op_add_str (pv 2) pe_str) (pe_callTy call_str_int (by rfl) T.str (by decide +kernel) (pa_cons (pe_dget hu (pv 1) (pv 2) (fun _ _ => rfl)) pa_nil)))))), ?_⟩
    have big : 1000 ≤ sizeLine := by decide
    have fa' := fa
    obtain ⟨dx, dq, hx, hd⟩ := fa'
    refine ⟨⟨_, rfl⟩, _, rfl, x, dx, _, rfl, hx, x, ts, rfl, fa, fun p np => ⟨p, rfl, ⟨_, SqL.of upd_same⟩, fun D nD => ?_⟩⟩
    obtain ⟨H1, e1⟩ : ∃ X, X = upd H p (.lst ((ts.map Prod.fst).map V.str)) := ⟨_, rfl⟩
    have s1 : Same H H1 := e1 ▸ same_new np
    have at1 : H1 p = some (.lst ((ts.map Prod.fst).map V.str)) := by rw [e1]; exact upd_same
    rw [← e1] at nD ⊢
    refine lc_it walk_list (fun i H' => Same H1 H' ∧ H' D = some (.lst ((((ts.map Prod.fst).take i).map (szPart num)).map V.str))) ⟨same_new nD, by rw [upd_same] <;> rfl⟩ (fun i H' _ z => SqL.of (z.1 _ _ at1)) ?_ ?_
    · intro i y Ha Hb hi ⟨q1, q2⟩ ⟨eb, ex⟩
      subst eb
      rw [List.getElem?_map] at ex
      obtain ⟨a, ha, rfl⟩ := Option.map_eq_some_iff.mp ex
      have ma := List.mem_of_getElem? ha
      obtain ⟨hv, hn⟩ := nu a ma
      have la := (nm a ma).len
      have ln := nT_len hn
      have hqa := q1 _ _ (s1 _ _ hq)
      refine ⟨rfl, ?_⟩
      refine ⟨_, rfl, _, _, rfl, rfl, by show a.length + 1 ≤ sizeLine; omega, _, rfl, _, rfl, q, _, rfl, by rw [← hv]; exact DGet.k (k := Sum.inr a) hqa, _, rfl, ?_, _, _, rfl, rfl, ?_, _, q2, ?_, ?_, ?_⟩
      · exact Nat.lt_trans (PySem.Flt.log2_lt_of (k := 200) (by decide) (by rw [Int.natAbs_natCast]; exact Nat.lt_trans hn (by decide))) (by decide)
      · have e : (a ++ "=").length = a.length + 1 := by rw [len_tl, tl_append, List.length_append, len_tl] <;> rfl
        rw [e]
        show a.length + 1 + (nT (num a)).length ≤ sizeLine
        omega
      · rw [List.length_map, List.length_map, List.length_take, List.length_map]
        omega
      · intro b u e
        rw [upd_ne (ne_of_none e nD)]
        exact q1 b u e
      · rw [upd_same, take_more ha, List.map_append, List.map_append] <;> rfl
    · intro H2 ⟨q1, q2⟩
      rw [List.length_map, List.take_length] at q2
      have s := sum_le (c := 40) ((ts.map Prod.fst).map (szPart num)) fun z hz => by
        obtain ⟨a, ha, rfl⟩ := List.mem_map.mp hz
        exact szPart_len (nm a ha) (nu a ha).2
      have ll : ((ts.map Prod.fst).map (szPart num)).length = ts.length := by rw [List.length_map, List.length_map]
      have l1 : (" " : Str).length = 1 := rfl
      exact ⟨_, D, (ts.map Prod.fst).map (szPart num), rfl, rfl, .inl (SqL.of q2), by rw [ll] at s ⊢; rw [l1]; omega, k H2 (s1.trans q1)⟩
end
end K50


namespace K50
open PySem L2 TL ClX
def nums (num : Str → Nat) (l : List Str) : List (Key × V) := l.map fun a => (Sum.inr a, V.int (num a : Int))
theorem nums_put {num : Str → Nat} {l : List Str} {a : Str} (n : a ∉ l) : putK (nums num l) (Sum.inr a) (V.int (num a : Int)) = nums num (l ++ [a]) := by
  have h : ((nums num l).any fun kv => decide (kv.1 = (Sum.inr a : Key))) = false := by
    rw [Bool.eq_false_iff]
    intro h
    obtain ⟨x, hx, e⟩ := List.any_eq_true.mp h
    obtain ⟨b, hb, rfl⟩ := List.mem_map.mp hx
    have := Sum.inr.inj (of_decide_eq_true e)
    exact n (this ▸ hb)
  unfold putK
  rw [h, if_neg (by decide)]
  unfold nums
  rw [List.map_append] <;> rfl
section
variable {P : Program} {w : World} {K : PySem.W.Frag} {mg : Str → Option Value} {base : Heap}
theorem scSzParse : FnScope ["forest", "text", "words", "flags", "sizes", "flag", "word", "size"] ["forest", "text"] (defScope sSzParse) := ⟨rfl, rfl, rfl, by decide +kernel, rfl, by decide +kernel, by decide +kernel⟩
theorem ok_szParse {f fI CF pF gF : Addr} {fd fdI dF : FuncData} (F : Fun K "parse_sizes" "parse_sizes" sSzParse f fd) (T : Nm mg) (C : Cd mg) (O : FoC K CF) (L : FlP P w K mg base CF pF gF dF) (FI : Fun K "integer_of" "integer_of" sIntOf fI fdI) (bI : Binds K fdI ["word"] []) (gI : mg "integer_of" = some (.ref fI)) :
    FnOk P w K mg base CX0 3 f fd ["forest", "text"] (spSzParse CF) := by
  have GI : FnOk P w K mg base CX0 1 fI fdI ["word"] spIntOf := ok_intOf FI T C
  refine F.ok scSzParse (fun vs H Q E h => ?_) (fun cdv A outer s H vs Q E hr h => ?_)
  · obtain ⟨x, ts, num, rfl, _⟩ := h
    rfl
  · obtain ⟨x, ts, num, rfl, fa, one, few, ndk, nm, k⟩ := h
    have hu := hu_of hr
    have hr1 : Room 1 _ := hr.mono (by decide)
    have hr2 : Room (1 + 1) _ := hr.mono (by decide)
    refine ⟨_, pss_cons (ps_set (i := 2) scSzParse.nd rfl (.inl rfl) (pe_ifExp (pt_val (pe_callB call_isi (by rfl) T.isi (by decide +kernel) (pa_cons (pv 1) (pa_cons (pe_bltn (v := .ty "str") (u := .type "str") (by rfl) T.str (by decide +kernel) rfl) pa_nil)))) (pe_split (pv 1) pe_str) (pe_lst pa_nil)))
      (pss_cons (ps_set (i := 3) scSzParse.nd rfl (.inl rfl) (pe_prop (pv 0) O.cl L.pr L.fn hr2 L.bn .nil pass0 (by rfl)))
      (pss_cons (ps_if (pt_cmpR op_ne (pe_callB call_len_seq (by rfl) T.len PySem.boot_len (pa_cons (pv 2) pa_nil)) (pe_callB call_len_seq (by rfl) T.len PySem.boot_len (pa_cons (pv 3) pa_nil)) (nomark _)) pss_never pss_nil)
      (pss_cons (ps_set (i := 4) scSzParse.nd rfl (.inl rfl) pe_dnewK)
      (pss_cons (ps_for PassesOwn.never rfl (pi_zip rfl T.zip (pa_cons (pv 3) (pa_cons (pv 2) pa_nil))) (pg_tup rfl (pgs_cons (pg_name (i := 5) scSzParse.nd rfl (.inl rfl)) (pgs_cons (pg_name (i := 6) scSzParse.nd rfl (.inl rfl)) pgs_nil)))
        (pss_cons (ps_set (i := 7) scSzParse.nd rfl (.inl rfl) (pe_call GI hr1 rfl gI FI.kp bI .nil pass0 (pa_cons (pe_slice sl_str (pv 6) (po_some (pe_op op_add (pe_callB call_len_str (by rfl) T.len PySem.boot_len (pa_cons (pv 5) pa_nil)) pe_int)) po_none) pa_nil)))
        (pss_cons (ps_if (PW.pt (pw_or (pt_not (pt_val (pe_m1 PySem.F.slot_str_startswith PySem.F.type_str_startswith mt_startswith (pv 6) (pe_op op_add_str (pv 5) pe_str)))) (pw_or1 (pt_cmpR op_isN (pv 7) pe_non (nomark _))))) pss_never pss_nil)
        (pss_one (ps_dput hu (pv 4) (pv 5) (pv 7) rfl)))))
      (pss_one (ps_ret (pv 4))))))), ?_⟩
    have big : 1000 ≤ sizeLine := by decide
    obtain ⟨fl, efl⟩ : ∃ fl, fl = ts.map Prod.fst := ⟨_, rfl⟩
    have lfl : fl.length = ts.length := by rw [efl, List.length_map]
    rw [← efl] at ndk nm k ⊢
    have nefl : fl ≠ [] := fun e => by
      rw [e] at lfl
      simp at lfl
      omega
    have tlen := szText_len (num := num) (fl := fl) (by omega) nm
    have fa' := fa
    obtain ⟨dx, dq, hx, hd⟩ := fa'
    refine ⟨_, rfl, .str (szText num fl), _, _, _, true, rfl, .ty _, .base (.str _), kit_ty (by decide +kernel), true, rfl, ?_⟩
    show if true = true then _ else _
    rw [if_pos rfl]
    refine ⟨_, rfl, ⟨_, rfl⟩, _, _, rfl, rfl, by decide +kernel, by omega, fun pw nw => ?_⟩
    rw [szText_split nefl fun a ha => (nm a ha).1]
    obtain ⟨H1, e1⟩ : ∃ X, X = upd H pw (.lst ((fl.map (szPart num)).map V.str)) := ⟨_, rfl⟩
    have s1 : Same H H1 := e1 ▸ same_new nw
    have at1 : H1 pw = some (.lst ((fl.map (szPart num)).map V.str)) := by rw [e1]; exact upd_same
    rw [← e1]
    refine ⟨_, rfl, x, dx, _, rfl, s1 _ _ hx, x, ts, rfl, FAt.mono s1 fa, fun pf nf => ?_⟩
    rw [← efl]
    obtain ⟨H2, e2⟩ : ∃ X, X = upd H1 pf (.lst (fl.map V.str)) := ⟨_, rfl⟩
    have s2 : Same H1 H2 := e2 ▸ same_new nf
    have at2 : H2 pf = some (.lst (fl.map V.str)) := by rw [e2]; exact upd_same
    have at2w := s2 _ _ at1
    rw [← e2]
    refine ⟨_, rfl, pw, _, rfl, .inl (SqL.of at2w), _, rfl, pf, _, rfl, .inl (SqL.of at2), rfl, _, rfl, ?_⟩
    rw [decide_eq_true (show V.int _ = V.int _ by rw [List.length_map, List.length_map, List.length_map])]
    refine iteF fun q nq => ?_
    have qw : pw ≠ q := ne_of_none at2w nq
    have qf : pf ≠ q := ne_of_none at2 nq
    refine ⟨_, rfl, _, rfl, pf, pw, _, _, rfl, SqL.of (by rw [upd_ne qf]; exact at2), SqL.of (by rw [upd_ne qw]; exact at2w), ?_⟩
    refine for_it (walk_zip (n := fl.length) (by rw [List.length_map, List.length_map, List.length_map, Nat.min_self])) (fun j σ' H' => (∃ u5 u6 u7, σ' = [some (.ref x), some (.str (szText num fl)), some (.ref pw), some (.ref pf), some (.ref q), u5, u6, u7]) ∧ (∀ b o, H2 b = some o → H' b = some o) ∧ H' q = some (.dK (nums num (fl.take j))))
      ⟨⟨_, _, _, rfl⟩, same_new nq, upd_same⟩ (fun j σ' H' _ z => ⟨SqL.of (z.2.1 _ _ at2), SqL.of (z.2.1 _ _ at2w)⟩) ?_ ?_
    · intro j T' σ' Ha Hb hj ⟨⟨u5, u6, u7, e⟩, sa, hqa⟩ ⟨T, y, z, eT, nT', eH, ey, ez⟩
      subst e
      subst eT
      subst eH
      have ey2 : (fl.map V.str)[j]? = some y := ey
      have ez2 : ((fl.map (szPart num)).map V.str)[j]? = some z := ez
      rw [List.getElem?_map] at ey2
      obtain ⟨a, ha, rfl⟩ := Option.map_eq_some_iff.mp ey2
      rw [List.getElem?_map, List.getElem?_map, ha] at ez2
      cases ez2
      have ma := List.mem_of_getElem? ha
      obtain ⟨na, hn⟩ := nm a ma
      have la := na.len
      have lp := szPart_len (num := num) na hn
      have sT := same_new (o := .tup [.str a, .str (szPart num a)]) nT'
      refine ⟨T, _, rfl, .inl (.inl upd_same), rfl, ?_⟩
      refine ⟨_, _, rfl, _, _, rfl, rfl, ?_⟩
      refine ⟨_, rfl, _, rfl, a, rfl, by omega, _, _, rfl, rfl, _, rfl, szPart num a, rfl, by omega, num a, ?_, hn, fun H' s' => ?_⟩
      · rw [szPart_tail]
        rfl
      have fresh : a ∉ fl.take j := fun hm => by
        obtain ⟨i, hi⟩ := List.mem_iff_getElem?.mp hm
        have il := (List.getElem?_eq_some_iff.mp hi).1
        rw [List.length_take] at il
        rw [List.getElem?_take, if_pos (by omega)] at hi
        have := (List.getElem?_inj (by omega) ndk).mp (hi.trans ha.symm)
        omega
      have hq' := s' _ _ (sT _ _ hqa)
      refine ⟨_, rfl, ⟨_, rfl⟩, _, rfl, _, _, rfl, rfl, by show a.length + 1 ≤ sizeLine; omega, _, _, rfl, rfl, _, rfl, ?_⟩
      rw [szPart_starts]
      refine iteF ?_
      refine ⟨_, rfl, rfl, _, rfl, ?_⟩
      rw [decide_eq_false (show ¬ V.int (num a : Int) = V.non from fun e => nomatch e)]
      refine iteF ?_
      refine ⟨_, rfl, _, rfl, _, rfl, q, _, rfl, DPut.k (k := Sum.inr a) hq' (by unfold nums; rw [List.length_map, List.length_take]; omega), ⟨_, _, _, rfl⟩, fun b o e => ?_, ?_⟩
      · rw [upd_ne (ne_of_none e nq)]
        exact s' _ _ (sT _ _ (sa b o e))
      · rw [upd_same, nums_put fresh, take_more ha]
    · intro σ' H' ⟨⟨u5, u6, u7, e⟩, sa, hqa⟩
      subst e
      rw [List.take_length] at hqa
      exact ⟨_, rfl, k q H' ((s1.trans s2).trans sa) ((s1.trans s2).free nq) hqa⟩
end
end K50


namespace K50
open PySem L2 TL ClX
def inA (k : Nat) : Stmt := inClass (top 20) k
abbrev sAInit : Stmt := inA 1
abbrev sAForest : Stmt := inA 3
abbrev sAPlaces : Stmt := inA 4
abbrev sAText : Stmt := top 28
abbrev sAParse : Stmt := top 29
/-- the class Assignment -/
structure Ac (K : PySem.W.Frag) (mg : Str → Option Value) (CA : Addr) (mc : Value) : Prop where
  gA : mg "Assignment" = some (.ref CA)
  rd : CRead K CA mc
  most : ∃ u, CVal K CA mc "MOST" (.int 60) u
  cl : Cls K CA
  nF : NoAttr K CA "own_forest"
  nP : NoAttr K CA "own_places"
/-- an assignment at y: its forest, its places -/
def AAt (CA : Addr) (H : Hp) (y x : Addr) (zs : List Str) : Prop := ∃ dy p, H y = some (.ins CA dy [("own_forest", .ref x), ("own_places", .ref p)]) ∧ H p = some (.lst (zs.map V.str))
theorem AAt.mono {CA y x : Addr} {H H' : Hp} {zs : List Str} (s : Same H H') (h : AAt CA H y x zs) : AAt CA H' y x zs := let ⟨dy, p, e1, e2⟩ := h; ⟨dy, p, s _ _ e1, s _ _ e2⟩
theorem put2 {u v : V} : putF "own_places" v [(("own_forest" : Str), u)] = [(("own_forest" : Str), u), (("own_places" : Str), v)] := by
  unfold putF
  rw [if_neg (by decide +kernel)] <;> rfl
def spAInit (CF CA : Addr) : Sp := fun vs H Q _ => ∃ (y x l dy : Addr) (ts : List (Str × Str)) (zs : List Str), vs = [.ref y, .ref x, .ref l] ∧ H y = some (.ins CA dy []) ∧ FAt CF H x ts ∧ H l = some (.lst (zs.map V.str)) ∧ 1 ≤ zs.length ∧ zs.length ≤ 60 ∧ (∀ z ∈ zs, z = "" ∨ z ∈ ts.map Prod.fst) ∧
  ∀ H', AAt CA H' y x zs → (∀ b o, b ≠ y → H b = some o → H' b = some o) → Q .non H'
def spAForest (CA : Addr) : Sp := fun vs H Q _ => ∃ (y x : Addr) (zs : List Str), vs = [.ref y] ∧ AAt CA H y x zs ∧ Q (.ref x) H
def spAPlaces (CA : Addr) : Sp := fun vs H Q _ => ∃ (y x : Addr) (zs : List Str), vs = [.ref y] ∧ AAt CA H y x zs ∧ ∀ p, H p = none → Q (.ref p) (upd H p (.lst (zs.map V.str)))
theorem prs_key {ts : List (Str × Str)} {z : Str} (h : z ∈ ts.map Prod.fst) : (valV (prs ts) (Sum.inr z)).isSome = true := by
  rw [← valV_any, prs_any, decide_eq_true h]
section
variable {P : Program} {w : World} {K : PySem.W.Frag} {mg : Str → Option Value} {base : Heap}
theorem scAInit : FnScope ["self", "forest", "places", "user", "place"] ["self", "forest", "places"] (defScope sAInit) := ⟨rfl, rfl, rfl, by decide +kernel, rfl, by decide +kernel, by decide +kernel⟩
theorem ok_ainit {f CF CA : Addr} {mc mcA : Value} {fd : FuncData} (F : Fun K "__init__" "Assignment.__init__" sAInit f fd) (T : Nm mg) (O : FoC K CF) (Z : Fc K mg CF mc) (B : Ac K mg CA mcA) : FnOk P w K mg base CX0 1 f fd ["self", "forest", "places"] (spAInit CF CA) := by
  obtain ⟨um, cm⟩ := B.most
  obtain ⟨ur, cr⟩ := Z.root
  refine F.ok scAInit (fun vs H Q E h => ?_) (fun cdv A outer s H vs Q E hr h => ?_)
  · obtain ⟨y, x, l, dy, ts, zs, rfl, _⟩ := h
    rfl
  · obtain ⟨y, x, l, dy, ts, zs, rfl, hy, fa, hl, one, few, mem, k⟩ := h
    have hu := hu_of hr
    refine ⟨_, pss_cons (ps_if (PW.pt (pw_or (pt_not (pt_val (pe_callB call_isiT (by rfl) T.isi (by decide +kernel) (pa_cons (pv 2) (pa_cons (pe_tup (pa_cons (pe_bltn (v := .ty "list") (u := .type "list") (by rfl) T.lst (by decide +kernel) rfl) (pa_cons (pe_bltn (v := .ty "tuple") (u := .type "tuple") (by rfl) T.tup (by decide +kernel) rfl) pa_nil))) pa_nil)))))
        (pw_or1 (pt_not (pt_chain op_le op_le pe_int (pe_callB call_len_seq (by rfl) T.len PySem.boot_len (pa_cons (pv 2) pa_nil)) (pe_cval (pe_glob (v := .ref CA) (by rfl) B.gA rfl))))))) pss_never pss_nil)
      (pss_cons (ps_for PassesOwn.never rfl (pi_enum rfl T.enu (pa_cons (pv 2) pa_nil)) (pg_tup rfl (pgs_cons (pg_name (i := 3) scAInit.nd rfl (.inl rfl)) (pgs_cons (pg_name (i := 4) scAInit.nd rfl (.inl rfl)) pgs_nil)))
        (pss_one (ps_if (PW.pt (pw_or (pt_not (pt_val (pe_callB call_isi (by rfl) T.isi (by decide +kernel) (pa_cons (pv 4) (pa_cons (pe_bltn (v := .ty "str") (u := .type "str") (by rfl) T.str (by decide +kernel) rfl) pa_nil)))))
          (pw_or1 (PW.pt (pw_and (pt_cmpR op_ne (pv 4) (pe_cval (pe_glob (v := .ref CF) (by rfl) Z.gF rfl)) (nomark _)) (pw_and1 (pt_cmp (pc_dnotin hu (pv 4) (pe_fld (pv 1) rfl))))))))) pss_never pss_nil)))
      (pss_cons (ps_fld (pv 0) (pv 1) rfl)
      (pss_one (ps_fld (pv 0) (pe_callTy call_list_of (by rfl) T.lst (by decide +kernel) (pa_cons (pv 2) pa_nil)) rfl)))), ?_⟩
    have big : 1000 ≤ sizeLine := by decide
    obtain ⟨dx, dq, hx, hd⟩ := fa
    refine ⟨_, rfl, by show 2 ≤ sizeLine; omega, fun tp ntp => ?_⟩
    have s1 := same_new (o := .tup [.ty "list", .ty "tuple"]) ntp
    refine ⟨.ref l, tp, [.ty "list", .ty "tuple"], _, [.type "list", .type "tuple"], true, rfl, upd_same, .cons (.ty _) (.cons (.ty _) .nil), .base (.lst (s1 _ _ hl)), kitAny_cons (b := true) (kit_ty (by decide +kernel)) (fun z => nomatch z) (fun _ => rfl), true, rfl, ?_⟩
    refine iteF ?_
    obtain ⟨H1, e1⟩ : ∃ X, X = upd H tp (.tup [.ty "list", .ty "tuple"]) := ⟨_, rfl⟩
    rw [← e1] at s1 ⊢
    have hl1 := s1 _ _ hl
    refine ⟨_, rfl, l, _, rfl, .inl (SqL.of hl1), _, _, rfl, rfl, _, rfl, ?_⟩
    have ll : (zs.map V.str).length = zs.length := List.length_map ..
    rw [if_pos (decide_eq_true (by omega))]
    refine ⟨CA, mcA, _, um, rfl, B.rd, cm, _, _, rfl, rfl, _, rfl, ?_⟩
    rw [decide_eq_true (show ((zs.map V.str).length : Int) ≤ 60 by omega)]
    refine iteF ?_
    refine ⟨_, rfl, l, _, rfl, SqL.of hl1, ?_⟩
    refine for_it walk_enum (fun j σ' H' => (∃ u3 u4, σ' = [some (.ref y), some (.ref x), some (.ref l), u3, u4]) ∧ Same H1 H') ⟨⟨_, _, rfl⟩, fun _ _ e => e⟩ (fun j σ' H' _ z => SqL.of (z.2 _ _ hl1)) ?_ ?_
    · intro j T' σ' Ha Hb hj ⟨⟨u3, u4, e⟩, sa⟩ ⟨Tp, i, z, eT, nT, eH, ey, ez⟩
      subst e
      subst eT
      subst eH
      cases ey
      have ez2 : (zs.map V.str)[j]? = some z := ez
      rw [List.getElem?_map] at ez2
      obtain ⟨a, ha, rfl⟩ := Option.map_eq_some_iff.mp ez2
      have sT := same_new (o := .tup [.int (j : Int), .str a]) nT
      have hx2 := sT _ _ (sa _ _ (s1 _ _ hx))
      have hd2 := sT _ _ (sa _ _ (s1 _ _ hd))
      refine ⟨Tp, _, rfl, .inl (.inl upd_same), rfl, ?_⟩
      refine ⟨_, _, rfl, _, _, rfl, rfl, ?_⟩
      refine ⟨_, rfl, .str a, _, _, _, true, rfl, .ty _, .base (.str a), kit_ty (by decide +kernel), true, rfl, ?_⟩
      refine iteF ?_
      refine ⟨_, rfl, CF, mc, _, ur, rfl, Z.rd, cr, rfl, _, rfl, ?_⟩
      rcases mem a (List.mem_of_getElem? ha) with rfl | ma
      · rw [decide_eq_true rfl]
        refine iteF ?_
        exact iteF ⟨⟨_, _, rfl⟩, sa.trans sT⟩
      · by_cases e0 : V.str a = V.str ""
        · rw [decide_eq_true e0]
          refine iteF ?_
          exact iteF ⟨⟨_, _, rfl⟩, sa.trans sT⟩
        · rw [decide_eq_false e0]
          show if true = true then _ else _
          rw [if_pos rfl]
          refine ⟨_, rfl, _, rfl, x, CF, dx, _, .ref dq, rfl, hx2, O.cl, O.nA, rfl, dq, _, rfl, DGet.k (k := Sum.inr a) hd2, _, rfl, ?_⟩
          rw [prs_key ma]
          exact iteF ⟨⟨_, _, rfl⟩, sa.trans sT⟩
    · intro σ' H2 ⟨⟨u3, u4, e⟩, sa⟩
      subst e
      have s2 : Same H H2 := s1.trans sa
      have hy2 := s2 _ _ hy
      have hl2 := s2 _ _ hl
      have yl : l ≠ y := ne_of hl2 hy2 (by intro z; cases z)
      refine ⟨_, rfl, _, rfl, y, CA, dy, [], rfl, hy2, B.cl, B.nF, by show 0 < 1000; decide, ?_⟩
      refine ⟨_, rfl, l, _, rfl, .inl (SqL.of (by rw [upd_ne yl]; exact hl2)), fun p np => ?_⟩
      have yp : y ≠ p := ne_of_none upd_same np
      refine ⟨_, rfl, y, CA, dy, [("own_forest", .ref x)], rfl, by rw [upd_ne yp, upd_same] <;> rfl, B.cl, B.nP, by show 1 < 1000; decide, ?_⟩
      rw [put2]
      refine k _ ⟨dy, p, upd_same, by rw [upd_ne yp.symm, upd_same]⟩ fun b o by_ e => ?_
      have np2 : H2 p = none := by
        rw [upd_ne yp.symm] at np
        exact np
      rw [upd_ne by_, upd_ne (ne_of_none (s2 _ _ e) np2), upd_ne by_]
      exact s2 _ _ e
theorem scAForest : FnScope ["self"] ["self"] (defScope sAForest) := ⟨rfl, rfl, rfl, by decide +kernel, rfl, by decide +kernel, by decide +kernel⟩
theorem ok_aforest {f CA : Addr} {mcA : Value} {fd : FuncData} (F : Fun K "forest" "Assignment.forest" sAForest f fd) (B : Ac K mg CA mcA) : FnOk P w K mg base CX0 1 f fd ["self"] (spAForest CA) := by
  refine F.ok scAForest (fun vs H Q E h => ?_) (fun cdv A outer s H vs Q E hr h => ?_)
  · obtain ⟨y, x, zs, rfl, _⟩ := h
    rfl
  · obtain ⟨y, x, zs, rfl, ⟨dy, p, hy, hp⟩, k⟩ := h
    refine ⟨_, pss_one (ps_ret (pe_fld (pv 0) rfl)), ?_⟩
    exact ⟨_, rfl, y, CA, dy, _, .ref x, rfl, hy, B.cl, B.nF, rfl, k⟩
theorem scAPlaces : FnScope ["self"] ["self"] (defScope sAPlaces) := ⟨rfl, rfl, rfl, by decide +kernel, rfl, by decide +kernel, by decide +kernel⟩
theorem ok_aplaces {f CA : Addr} {mcA : Value} {fd : FuncData} (F : Fun K "places" "Assignment.places" sAPlaces f fd) (T : Nm mg) (B : Ac K mg CA mcA) : FnOk P w K mg base CX0 1 f fd ["self"] (spAPlaces CA) := by
  refine F.ok scAPlaces (fun vs H Q E h => ?_) (fun cdv A outer s H vs Q E hr h => ?_)
  · obtain ⟨y, x, zs, rfl, _⟩ := h
    rfl
  · obtain ⟨y, x, zs, rfl, ⟨dy, p, hy, hp⟩, k⟩ := h
    refine ⟨_, pss_one (ps_ret (pe_callTy call_list_of (by rfl) T.lst (by decide +kernel) (pa_cons (pe_fld (pv 0) rfl) pa_nil))), ?_⟩
    exact ⟨_, rfl, y, CA, dy, _, .ref p, rfl, hy, B.cl, B.nP, rfl, p, _, rfl, .inl (SqL.of hp), fun q nq => k q nq⟩
end
end K50


namespace K50
open PySem L2 TL ClX
/-- a place's line -/
def lnT (z : Str) : Str := if z = "" then "-" else z
def asText (zs : List Str) : Str := Txt.join "" (zs.map fun z => lnT z ++ "\n")
def Pl (z : Str) : Prop := z = "" ∨ NameL z
theorem NameL.ne0 {z : Str} (h : NameL z) : z ≠ "" := fun e => by
  subst e
  revert h
  decide +kernel
theorem NameL.dash {z : Str} (h : NameL z) : z ≠ "-" := fun e => by
  subst e
  revert h
  decide +kernel
theorem lnT_free {z : Str} (h : Pl z) : 10 ∉ tl (lnT z) := by
  unfold lnT
  rcases h with rfl | h
  · rw [if_pos rfl]
    decide +kernel
  · rw [if_neg h.ne0]
    intro hm
    have := (h.1 10 hm).1
    omega
theorem lnT_len {z : Str} (h : Pl z) : (lnT z).length ≤ 8 := by
  unfold lnT
  rcases h with rfl | h
  · rw [if_pos rfl]
    decide
  · rw [if_neg h.ne0]
    exact h.len.2
theorem lnT_back {z : Str} (h : Pl z) : (if lnT z = "-" then ("" : Str) else lnT z) = z := by
  unfold lnT
  rcases h with rfl | h
  · rw [if_pos rfl, if_pos rfl]
  · rw [if_neg h.ne0, if_neg h.dash]
theorem join_nl : ∀ ls : List Str, tl (Str.join "" (ls.map fun z => z ++ "\n")) = tl (Str.join "\n" (ls ++ [("" : Str)]))
  | [] => rfl
  | [a] => by
    show tl (a ++ "\n") = tl (a ++ "\n" ++ "")
    rw [tl_append (a ++ "\n") ""] 
    show _ = tl (a ++ "\n") ++ []
    rw [List.append_nil]
  | a :: b :: r => by
    have ih := join_nl (b :: r)
    show tl ((a ++ "\n") ++ "" ++ Str.join "" ((b :: r).map fun z => z ++ "\n")) = tl (a ++ "\n" ++ Str.join "\n" ((b :: r) ++ [("" : Str)]))
    rw [tl_append, tl_append (a ++ "\n") "", tl_append (a ++ "\n") (Str.join _ _), ih]
    show tl (a ++ "\n") ++ [] ++ _ = _
    rw [List.append_nil]
theorem asText_split {zs : List Str} (h : ∀ z ∈ zs, Pl z) : Txt.split (asText zs) "\n" = zs.map lnT ++ [("" : Str)] := by
  have e : asText zs = Txt.join "\n" (zs.map lnT ++ [("" : Str)]) := by
    unfold asText
    rw [join_eq, join_eq]
    refine ext_tl ?_
    rw [← join_nl, List.map_map] <;> rfl
  rw [e]
  refine split_join (s := 10) (S := []) rfl (by decide +kernel) (by simp) fun p hp => ?_
  rcases List.mem_append.mp hp with hp | hp
  · obtain ⟨z, hz, rfl⟩ := List.mem_map.mp hp
    exact lnT_free (h z hz)
  · rw [List.mem_singleton.mp hp]
    decide +kernel
theorem asParts_sum {zs : List Str} (h : ∀ z ∈ zs, Pl z) : ((zs.map fun z => lnT z ++ "\n").map (·.length)).sum ≤ zs.length * 9 := by
  have s := sum_le (c := 9) (zs.map fun z => lnT z ++ "\n") fun y hy => by
    obtain ⟨z, hz, rfl⟩ := List.mem_map.mp hy
    have := lnT_len (h z hz)
    rw [len_tl] at this ⊢
    rw [tl_append, List.length_append]
    show (tl (lnT z)).length + 1 ≤ 9
    omega
  rw [List.length_map] at s
  exact s
theorem asText_len {zs : List Str} (h : ∀ z ∈ zs, Pl z) (few : zs.length ≤ 60) : (asText zs).length ≤ 600 := by
  have s := asParts_sum h
  have l := StrLaws.join_length_le "" (zs.map fun z => lnT z ++ "\n")
  have l0 : ("" : Str).length = 0 := rfl
  rw [l0] at l
  unfold asText
  rw [join_eq]
  omega
def spAText (CA : Addr) : Sp := fun vs H Q _ => ∃ (y x : Addr) (zs : List Str), vs = [.ref y] ∧ AAt CA H y x zs ∧ zs.length ≤ 60 ∧ (∀ z ∈ zs, Pl z) ∧ ∀ H', Same H H' → Q (.str (asText zs)) H'
def spAParse (CF CA : Addr) : Sp := fun vs H Q _ => ∃ (x : Addr) (ts : List (Str × Str)) (zs : List Str), vs = [.ref x, .str (asText zs)] ∧ FAt CF H x ts ∧ (∀ a ∈ ts.map Prod.fst, NameL a) ∧ 1 ≤ zs.length ∧ zs.length ≤ 60 ∧ (∀ z ∈ zs, z = "" ∨ z ∈ ts.map Prod.fst) ∧
  ∀ y H', Same H H' → H y = none → AAt CA H' y x zs → Q (.ref y) H'
/-- what the properties of an assignment need -/
structure ApP (P : Program) (w : World) (K : PySem.W.Frag) (mg : Str → Option Value) (base : Heap) (CA pP gP pR gR : Addr) (dP dR : FuncData) : Prop where
  prP : PropOf K CA "places" pP gP
  fnP : FnOk P w K mg base CX0 1 gP dP ["self"] (spAPlaces CA)
  bnP : Binds K dP ["self"] []
  prR : PropOf K CA "forest" pR gR
  fnR : FnOk P w K mg base CX0 1 gR dR ["self"] (spAForest CA)
  bnR : Binds K dR ["self"] []
section
variable {P : Program} {w : World} {K : PySem.W.Frag} {mg : Str → Option Value} {base : Heap}
theorem scAText : FnScope ["assignment", "place"] ["assignment"] (defScope sAText) := ⟨rfl, rfl, rfl, by decide +kernel, rfl, by decide +kernel, by decide +kernel⟩
theorem ok_atext {f CF CA pP gP pR gR : Addr} {mc mcA : Value} {fd dP dR : FuncData} (F : Fun K "assignment_text" "assignment_text" sAText f fd) (C : Cd mg) (Z : Fc K mg CF mc) (B : Ac K mg CA mcA) (L : ApP P w K mg base CA pP gP pR gR dP dR) : FnOk P w K mg base CX0 3 f fd ["assignment"] (spAText CA) := by
  obtain ⟨ur, cr⟩ := Z.root
  obtain ⟨tn, gn⟩ := C.nofl
  refine F.ok scAText (fun vs H Q E h => ?_) (fun cdv A outer s H vs Q E hr h => ?_)
  · obtain ⟨y, x, zs, rfl, _⟩ := h
    rfl
  · obtain ⟨y, x, zs, rfl, aa, few, pl, k⟩ := h
    have hr2 : Room (1 + 1) _ := hr.mono (by decide)
    refine ⟨_, pss_one (ps_ret (pe_join pe_str (pe_lc (own := [("place", 1)]) (g := gName 1) (tt := tYes) (te := tOp rAddS (tIf (tTest (tOp rEq (tVar 1) (tCVal K (tC (.ref CF)) "ROOT"))) (tC (.str "-")) (tVar 1)) (tC (.str "\n"))) rfl scAText.nd (pi_list (pe_prop (pv 0) B.cl L.prP L.fnP hr2 L.bnP .nil pass0 (by rfl)))
      (blkOk_by (N := ["assignment", "place"]) (sc := defScope sAText) (by decide +kernel))
      (fun _ _ _ _ _ => pg_name (i := 1) scAText.nd rfl (Or.inl rfl)) (fun _ _ _ _ _ => pts_nil) (fun _ _ _ _ _ => pe_op op_add_str (pe_ifExp (pt_cmpR op_eq (pv 1) (pe_cval (pe_glob (v := .ref CF) (by rfl) Z.gF rfl)) (nomark _)) (pe_glob (v := .str "-") (by rfl) gn ⟨_, rfl⟩) (pv 1)) pe_str)))), ?_⟩
    have big : 1000 ≤ sizeLine := by decide
    have aa' := aa
    obtain ⟨dy, pp, hy, hp⟩ := aa'
    refine ⟨⟨_, rfl⟩, _, rfl, y, dy, _, rfl, hy, y, x, zs, rfl, aa, fun p np => ⟨p, rfl, ⟨_, SqL.of upd_same⟩, fun D nD => ?_⟩⟩
    obtain ⟨H1, e1⟩ : ∃ X, X = upd H p (.lst (zs.map V.str)) := ⟨_, rfl⟩
    have s1 : Same H H1 := e1 ▸ same_new np
    have at1 : H1 p = some (.lst (zs.map V.str)) := by rw [e1]; exact upd_same
    rw [← e1] at nD ⊢
    refine lc_it walk_list (fun i H' => Same H1 H' ∧ H' D = some (.lst (((zs.take i).map fun z => lnT z ++ "\n").map V.str))) ⟨same_new nD, by rw [upd_same] <;> rfl⟩ (fun i H' _ z => SqL.of (z.1 _ _ at1)) ?_ ?_
    · intro i v Ha Hb hi ⟨q1, q2⟩ ⟨eb, ex⟩
      subst eb
      rw [List.getElem?_map] at ex
      obtain ⟨a, ha, rfl⟩ := Option.map_eq_some_iff.mp ex
      have pa := pl a (List.mem_of_getElem? ha)
      have la := lnT_len pa
      have fin : ∃ acc, Hb D = some (.lst acc) ∧ acc.length < sizeLine ∧ Same H1 (upd Hb D (.lst (acc ++ [.str (lnT a ++ "\n")]))) ∧ upd Hb D (.lst (acc ++ [.str (lnT a ++ "\n")])) D = some (.lst (((zs.take (i + 1)).map fun z => lnT z ++ "\n").map V.str)) := by
        refine ⟨_, q2, ?_, ?_, ?_⟩
        · rw [List.length_map, List.length_map, List.length_take]
          omega
        · intro b u e
          rw [upd_ne (ne_of_none e nD)]
          exact q1 b u e
        · rw [upd_same, take_more ha, List.map_append, List.map_append] <;> rfl
      refine ⟨rfl, ?_⟩
      refine ⟨_, rfl, CF, mc, _, ur, rfl, Z.rd, cr, rfl, _, rfl, ?_⟩
      by_cases e0 : a = ""
      · rw [decide_eq_true (show V.str a = V.str "" by rw [e0])]
        show if true = true then _ else _
        rw [if_pos rfl]
        have el : lnT a = "-" := if_pos e0
        rw [el] at fin la
        exact ⟨_, _, rfl, rfl, by show 1 + 1 ≤ sizeLine; omega, fin⟩
      · rw [decide_eq_false (fun e => e0 (V.str.inj e))]
        refine iteF ?_
        have el : lnT a = a := if_neg e0
        rw [el] at fin la
        exact ⟨_, rfl, _, _, rfl, rfl, by show a.length + 1 ≤ sizeLine; omega, fin⟩
    · intro H2 ⟨q1, q2⟩
      rw [List.length_map, List.take_length] at q2
      have s := asParts_sum pl
      have l0 : ("" : Str).length = 0 := rfl
      exact ⟨_, D, (zs.map fun z => lnT z ++ "\n"), rfl, rfl, .inl (SqL.of q2), by rw [l0]; omega, k H2 (s1.trans q1)⟩
theorem scAParse : FnScope ["forest", "text", "lines", "rest", "flags", "number", "line"] ["forest", "text"] (defScope sAParse) := ⟨rfl, rfl, rfl, by decide +kernel, rfl, by decide +kernel, by decide +kernel⟩
theorem ok_aparse {f fI CF CA pF gF : Addr} {mc mcA : Value} {fd fdI dF : FuncData} (F : Fun K "parse_assignment" "parse_assignment" sAParse f fd) (T : Nm mg) (C : Cd mg) (O : FoC K CF) (Z : Fc K mg CF mc) (B : Ac K mg CA mcA) (L : FlP P w K mg base CF pF gF dF)
    (M : Mk K CA fI) (FI : Fun K "__init__" "Assignment.__init__" sAInit fI fdI) (bI : Binds K fdI ["self", "forest", "places"] []) : FnOk P w K mg base CX0 3 f fd ["forest", "text"] (spAParse CF CA) := by
  have GI : FnOk P w K mg base CX0 1 fI fdI ["self", "forest", "places"] (spAInit CF CA) := ok_ainit FI T O Z B
  obtain ⟨ur, cr⟩ := Z.root
  obtain ⟨um, cm⟩ := B.most
  obtain ⟨tn, gn⟩ := C.nofl
  refine F.ok scAParse (fun vs H Q E h => ?_) (fun cdv A outer s H vs Q E hr h => ?_)
  · obtain ⟨x, ts, zs, rfl, _⟩ := h
    rfl
  · obtain ⟨x, ts, zs, rfl, fa, nm, one, few, mem, k⟩ := h
    have hr2 : Room (1 + 1) _ := hr.mono (by decide)
    refine ⟨_, pss_cons (ps_if (pt_not (pt_val (pe_callB call_isi (by rfl) T.isi (by decide +kernel) (pa_cons (pv 1) (pa_cons (pe_bltn (v := .ty "str") (u := .type "str") (by rfl) T.str (by decide +kernel) rfl) pa_nil))))) pss_never pss_nil)
      (pss_cons (ps_asg (pe_split (pv 1) pe_str) (pg_star1 rfl (pgs_cons (pg_name (i := 2) scAParse.nd rfl (.inl rfl)) (pgs_cons (pg_name (i := 3) scAParse.nd rfl (.inl rfl)) pgs_nil))))
      (pss_cons (ps_set (i := 4) scAParse.nd rfl (.inl rfl) (pe_prop (pv 0) O.cl L.pr L.fn hr2 L.bn .nil pass0 (by rfl)))
      (pss_cons (ps_for PassesOwn.never rfl (pi_enum rfl T.enu (pa_cons (pv 2) pa_nil)) (pg_tup rfl (pgs_cons (pg_name (i := 5) scAParse.nd rfl (.inl rfl)) (pgs_cons (pg_name (i := 6) scAParse.nd rfl (.inl rfl)) pgs_nil)))
        (pss_one (ps_if (PW.pt (pw_and (pt_cmpR op_ne (pv 6) (pe_glob (v := .str "-") (by rfl) gn ⟨_, rfl⟩) (nomark _)) (pw_and1 (pt_cmpR op_notIn_seq (pv 6) (pv 4) rfl)))) pss_never pss_nil)))
      (pss_cons (ps_if (PW.pt (pw_or (pt_not (pt_chain op_le op_le pe_int (pe_callB call_len_seq (by rfl) T.len PySem.boot_len (pa_cons (pv 2) pa_nil)) (pe_cval (pe_glob (v := .ref CA) (by rfl) B.gA rfl)))) (pw_or1 (pt_cmpR op_ne (pv 3) pe_str (nomark _))))) pss_never pss_nil)
      (pss_one (ps_ret (pe_make M GI hr2 (by rfl) B.gA bI .nil pass0 (pa_cons (pv 0) (pa_cons (pe_lc (own := [("line", 6)]) (g := gName 6) (tt := tYes) (te := tIf (tTest (tOp rEq (tVar 6) (tC (.str "-")))) (tCVal K (tC (.ref CF)) "ROOT") (tVar 6)) rfl scAParse.nd (pi_list (pv 2))
        (blkOk_by (N := ["forest", "text", "lines", "rest", "flags", "number", "line"]) (sc := defScope sAParse) (by decide +kernel))
        (fun _ _ _ _ _ => pg_name (i := 6) scAParse.nd rfl (Or.inl rfl)) (fun _ _ _ _ _ => pts_nil) (fun _ _ _ _ _ => pe_ifExp (pt_cmpR op_eq (pv 6) (pe_glob (v := .str "-") (by rfl) gn ⟨_, rfl⟩) (nomark _)) (pe_cval (pe_glob (v := .ref CF) (by rfl) Z.gF rfl)) (pv 6))) pa_nil))))))))), ?_⟩
    have big : 1000 ≤ sizeLine := by decide
    have pl : ∀ z ∈ zs, Pl z := fun z hz => (mem z hz).imp id fun h => nm z h
    have tlen := asText_len pl few
    have fa' := fa
    obtain ⟨dx, dq, hx, hd⟩ := fa'
    refine ⟨_, rfl, .str (asText zs), _, _, _, true, rfl, .ty _, .base (.str _), kit_ty (by decide +kernel), true, rfl, ?_⟩
    refine iteF ?_
    refine ⟨_, rfl, ⟨_, rfl⟩, _, _, rfl, rfl, by decide +kernel, by omega, fun p1 n1 => ?_⟩
    rw [asText_split pl]
    refine ⟨p1, (zs.map lnT).map V.str, .str "", rfl, SqL.of (by rw [upd_same, List.map_append] <;> rfl), by rw [List.length_map, List.length_map]; omega, fun D nD => ?_⟩
    refine ⟨_, _, rfl, _, _, rfl, rfl, ?_⟩
    obtain ⟨H1, e1⟩ : ∃ X, X = upd (upd H p1 (.lst ((zs.map lnT ++ [("" : Str)]).map V.str))) D (.lst ((zs.map lnT).map V.str)) := ⟨_, rfl⟩
    have s1 : Same H H1 := e1 ▸ (same_new n1).trans (same_new nD)
    have at1 : H1 D = some (.lst ((zs.map lnT).map V.str)) := by rw [e1]; exact upd_same
    rw [← e1]
    refine ⟨_, rfl, x, dx, _, rfl, s1 _ _ hx, x, ts, rfl, FAt.mono s1 fa, fun pf nf => ?_⟩
    obtain ⟨H2, e2⟩ : ∃ X, X = upd H1 pf (.lst ((ts.map Prod.fst).map V.str)) := ⟨_, rfl⟩
    have s2 : Same H1 H2 := e2 ▸ same_new nf
    have at2 : H2 pf = some (.lst ((ts.map Prod.fst).map V.str)) := by rw [e2]; exact upd_same
    have at2D := s2 _ _ at1
    rw [← e2]
    refine ⟨_, rfl, D, _, rfl, SqL.of at2D, ?_⟩
    refine for_it walk_enum (fun j σ' H' => (∃ u5 u6, σ' = [some (.ref x), some (.str (asText zs)), some (.ref D), some (.str ""), some (.ref pf), u5, u6]) ∧ Same H2 H') ⟨⟨_, _, rfl⟩, fun _ _ e => e⟩ (fun j σ' H' _ z => SqL.of (z.2 _ _ at2D)) ?_ ?_
    · intro j T' σ' Ha Hb hj ⟨⟨u5, u6, e⟩, sa⟩ ⟨Tp, i, z, eT, nT, eH, ey, ez⟩
      subst e
      subst eT
      subst eH
      cases ey
      have ez2 : ((zs.map lnT).map V.str)[j]? = some z := ez
      rw [List.getElem?_map] at ez2
      obtain ⟨b, hb, rfl⟩ := Option.map_eq_some_iff.mp ez2
      rw [List.getElem?_map] at hb
      obtain ⟨a, ha, rfl⟩ := Option.map_eq_some_iff.mp hb
      have sT := same_new (o := .tup [.int (j : Int), .str (lnT a)]) nT
      refine ⟨Tp, _, rfl, .inl (.inl upd_same), rfl, ?_⟩
      refine ⟨_, _, rfl, _, _, rfl, rfl, ?_⟩
      refine ⟨_, rfl, rfl, _, rfl, ?_⟩
      rcases mem a (List.mem_of_getElem? ha) with rfl | ma
      · rw [decide_eq_true (show V.str (lnT "") = V.str "-" from rfl)]
        refine iteF ?_
        exact iteF ⟨⟨_, _, rfl⟩, sa.trans sT⟩
      · have el : lnT a = a := if_neg (nm a ma).ne0
        rw [el] at sT
        rw [el, decide_eq_false (fun e => (nm a ma).dash (V.str.inj e))]
        show if true = true then _ else _
        rw [if_pos rfl]
        refine ⟨_, rfl, _, rfl, pf, _, rfl, .inl (SqL.of (sT _ _ (sa _ _ at2))), rfl, flat_strs _, _, rfl, ?_⟩
        rw [inV_strs, decide_eq_true ma]
        exact iteF ⟨⟨_, _, rfl⟩, sa.trans sT⟩
    · intro σ' H3 ⟨⟨u5, u6, e⟩, sa⟩
      subst e
      have at3 := sa _ _ at2D
      have ll : ((zs.map lnT).map V.str).length = zs.length := by rw [List.length_map, List.length_map]
      refine ⟨_, rfl, D, _, rfl, .inl (SqL.of at3), _, _, rfl, rfl, _, rfl, ?_⟩
      rw [if_pos (decide_eq_true (by omega))]
      refine ⟨CA, mcA, _, um, rfl, B.rd, cm, _, _, rfl, rfl, _, rfl, ?_⟩
      rw [decide_eq_true (show (((zs.map lnT).map V.str).length : Int) ≤ 60 by omega)]
      refine iteF ?_
      refine ⟨_, rfl, rfl, _, rfl, ?_⟩
      rw [decide_eq_true rfl]
      refine iteF ?_
      refine ⟨_, rfl, _, rfl, D, rfl, ⟨_, SqL.of at3⟩, fun D2 nD2 => ?_⟩
      refine lc_it walk_list (fun i H' => Same H3 H' ∧ H' D2 = some (.lst ((zs.take i).map V.str))) ⟨same_new nD2, by rw [upd_same] <;> rfl⟩ (fun i H' _ z => SqL.of (z.1 _ _ at3)) ?_ ?_
      · intro i v Ha Hb hi ⟨q1, q2⟩ ⟨eb, ex⟩
        subst eb
        rw [List.getElem?_map] at ex
        obtain ⟨b, hb, rfl⟩ := Option.map_eq_some_iff.mp ex
        rw [List.getElem?_map] at hb
        obtain ⟨a, ha, rfl⟩ := Option.map_eq_some_iff.mp hb
        have pa := pl a (List.mem_of_getElem? ha)
        have back := lnT_back pa
        have fin : ∃ acc, Hb D2 = some (.lst acc) ∧ acc.length < sizeLine ∧ Same H3 (upd Hb D2 (.lst (acc ++ [.str a]))) ∧ upd Hb D2 (.lst (acc ++ [.str a])) D2 = some (.lst ((zs.take (i + 1)).map V.str)) := by
          refine ⟨_, q2, ?_, ?_, ?_⟩
          · rw [List.length_map, List.length_take]
            omega
          · intro b u e
            rw [upd_ne (ne_of_none e nD2)]
            exact q1 b u e
          · rw [upd_same, take_more ha, List.map_append] <;> rfl
        refine ⟨rfl, ?_⟩
        refine ⟨_, rfl, rfl, _, rfl, ?_⟩
        by_cases e0 : lnT a = "-"
        · rw [if_pos e0] at back
          show if decide (V.str (lnT a) = V.str "-") = true then _ else _
          rw [decide_eq_true (show V.str (lnT a) = V.str "-" by rw [e0]), if_pos rfl]
          rw [← back] at fin
          exact ⟨CF, mc, _, ur, rfl, Z.rd, cr, fin⟩
        · rw [if_neg e0] at back
          show if decide (V.str (lnT a) = V.str "-") = true then _ else _
          rw [decide_eq_false (fun e => e0 (V.str.inj e))]
          refine iteF ?_
          rw [← back] at fin
          exact ⟨_, rfl, fin⟩
      · intro H4 ⟨q1, q2⟩
        rw [List.length_map, List.length_map, List.take_length] at q2
        have s4 : Same H H4 := (s1.trans (s2.trans sa)).trans q1
        intro y dy ny ndy yd
        have sN : Same H4 (upd (upd H4 dy (.own y)) y (.ins CA dy [])) := fun b u e => by
          rw [upd_ne (ne_of_none e ny), upd_ne (ne_of_none e ndy)]
          exact e
        refine ⟨y, x, D2, dy, ts, zs, rfl, upd_same, FAt.mono (s4.trans sN) fa, sN _ _ q2, one, few, mem, fun H5 aa oth => ⟨rfl, ?_⟩⟩
        refine k y H5 (fun b u e => ?_) (s4.free ny) aa
        have e4 := s4 b u e
        exact oth b u (ne_of_none e4 ny) (sN _ _ e4)
end
end K50


namespace K50
open PySem L2 TL ClX
def strKey (e : DictEntry) : Bool := match e.key with
  | .str _ _ => true
  | _ => false
/-- a class of the text with its own __eq__ and no __ne__ -/
structure EqF (K : PySem.W.Frag) (C f : Addr) : Prop where
  at_ : ∃ nm q N bs sn sub ab col dd k0 k1 k2 k3 k5 newId, K.lookup C = some (excClassObj nm q C N bs [.type "object"] true sn sub ab col dd k0 k1 k2 k3 k5 newId) ∧
    ∃ (oc : Value) (od : Option Addr) (es : Array DictEntry) (ep : Nat) (sl : Array (Option Value)), K.lookup N = some ⟨oc, od, .dict es ep, sl⟩ ∧ es.toList.all strKey = true ∧ nsFind es "__eq__" = some (.ref f) ∧ nsFind es "__ne__" = none
  ty : ∃ o : Obj, K.lookup f = some o ∧ o.cls = .type "function"
theorem EqF.own {K : PySem.W.Frag} {C f : Addr} (e : EqF K C f) {h : Heap} (X : K.In h) {a : Addr} {o : Obj} (ho : h.get? a = some o) (hc : o.cls = .ref C) : h.OwnEqNoNe a C f "object" [.type "object"] := by
  obtain ⟨nm, q, N, bs, sn, sub, ab, col, dd, k0, k1, k2, k3, k5, newId, hC, oc, od, es, ep, sl, hN, hk, h1, h2⟩ := e.at_
  obtain ⟨of, hf, tf⟩ := e.ty
  have keys : StrKeys es := fun x hx => by
    have := List.all_eq_true.mp hk x (Array.mem_toList_iff.mpr hx)
    unfold strKey at this
    cases ek : x.key with
    | str n t => exact ⟨n, t, rfl⟩
    | _ => rw [ek] at this; cases this
  exact ⟨o, of, nm, q, N, bs, true, sn, sub, ab, col, dd, k0, k1, k2, k3, k5, newId, nsFind es, _, ho, hc, X _ _ hC, ⟨_, es, ep, X _ _ hN, rfl, keys, fun _ => rfl⟩, h1, X _ _ hf, tf, PySem.F.cmp_object.mro, PySem.F.cmp_object.eq.lookup, h2⟩
/-- x != y, two instances that are equal by their own __eq__ -/
def rNeG (D : Eqv) : R2 := fun x y H Q => D x y H ∧ ∀ H', Ext H H' → Q (.bl false) H'
theorem op_neG {X : Cx} {CX : CXT} {C f : Addr} {fd : FuncData} {ps : List Str} {R : Addr → Addr → Hp → Prop} {E : XK} {n : Nat} (F : FnOk X.prog X.w X.K X.mg X.base CX n f fd ps (spEq R)) (ef : EqF X.K C f) (hb : Binds X.K fd ps []) (hx : Passes CX X E) (hr : Room (n + 1) X.A) (hu : X.A.units + 1 < cLine) :
    OpR X (compareOp .NotEq) (rNeG (DIns C R)) := by
  intro pins s σ H x y v u Q I rx ry hq
  obtain ⟨⟨a, b, dx, dy, fs, gs, rfl, rfl, ha, hb', rel⟩, q⟩ := hq
  cases rx
  cases ry
  obtain ⟨mA, J, _⟩ := ins_get I.hok ha
  obtain ⟨mB, J', _⟩ := ins_get I.hok hb'
  obtain ⟨od, J, _⟩ := J.look
  obtain ⟨od', J', _⟩ := J'.look
  obtain ⟨j1, j2, _⟩ := J
  obtain ⟨j3, j4, _⟩ := J'
  have want : spEq R [.ref a, .ref b] H (fun v H' => v = .bl true ∧ Ext H H') E := ⟨a, b, rfl, rel, fun H' e => ⟨rfl, e⟩⟩
  have len := F.len _ _ _ _ want
  have rv : Vals [V.ref a, V.ref b] [Value.ref a, Value.ref b] := .cons rfl (.cons rfl .nil)
  have bind : BindsTo s fd ⟨[.ref a, .ref b], []⟩ (ps.zip [.ref a, .ref b]) := by
    have z := hb s [.ref a, .ref b] I.kIn (by simpa using len)
    simpa using z
  have run : wpAny (model X.prog X.w) X.A.in1 (call (.ref f) [.ref a, .ref b]) (fun v s' => ∃ b, v = .bool b ∧ EP X pins σ Q (.bool (!b)) s') X.xe s := by
    refine wpAny_call (codeAny_mono (F.run X.A.in1 X.stack s H ⟨[.ref a, .ref b], []⟩ [.ref a, .ref b] [.ref a, .ref b] _ E hr.in1 I.env0.in1 bind rv want) fun r s' z => ?_)
    match r, z with
    | .error er, z => exact hx pins σ H s er s' I z
    | .ok (.ret u), z =>
      obtain ⟨t, H', I', rz, ez, ex⟩ := I.after z
      subst ez
      cases rz
      exact ⟨true, rfl, .bl false, H', I', rfl, q H' ex⟩
    | .ok .next, z => exact z.elim
    | .ok .brk, z => exact z.elim
    | .ok .cont, z => exact z.elim
  have own := ef.own I.kIn j1 j2
  obtain ⟨hp, gn, dr, tk, os⟩ := s
  exact compareOp_ne_ownEq PySem.F.cmp_object own j3 j4 hu run
abbrev sFEq : Stmt := inF 3
abbrev sAEq : Stmt := inA 2
/-- what isinstance asks of an own class -/
structure IsF (K : PySem.W.Frag) (C : Addr) : Prop where
  ha : PySem.W.findIn K (.ref C) "__class__" = some (some (.builtin "object.__class__"))
  hn : PySem.W.specialIn K (.builtin "object.__class__") "__get__" = some (some (.builtin "getset_descriptor.__get__"))
  ht : PySem.W.takesIn K (.builtin "object.__class__") = some true
  hm : PySem.W.mroIn K C (.type "object") = some true
theorem kit_self {K : PySem.W.Frag} {C : Addr} : PySem.W.kitOne K (.ref C) (.ref C) = some true := if_pos (beq_self_eq_true _)
def RFo (CF : Addr) : Addr → Addr → Hp → Prop := fun a b H => ∃ ts, FAt CF H a ts ∧ FAt CF H b ts ∧ (ts.map Prod.fst).Nodup
def RAs (CF CA : Addr) : Addr → Addr → Hp → Prop := fun a b H => ∃ x ts zs, AAt CA H a x zs ∧ AAt CA H b x zs ∧ FAt CF H x ts ∧ (ts.map Prod.fst).Nodup ∧ ∀ z ∈ zs, Pl z
theorem prs_all {ts : List (Str × Str)} (nd : (ts.map Prod.fst).Nodup) : ∀ p ∈ prs ts, valV (prs ts) p.1 = some p.2 ∧ flatB p.2 = true := fun p hp => by
  obtain ⟨⟨a, r⟩, hm, rfl⟩ := List.mem_map.mp hp
  obtain ⟨i, hi⟩ := List.mem_iff_getElem?.mp hm
  exact ⟨val_of nd hi, rfl⟩
theorem dp_strs {K : PySem.W.Frag} {H : Hp} : ∀ zs : List Str, DpAll K H (zs.map V.str) (zs.map PyData.str)
  | [] => .nil
  | z :: zs => .cons (.str z) (dp_strs zs)
theorem strOk_pl {z : Str} (h : Pl z) : PyData.strOk z = true := by
  rcases h with rfl | h
  · decide +kernel
  · unfold PyData.strOk
    rw [Array.all_eq_true']
    intro c hc
    have := (h.1 c (Array.mem_toList_iff.mpr hc)).2
    exact decide_eq_true (by omega)
theorem lay_strs {zs : List Str} (h : ∀ z ∈ zs, Pl z) : (PyData.list (zs.map PyData.str)).canLay0 = true := by
  show PyData.canLayAll0 (zs.map .str) = true
  rw [PyProof.Rows.canLayAll_strs']
  exact List.all_eq_true.mpr fun z hz => strOk_pl (h z hz)
theorem shaped_strs {zs : List Str} (h : ∀ z ∈ zs, Pl z) : SeqAt.shaped (.list (zs.map PyData.str)) = true := by
  have d : (PyData.list (zs.map PyData.str)).depth = 1 := by
    show PyData.depthAll (zs.map .str) + 1 = 1
    rw [PyProof.Rows.depthAll_strs']
  unfold SeqAt.shaped
  rw [lay_strs h, d] <;> rfl
section
variable {P : Program} {w : World} {K : PySem.W.Frag} {mg : Str → Option Value} {base : Heap}
theorem scFEq : FnScope ["self", "other"] ["self", "other"] (defScope sFEq) := ⟨rfl, rfl, rfl, by decide +kernel, rfl, by decide +kernel, by decide +kernel⟩
theorem ok_feq {f CF : Addr} {mc : Value} {fd : FuncData} (F : Fun K "__eq__" "Forest.__eq__" sFEq f fd) (T : Nm mg) (O : FoC K CF) (Z : Fc K mg CF mc) (S : IsF K CF) : FnOk P w K mg base CX0 1 f fd ["self", "other"] (spEq (RFo CF)) := by
  refine F.ok scFEq (fun vs H Q E h => ?_) (fun cdv A outer s H vs Q E hr h => ?_)
  · obtain ⟨a, b, rfl, _⟩ := h
    rfl
  · obtain ⟨a, b, rfl, ⟨ts, ⟨da, qa, ha, hda⟩, ⟨db, qb, hb, hdb⟩, nd⟩, k⟩ := h
    have hu := hu_of hr
    refine ⟨_, pss_one (ps_ret (pe_and (pe_callB call_isi (by rfl) T.isi (by decide +kernel) (pa_cons (pv 1) (pa_cons (pe_glob (v := .ref CF) (by rfl) Z.gF rfl) pa_nil))) (pe_one (pe_cmpR (op_eq_dictA (Nat.lt_of_succ_lt hu)) (pe_fld (pv 0) rfl) (pe_fld (pv 1) rfl) (nomark _))))), ?_⟩
    refine ⟨_, rfl, .ref b, _, .ref CF, _, true, rfl, .own _, .base (.ins hb O.cl S.ha S.hn S.ht S.hm), kit_self, true, rfl, ?_⟩
    show if true = true then _ else _
    rw [if_pos rfl]
    exact ⟨_, rfl, a, CF, da, _, .ref qa, rfl, ha, O.cl, O.nA, rfl, _, rfl, b, CF, db, _, .ref qb, rfl, hb, O.cl, O.nA, rfl, qa, qb, _, _, rfl, rfl, hda, hdb, rfl, prs_all nd, k _ fun _ _ e => e⟩
theorem scAEq : FnScope ["self", "other"] ["self", "other"] (defScope sAEq) := ⟨rfl, rfl, rfl, by decide +kernel, rfl, by decide +kernel, by decide +kernel⟩
theorem ok_aeq {f fF CF CA : Addr} {mc mcA : Value} {fd fdF : FuncData} (F : Fun K "__eq__" "Assignment.__eq__" sAEq f fd) (T : Nm mg) (O : FoC K CF) (Z : Fc K mg CF mc) (S : IsF K CF) (B : Ac K mg CA mcA) (SA : IsF K CA)
    (FF : Fun K "__eq__" "Forest.__eq__" sFEq fF fdF) (bF : Binds K fdF ["self", "other"] []) (atF : PySem.W.findIn K (.ref CF) "__eq__" = some (some (.ref fF))) (isF : PySem.W.isFn K (.ref fF) = true) : FnOk P w K mg base CX0 2 f fd ["self", "other"] (spEq (RAs CF CA)) := by
  have GF : FnOk P w K mg base CX0 1 fF fdF ["self", "other"] (spEq (RFo CF)) := ok_feq FF T O Z S
  refine F.ok scAEq (fun vs H Q E h => ?_) (fun cdv A outer s H vs Q E hr h => ?_)
  · obtain ⟨a, b, rfl, _⟩ := h
    rfl
  · obtain ⟨a, b, rfl, ⟨x, ts, zs, ⟨da, pa, ha, hpa⟩, ⟨db, pb, hb, hpb⟩, fa, nd, pl⟩, k⟩ := h
    refine ⟨_, pss_cons (ps_if (pt_not (pt_val (pe_callB call_isi (by rfl) T.isi (by decide +kernel) (pa_cons (pv 1) (pa_cons (pe_glob (v := .ref CA) (by rfl) B.gA rfl) pa_nil))))) (pss_one (ps_ret pe_bl)) pss_nil)
      (pss_one (ps_ret (pe_and (pe_cmpR (op_eqG (rcG_ins (C := CF) (E := E0) GF atF isF bF pass0) hr) (pe_fld (pv 0) rfl) (pe_fld (pv 1) rfl) (nomark _)) (pe_one (pe_cmpR (op_eqD hr.units) (pe_fld (pv 0) rfl) (pe_fld (pv 1) rfl) (nomark _)))))), ?_⟩
    have fa' := fa
    obtain ⟨dx, dq, hx, hd⟩ := fa'
    refine ⟨_, rfl, .ref b, _, .ref CA, _, true, rfl, .own _, .base (.ins hb B.cl SA.ha SA.hn SA.ht SA.hm), kit_self, true, rfl, ?_⟩
    refine iteF ?_
    refine ⟨_, rfl, a, CA, da, _, .ref x, rfl, ha, B.cl, B.nF, rfl, _, rfl, b, CA, db, _, .ref x, rfl, hb, B.cl, B.nF, rfl, ⟨x, x, dx, dx, _, _, rfl, rfl, hx, hx, ts, fa, fa, nd⟩, fun H' s' => ⟨true, rfl, ?_⟩⟩
    show if true = true then _ else _
    rw [if_pos rfl]
    refine ⟨_, rfl, a, CA, da, _, .ref pa, rfl, s' _ _ ha, B.cl, B.nP, rfl, _, rfl, b, CA, db, _, .ref pb, rfl, s' _ _ hb, B.cl, B.nP, rfl, .list (zs.map PyData.str), .list (zs.map PyData.str), .lst (SqL.of (s' _ _ hpa)) (dp_strs zs), .lst (SqL.of (s' _ _ hpb)) (dp_strs zs), shaped_strs pl, shaped_strs pl, ?_⟩
    rw [SeqAt.eqv_refl _ (lay_strs pl)]
    exact k H' s'
end
end K50


namespace K50
open PySem L2 TL ClX
def tCallK0 (m : Nat) (sp : Sp) (gV : List V → List V → List V) (E : XK) (tk : TA) : TE := fun σ H Q => tk σ H fun zs H1 => zs.length = m ∧ sp (gV [] zs) H1 Q E
/-- f(k = v, ..), no value by place -/
theorem pe_callK0 {X : Cx} {CX : CXT} {k : Nat} {f : Addr} {fd : FuncData} {ps ks : List Str} {sp : Sp} {E : XK} {x : Str} {p pos : Pos} {kw : Keyword} {kws : List Keyword} {tk : TA} {g : List Value → List Value → List Value} {gV : List V → List V → List V}
    (F : FnOk X.prog X.w X.K X.mg X.base CX k f fd ps sp) (hr : Room k X.A) (hg : Gl X x) (hm : X.mg x = some (.ref f)) (hk : PySem.W.keepIn X.K (.ref f) = true) (hb : KBn X.K fd ps 0 ks g gV) (hx : Passes CX X E)
    (hkw : PK X (kw :: kws) tk) (hall : (backToKw pos (keywordEach (kw :: kws) X.env)).all (·.1.isSome) = true := by rfl) (hks : (backToKw pos (keywordEach (kw :: kws) X.env)).filterMap (·.1) = ks := by rfl)
    (hdb : (x == ("__debug__" : Str)) = false := by decide) (hpl : ((backTo pos (starEach [] X.env)).any (·.1) || (backToKw pos (keywordEach (kw :: kws) X.env)).any (·.1.isNone)) = false := by rfl) : PE X (.Call (.Name x p) [] (kw :: kws) pos) (tCallK0 ks.length sp gV E tk) := by
  refine ⟨fun pins s σ H Q I h => ?_⟩
  refine wpAny_Call_Name_kw (ld_glob I hg hm ?_ hdb)
  refine PySem.W.callWith_KW0 (h₀ := X.base) I.ok.mod.kin hk hall ?_ hpl
  refine thn (hkw.run pos pins s σ H _ I h) fun ws s2 ⟨zs, H2, J, rz, l2, want⟩ => ⟨J.kIn, ?_⟩
  rw [hks]
  exact run_fnN (us := []) (vs := []) F hr hb hx J .nil rz rfl l2 want
/-- two values, turned -/
def turn2 {α : Type} : List α → List α
  | [a, b] => [b, a]
  | l => l
theorem turn2_rel {vs : List V} {us : List Value} (r : Vals vs us) : Vals (turn2 vs) (turn2 us) := by
  cases r with
  | nil => exact .nil
  | cons a r =>
    cases r with
    | nil => exact .cons a .nil
    | cons b r =>
      cases r with
      | nil => exact .cons b (.cons a .nil)
      | cons c r => exact .cons a (.cons b (.cons c r))
theorem Fun.kw2 {K : PySem.W.Frag} {x qual a b : Str} {st : Stmt} {f : Addr} {fd : FuncData} {ps : List Str} (F : L2.Fun K x qual st f fd)
    (h : ∀ (kV doc pm : Value) (an : Option Addr) (cdv ct u v : Value), bindArgs (PySem.W.fnOf x qual (defArgs st) (defBody st) (defScope st) .none kV doc pm an cdv ct) ⟨[], [(a, u), (b, v)]⟩ = pure (ps.zip [v, u])) :
    KBn K fd ps 0 [a, b] (fun _ ws => turn2 ws) (fun _ zs => turn2 zs) := by
  obtain ⟨oc, od, kV, doc, pm, an, cdv, ct, osl, rfl, lk, hcd⟩ := F.ex
  refine ⟨fun s us ws _ h1 h2 => ?_, fun _ r => turn2_rel r⟩
  match us, ws, h1, h2 with
  | [], [u, v], _, _ => exact .of_eq (h kV doc pm an cdv ct u v)
theorem Fun.kw1 {K : PySem.W.Frag} {x qual a : Str} {st : Stmt} {f : Addr} {fd : FuncData} {ps : List Str} (F : L2.Fun K x qual st f fd)
    (h : ∀ (kV doc pm : Value) (an : Option Addr) (cdv ct u : Value), bindArgs (PySem.W.fnOf x qual (defArgs st) (defBody st) (defScope st) .none kV doc pm an cdv ct) ⟨[], [(a, u)]⟩ = pure (ps.zip [u])) :
    KBn K fd ps 0 [a] (fun _ ws => ws) (fun _ zs => zs) := by
  obtain ⟨oc, od, kV, doc, pm, an, cdv, ct, osl, rfl, lk, hcd⟩ := F.ex
  refine ⟨fun s us ws _ h1 h2 => ?_, fun _ r => r⟩
  match us, ws, h1, h2 with
  | [], [u], _, _ => exact .of_eq (h kV doc pm an cdv ct u)
mutual
theorem dp_up {K : PySem.W.Frag} {H H' : Hp} (s : Same H H') : ∀ (d : PyData) (v : V), Dp K H v d → Dp K H' v d
  | .none, _, .non => .non
  | .bool _, _, .bl b => .bl b
  | .int _, _, .int i => .int i
  | .str _, _, .str x => .str x
  | .list ds, _, .lst h q => .lst (Same.sql s h) (dps_up s ds _ q)
  | .tuple ds, _, .tup h q => .tup (Same.sqt s h) (dps_up s ds _ q)
theorem dps_up {K : PySem.W.Frag} {H H' : Hp} (s : Same H H') : ∀ (ds : List PyData) (vs : List V), DpAll K H vs ds → DpAll K H' vs ds
  | [], _, .nil => .nil
  | d :: ds, _, .cons h q => .cons (dp_up s d _ h) (dps_up s ds _ q)
end
theorem dps_snoc {K : PySem.W.Frag} {H : Hp} {v : V} {d : PyData} (h : Dp K H v d) : ∀ {ds : List PyData} {vs : List V}, DpAll K H vs ds → DpAll K H (vs ++ [v]) (ds ++ [d])
  | _, _, .nil => .cons h .nil
  | _, _, .cons a r => .cons a (dps_snoc h r)
theorem dps_get {K : PySem.W.Frag} {H : Hp} : ∀ {ds : List PyData} {vs : List V}, DpAll K H vs ds → ∀ {i : Nat} {d : PyData}, ds[i]? = some d → ∃ v, vs[i]? = some v ∧ Dp K H v d
  | _, _, .nil, i, d, h => by simp at h
  | _, _, .cons a r, 0, d, h => by
    cases Option.some.inj h
    exact ⟨_, rfl, a⟩
  | _, _, .cons a r, i + 1, d, h => dps_get r (i := i) h
theorem dps_len {K : PySem.W.Frag} {H : Hp} : ∀ {ds : List PyData} {vs : List V}, DpAll K H vs ds → vs.length = ds.length
  | _, _, .nil => rfl
  | _, _, .cons a r => congrArg (· + 1) (dps_len r)
/-- the pair of a flag and its number -/
def pairD (num : Str → Nat) (a : Str) : PyData := .tuple [.str a, .int (num a : Int)]
theorem pair_at {K : PySem.W.Frag} {H : Hp} {num : Str → Nat} {a : Str} {v : V} (h : Dp K H v (pairD num a)) : ∃ r, v = .ref r ∧ SqT K H r [.str a, .int (num a : Int)] := by
  unfold pairD at h
  cases h with
  | tup sq q =>
    cases q with
    | cons h1 q =>
      cases h1
      cases q with
      | cons h2 q =>
        cases h2
        cases q
        exact ⟨_, rfl, sq⟩
theorem pairs_lay {num : Str → Nat} : ∀ {fl : List Str}, (∀ a ∈ fl, NameL a) → PyData.canLayAll0 (fl.map (pairD num)) = true ∧ PyData.depthAll (fl.map (pairD num)) ≤ 1
  | [], _ => ⟨rfl, Nat.zero_le _⟩
  | a :: fl, h => by
    obtain ⟨h1, h2⟩ := pairs_lay (num := num) (fl := fl) fun b hb => h b (List.mem_cons_of_mem _ hb)
    have ok := strOk_pl (.inr (h a (List.mem_cons_self ..)))
    constructor
    · show ((PyData.strOk a && (true && true)) && PyData.canLayAll0 (fl.map (pairD num))) = true
      rw [ok, h1] <;> rfl
    · show max (max 0 (max 0 0) + 1) (PyData.depthAll (fl.map (pairD num))) ≤ 1
      omega
theorem pairs_shaped {num : Str → Nat} {fl : List Str} (h : ∀ a ∈ fl, NameL a) : (PyData.list (fl.map (pairD num))).canLay0 = true ∧ SeqAt.shaped (.list (fl.map (pairD num))) = true := by
  obtain ⟨h1, h2⟩ := pairs_lay (num := num) h
  have c : (PyData.list (fl.map (pairD num))).canLay0 = true := h1
  refine ⟨c, ?_⟩
  unfold SeqAt.shaped
  rw [c]
  have d : (PyData.list (fl.map (pairD num))).depth ≤ 64 := by
    show PyData.depthAll (fl.map (pairD num)) + 1 ≤ 64
    omega
  rw [decide_eq_true d] <;> rfl
/-- numbers by flags, in the order of their drawing -/
def tbl (m : List (Str × Nat)) : List (Key × V) := m.map fun p => (Sum.inr p.1, V.int (p.2 : Int))
theorem tbl_put {m : List (Str × Nat)} {f : Str} {n : Nat} (h : f ∉ m.map Prod.fst) : putK (tbl m) (Sum.inr f) (V.int (n : Int)) = tbl (m ++ [(f, n)]) := by
  have e : ((tbl m).any fun kv => decide (kv.1 = (Sum.inr f : Key))) = false := by
    rw [Bool.eq_false_iff]
    intro q
    obtain ⟨x, hx, e⟩ := List.any_eq_true.mp q
    obtain ⟨p, hp, rfl⟩ := List.mem_map.mp hx
    have := Sum.inr.inj (of_decide_eq_true e)
    exact h (List.mem_map.mpr ⟨p, hp, this⟩)
  unfold putK
  rw [e, if_neg (by decide)]
  unfold tbl
  rw [List.map_append] <;> rfl
def numOf (m : List (Str × Nat)) (a : Str) : Nat := ((m.find? fun p => decide (p.1 = a)).map Prod.snd).getD 0
theorem tbl_val : ∀ {m : List (Str × Nat)} {a : Str}, a ∈ m.map Prod.fst → valV (tbl m) (Sum.inr a) = some (.int (numOf m a : Int))
  | [], a, h => by cases h
  | (b, n) :: m, a, h => by
    by_cases e : b = a
    · subst e
      have e1 : numOf ((b, n) :: m) b = n := by
        unfold numOf
        rw [List.find?_cons, decide_eq_true rfl] <;> rfl
      rw [e1]
      exact valV_pos rfl
    · have e1 : numOf ((b, n) :: m) a = numOf m a := by
        unfold numOf
        rw [List.find?_cons, decide_eq_false e] <;> rfl
      rw [e1]
      have hm : a ∈ m.map Prod.fst := (List.mem_cons.mp h).resolve_left fun z => e z.symm
      exact (valV_neg (p := (Sum.inr b, V.int (n : Int))) (fun z => e (Sum.inr.inj z))).trans (tbl_val hm)
theorem numOf_lt {m : List (Str × Nat)} (h : ∀ p ∈ m, p.2 < 10 ^ 31) (a : Str) : numOf m a < 10 ^ 31 := by
  unfold numOf
  cases e : m.find? fun p => decide (p.1 = a) with
  | none => decide
  | some p => exact h p (List.mem_of_find?_eq_some e)
theorem pairs_items {K : PySem.W.Frag} {H : Hp} {num : Str → Nat} : ∀ {fl : List Str} {rs : List Addr}, Paired (fun (t : Addr) (q : Key × V) => H t = some (.tup [kV q.1, q.2])) rs (nums num fl) → DpAll K H (rs.map V.ref) (fl.map (pairD num))
  | [], [], _ => .nil
  | a :: fl, r :: rs, .cons h t => .cons (.tup (.inl (.inl h)) (.cons (.str a) (.cons (.int _) .nil))) (pairs_items t)
end K50


namespace K50
open PySem L2 TL ClX LiI
abbrev sLaw : Stmt := top 37
/-- one of the text's defs, called by place -/
structure Dn (P : Program) (w : World) (K : PySem.W.Frag) (mg : Str → Option Value) (base : Heap) (k : Nat) (x : Str) (ps : List Str) (sp : Sp) (f : Addr) (fd : FuncData) : Prop where
  ok : FnOk P w K mg base CX0 k f fd ps sp
  kp : PySem.W.keepIn K (.ref f) = true
  bn : Binds K fd ps []
  mgn : mg x = some (.ref f)
/-- .. and the others that the law asks for -/
structure Lw (P : Program) (w : World) (K : PySem.W.Frag) (mg : Str → Option Value) (base : Heap) (CF CA : Addr) (mc mcA : Value) (f : Nat → Addr) (fd : Nat → FuncData) : Prop where
  O : FoC K CF
  Z : Fc K mg CF mc
  B : Ac K mg CA mcA
  SA : IsF K CA
  bg : Dn P w K mg base 1 "_law_begin" ["_law_script"] (spBegin K) (f 0) (fd 0)
  dr : Dn P w K mg base 1 "_law_draw" ["_law_state", "_law_many"] spDraw (f 1) (fd 1)
  pk : Dn P w K mg base 2 "_law_pick" ["_law_state", "_law_some"] (spPick K) (f 2) (fd 2)
  tr : Dn P w K mg base 4 "_law_tree" ["_law_state", "_law_many"] spTree (f 3) (fd 3)
  pl : Dn P w K mg base 3 "_law_places" ["_law_state", "_law_tree_here", "_law_users"] spPlaces (f 4) (fd 4)
  sz : Dn P w K mg base 3 "sizes_text" ["forest", "sizes"] (spSzText CF) (f 5) (fd 5)
  szk : KBn K (fd 5) ["forest", "sizes"] 0 ["sizes", "forest"] (fun _ ws => turn2 ws) (fun _ zs => turn2 zs)
  zp : Dn P w K mg base 3 "parse_sizes" ["forest", "text"] (spSzParse CF) (f 6) (fd 6)
  zpk : KBn K (fd 6) ["forest", "text"] 0 ["text", "forest"] (fun _ ws => turn2 ws) (fun _ zs => turn2 zs)
  at_ : Dn P w K mg base 3 "assignment_text" ["assignment"] (spAText CA) (f 7) (fd 7)
  atk : KBn K (fd 7) ["assignment"] 0 ["assignment"] (fun _ ws => ws) (fun _ zs => zs)
  ap : Dn P w K mg base 3 "parse_assignment" ["forest", "text"] (spAParse CF CA) (f 8) (fd 8)
  apk : KBn K (fd 8) ["forest", "text"] 0 ["text", "forest"] (fun _ ws => turn2 ws) (fun _ zs => turn2 zs)
  fi : FnOk P w K mg base CX0 3 (f 9) (fd 9) ["self", "parents"] (spFInit CF)
  fim : Mk K CF (f 9)
  fib : Binds K (fd 9) ["self", "parents"] []
  ai : FnOk P w K mg base CX0 1 (f 10) (fd 10) ["self", "forest", "places"] (spAInit CF CA)
  aim : Mk K CA (f 10)
  aib : Binds K (fd 10) ["self", "forest", "places"] []
  fe : FnOk P w K mg base CX0 1 (f 11) (fd 11) ["self", "other"] (spEq (RFo CF))
  fee : EqF K CF (f 11)
  feb : Binds K (fd 11) ["self", "other"] []
  ae : FnOk P w K mg base CX0 2 (f 12) (fd 12) ["self", "other"] (spEq (RAs CF CA))
  aee : EqF K CA (f 12)
  aeb : Binds K (fd 12) ["self", "other"] []
  prP : PropOf K CA "places" (f 13) (f 14)
  fnP : FnOk P w K mg base CX0 1 (f 14) (fd 14) ["self"] (spAPlaces CA)
  bnP : Binds K (fd 14) ["self"] []
  prR : PropOf K CA "forest" (f 15) (f 16)
  fnR : FnOk P w K mg base CX0 1 (f 16) (fd 16) ["self"] (spAForest CA)
  bnR : Binds K (fd 16) ["self"] []
def spLaw (K : PySem.W.Frag) : Sp := fun vs H Q _ => ∃ (a : Addr) (ns : List Int), vs = [.ref a] ∧ SqL K H a (ns.map V.int) ∧ ns.length ≤ 63 ∧ ∀ H', Q (.bl true) H'
abbrev NL : List Str := ["_law_script", "_law_state", "_law_turn", "_law_tree_here", "_law_wood", "_law_table", "_law_flag", "_law_pairs", "_law_due", "_law_again", "_law_told", "_law_spots", "_law_made", "_law_number", "_law_spot"]
abbrev rInt1 : List V → Hp → VK → Prop := fun xs H Q => (∃ i, xs = [.int i] ∧ Q (.int i) H) ∨ ∃ k, xs = [.bl k] ∧ Q (.int (if k then 1 else 0)) H
def PrL (num : Str → Nat) (H : Hp) (rs : List Addr) (l : List Str) : Prop := Paired (fun (r : Addr) (a : Str) => H r = some (.tup [.str a, .int (num a : Int)])) rs l
theorem PrL.imp {num : Str → Nat} {H H' : Hp} (m : ∀ r (a : Str), H r = some (.tup [.str a, .int (num a : Int)]) → H' r = some (.tup [.str a, .int (num a : Int)])) : ∀ {rs : List Addr} {l : List Str}, PrL num H rs l → PrL num H' rs l
  | _, _, .nil => .nil
  | _, _, .cons h t => .cons (m _ _ h) (PrL.imp m t)
theorem PrL.mono {num : Str → Nat} {H H' : Hp} {rs : List Addr} {l : List Str} (s : Same H H') (p : PrL num H rs l) : PrL num H' rs l := p.imp fun r a e => s _ _ e
theorem PrL.push {num : Str → Nat} {H : Hp} {rs : List Addr} {l : List Str} {D : Addr} {xs : List V} {o : HO} (e : H D = some (.lst xs)) (p : PrL num H rs l) : PrL num (upd H D o) rs l := p.imp fun r a q => by
  rw [upd_ne (ne_of q e (by intro z; cases z))]
  exact q
theorem PrL.snoc {num : Str → Nat} {H : Hp} {r : Addr} {a : Str} (h : H r = some (.tup [.str a, .int (num a : Int)])) : ∀ {rs : List Addr} {l : List Str}, PrL num H rs l → PrL num H (rs ++ [r]) (l ++ [a])
  | _, _, .nil => .cons h .nil
  | _, _, .cons q t => .cons q (PrL.snoc h t)
theorem PrL.dp {K : PySem.W.Frag} {num : Str → Nat} {H : Hp} : ∀ {rs : List Addr} {l : List Str}, PrL num H rs l → DpAll K H (rs.map V.ref) (l.map (pairD num))
  | _, _, .nil => .nil
  | _, _, .cons h t => .cons (.tup (.inl (.inl h)) (.cons (.str _) (.cons (.int _) .nil))) (PrL.dp t)
theorem PrL.at_ {num : Str → Nat} {H : Hp} {rs : List Addr} {l : List Str} (p : PrL num H rs l) {i : Nat} {r : Addr} (h : rs[i]? = some r) : ∃ a, l[i]? = some a ∧ H r = some (.tup [.str a, .int (num a : Int)]) := LiI.paired_get p h
theorem ln_at (z : Str) : atI [V.str "-", V.str z] (if (!decide (V.str z = V.str "")) = true then 1 else 0) = some (.str (lnT z)) := by
  by_cases e : z = ""
  · rw [decide_eq_true (show V.str z = V.str "" by rw [e]), if_neg (by decide), show lnT z = "-" from if_pos e]
    exact (atI_nat (xs := [V.str "-", V.str z]) (j := 0) rfl : atI _ ((0 : Nat) : Int) = _)
  · rw [decide_eq_false (fun q => e (V.str.inj q)), if_pos (show (!false) = true from rfl), show lnT z = z from if_neg e]
    exact (atI_nat (xs := [V.str "-", V.str z]) (j := 1) rfl : atI _ ((1 : Nat) : Int) = _)
section
variable {P : Program} {w : World} {K : PySem.W.Frag} {mg : Str → Option Value} {base : Heap}
theorem scLaw : FnScope NL ["_law_script"] (defScope sLaw) := ⟨rfl, rfl, rfl, by decide +kernel, rfl, by decide +kernel, by decide +kernel⟩
theorem ok_law {f0 CF CA : Addr} {mc mcA : Value} {f : Nat → Addr} {fd : Nat → FuncData} {fd0 : FuncData} (F : Fun K "law" "law" sLaw f0 fd0) (T : Nm mg) (L : Lw P w K mg base CF CA mc mcA f fd) : FnOk P w K mg base CX0 5 f0 fd0 ["_law_script"] (spLaw K) := by
  refine F.ok scLaw (fun vs H Q E h => ?_) (fun cdv A outer s H vs Q E hr h => ?_)
  · obtain ⟨a, ns, rfl, _⟩ := h
    rfl
  · obtain ⟨a, ns, rfl, hS, hlen, k⟩ := h
    have hu := hu_of hr
    have hr1 : Room 1 _ := hr.mono (by decide)
    have hr2 : Room 2 _ := hr.mono (by decide)
    have hr3 : Room 3 _ := hr.mono (by decide)
    have nd := scLaw.nd
    refine ⟨_, pss_cons (ps_set (i := 1) nd rfl (.inl rfl) (pe_call L.bg.ok hr1 rfl L.bg.mgn L.bg.kp L.bg.bn .nil pass0 (pa_cons (pv 0) pa_nil)))
      (pss_cons (ps_for PassesOwn.never rfl (pi_range1 rfl T.rng (pa_cons pe_int pa_nil)) (pg_name (i := 2) nd rfl (.inl rfl))
        (pss_cons (ps_set (i := 3) nd rfl (.inl rfl) (pe_call L.tr.ok hr rfl L.tr.mgn L.tr.kp L.tr.bn .nil pass0 (pa_cons (pv 1) (pa_cons (pe_op op_add pe_int (pe_call L.dr.ok hr1 rfl L.dr.mgn L.dr.kp L.dr.bn .nil pass0 (pa_cons (pv 1) (pa_cons pe_int pa_nil)))) pa_nil))))
        (pss_cons (ps_asg (pe_tup (pa_cons (pe_make L.fim L.fi hr (by rfl) L.Z.gF L.fib .nil pass0 (pa_cons (pv 3) pa_nil)) (pa_cons pe_dnewK pa_nil))) (pg_tup rfl (pgs_cons (pg_name (i := 4) nd rfl (.inl rfl)) (pgs_cons (pg_name (i := 5) nd rfl (.inr rfl)) pgs_nil))))
        (pss_cons (ps_for PassesOwn.never rfl (pi_list (pe_call L.pk.ok hr2 rfl L.pk.mgn L.pk.kp L.pk.bn .nil pass0 (pa_cons (pv 1) (pa_cons (pe_lst (pa_cons (pe_callTy (call_listD rfl) (by rfl) T.lst (by decide +kernel) (pa_cons (pv 3) pa_nil)) (pa_cons (pe_revL (pe_callTy (call_listD rfl) (by rfl) T.lst (by decide +kernel) (pa_cons (pv 3) pa_nil))) pa_nil))) pa_nil)))) (pg_name (i := 6) nd rfl (.inl rfl))
          (pss_one (ps_dput hu (pv 5) (pv 6) (pe_call L.pk.ok hr2 rfl L.pk.mgn L.pk.kp L.pk.bn .nil pass0 (pa_cons (pv 1) (pa_cons (pe_lst (pa_cons pe_int (pa_cons pe_int (pa_cons pe_int (pa_cons (pe_op op_sub (pe_op op_pow pe_int pe_int) pe_int) (pa_cons (pe_op op_pow pe_int pe_int)
            (pa_cons (pe_call L.dr.ok hr1 rfl L.dr.mgn L.dr.kp L.dr.bn .nil pass0 (pa_cons (pv 1) (pa_cons (pe_op op_pow pe_int pe_int) pa_nil))) pa_nil))))))) pa_nil))) rfl)))
        (pss_cons (ps_setLc (i := 7) (own := [("_law_flag", 6)]) (g := gName 6) (tt := tYes) (te := tTup (tCons (tVar 6) (tCons (tDGet (tVar 5) (tVar 6)) tNil))) rfl nd rfl rfl (sw_true rfl rfl rfl (by decide +kernel)) (pi_list (pe_callB (call_sortedD rfl) (by rfl) T.srt (by decide +kernel) (pa_cons (pv 3) pa_nil)))
          (blkOk_by (N := NL) (sc := defScope sLaw) (by decide +kernel)) (fun _ _ _ _ _ => pg_name (i := 6) nd rfl (Or.inl rfl)) (fun _ _ _ _ _ => pts_nil) (fun _ _ _ _ _ => pe_tup (pa_cons (pv 6) (pa_cons (pe_dget hu (pv 5) (pv 6) (fun _ _ => rfl)) pa_nil))))
        (pss_cons (ps_set (i := 8) nd rfl (.inl rfl) (pe_join pe_str (pe_lc (own := [("_law_flag", 6), ("_law_number", 13)]) (g := gTup K 2 (gCons (gName 6) (gCons (gName 13) gNil))) (tt := tYes) rfl nd (pi_list (pv 7))
          (blkOk_by (N := NL) (sc := defScope sLaw) (by decide +kernel)) (fun _ _ _ _ _ => pg_tup rfl (pgs_cons (pg_name (i := 6) nd rfl (Or.inl rfl)) (pgs_cons (pg_name (i := 13) nd rfl (Or.inl rfl)) pgs_nil))) (fun _ _ _ _ _ => pts_nil)
          (fun _ _ _ _ _ => pe_op op_add_str (pe_op op_add_str (pv 6) pe_str) (pe_callTy call_str_int (by rfl) T.str (by decide +kernel) (pa_cons (pv 13) pa_nil))))))
        (pss_cons (ps_if (PW.pt (pw_or (pt_cmpR op_ne (pe_call L.sz.ok hr3 rfl L.sz.mgn L.sz.kp L.sz.bn .nil pass0 (pa_cons (pv 4) (pa_cons (pv 5) pa_nil))) (pv 8) (nomark _)) (pw_or1 (pt_cmpR op_ne (pe_callK0 L.sz.ok hr3 rfl L.sz.mgn L.sz.kp L.szk pass0 (pk_cons (pv 5) (pk_cons (pv 4) pk_nil))) (pv 8) (nomark _))))) (pss_one (ps_ret pe_bl)) pss_nil)
        (pss_cons (ps_for PassesOwn.never rfl (pi_range1 rfl T.rng (pa_cons pe_int pa_nil)) (pg_name (i := 9) nd rfl (.inl rfl))
          (pss_cons (ps_set (i := 10) nd rfl (.inl rfl) (pe_ifExp (pt_cmpR op_eq (pv 9) pe_int (nomark _)) (pe_call L.zp.ok hr3 rfl L.zp.mgn L.zp.kp L.zp.bn .nil pass0 (pa_cons (pv 4) (pa_cons (pv 8) pa_nil))) (pe_callK0 L.zp.ok hr3 rfl L.zp.mgn L.zp.kp L.zpk pass0 (pk_cons (pv 8) (pk_cons (pv 4) pk_nil)))))
          (pss_cons (ps_if (PW.pt (pw_or (pt_not (pt_val (pe_callB call_isi (by rfl) T.isi (by decide +kernel) (pa_cons (pv 10) (pa_cons (pe_bltn (v := .ty "dict") (u := .type "dict") (by rfl) T.dct (by decide +kernel) rfl) pa_nil))))) (pw_or1 (pt_cmpR (op_neD hr.units) (pe_listItems rfl (pv 10) (by rfl) T.lst (by decide +kernel)) (pv 7) (nomark _))))) (pss_one (ps_ret pe_bl)) pss_nil)
          (pss_one (ps_expr (pe_dclear (pv 10)))))))
        (pss_cons (ps_set (i := 11) nd rfl (.inl rfl) (pe_call L.pl.ok hr3 rfl L.pl.mgn L.pl.kp L.pl.bn .nil pass0 (pa_cons (pv 1) (pa_cons (pv 3) (pa_cons (pe_call L.pk.ok hr2 rfl L.pk.mgn L.pk.kp L.pk.bn .nil pass0 (pa_cons (pv 1) (pa_cons (pe_lst (pa_cons pe_int (pa_cons pe_int (pa_cons pe_int
          (pa_cons (pe_op op_add pe_int (pe_call L.dr.ok hr1 rfl L.dr.mgn L.dr.kp L.dr.bn .nil pass0 (pa_cons (pv 1) (pa_cons pe_int pa_nil)))) pa_nil))))) pa_nil))) pa_nil)))))
        (pss_cons (ps_set (i := 12) nd rfl (.inl rfl) (pe_make L.aim L.ai hr2 (by rfl) L.B.gA L.aib .nil pass0 (pa_cons (pv 4) (pa_cons (pv 11) pa_nil))))
        (pss_cons (ps_set (i := 8) nd rfl (.inl rfl) (pe_join pe_str (pe_lc (own := [("_law_spot", 14)]) (g := gName 14) (tt := tYes) (te := tOp rAddS (tOp (rIxL K) (tLst (tCons (tC (.str "-")) (tCons (tVar 14) tNil))) (tCB rInt1 (tCons (tOp rNe (tVar 14) (tC (.str ""))) tNil))) (tC (.str "\n"))) rfl nd (pi_list (pv 11))
          (blkOk_by (N := NL) (sc := defScope sLaw) (by decide +kernel)) (fun _ _ _ _ _ => pg_name (i := 14) nd rfl (Or.inl rfl)) (fun _ _ _ _ _ => pts_nil)
          (fun _ _ _ _ _ => pe_op op_add_str (pe_ix ix_list (pe_lst (pa_cons pe_str (pa_cons (pv 14) pa_nil))) (pe_callTy call_int1 (by rfl) T.int (by decide +kernel) (pa_cons (pe_cmpR op_ne (pv 14) pe_str (nomark _)) pa_nil)) (fun _ _ => rfl)) pe_str))))
        (pss_cons (ps_if (PW.pt (pw_or (pt_cmpR op_ne (pe_call L.at_.ok hr3 rfl L.at_.mgn L.at_.kp L.at_.bn .nil pass0 (pa_cons (pv 12) pa_nil)) (pv 8) (nomark _)) (pw_or1 (pt_cmpR op_ne (pe_callK0 L.at_.ok hr3 rfl L.at_.mgn L.at_.kp L.atk pass0 (pk_cons (pv 12) pk_nil)) (pv 8) (nomark _))))) (pss_one (ps_ret pe_bl)) pss_nil)
        (pss_cons (ps_set (i := 10) nd rfl (.inl rfl) (pe_callK0 L.ap.ok hr3 rfl L.ap.mgn L.ap.kp L.apk pass0 (pk_cons (pv 8) (pk_cons (pv 4) pk_nil))))
        (pss_cons (ps_if (PW.pt (pw_or (pt_not (pt_val (pe_callB call_isi (by rfl) T.isi (by decide +kernel) (pa_cons (pv 10) (pa_cons (pe_glob (v := .ref CA) (by rfl) L.B.gA rfl) pa_nil)))))
          (pw_or (pt_cmpR (op_neG (E := E0) L.ae L.aee L.aeb pass0 hr3 hu) (pv 10) (pv 12) (nomark _))
          (pw_or1 (pt_cmpR (op_neD hr.units) (pe_prop (pe_call L.ap.ok hr3 rfl L.ap.mgn L.ap.kp L.ap.bn .nil pass0 (pa_cons (pv 4) (pa_cons (pv 8) pa_nil))) L.B.cl L.prP L.fnP hr2 L.bnP .nil pass0 (by rfl)) (pv 11) (nomark _)))))) (pss_one (ps_ret pe_bl)) pss_nil)
        (pss_one (ps_if (pt_cmpR (op_neG (E := E0) L.fe L.fee L.feb pass0 hr2 hu) (pe_prop (pv 10) L.B.cl L.prR L.fnR hr2 L.bnR .nil pass0 (by rfl)) (pv 4) (nomark _)) (pss_one (ps_ret pe_bl)) pss_nil))))))))))))))))
      (pss_one (ps_ret pe_bl))), ?_⟩
    have big : 1000 ≤ sizeLine := by decide
    refine ⟨_, rfl, a, ns, rfl, hS, hlen, fun H0 d c s0 ndd ncc dr0 => ?_⟩
    refine ⟨3, rfl, by decide, by decide, ?_⟩
    refine for_it (walk_range (lo := 0) (n := 3)) (fun j σ' H' => (∃ u2 u3 u4 u5 u6 u7 u8 u9 u10 u11 u12 u13 u14, σ' = [some (.ref a), some (.ref d), u2, u3, u4, u5, u6, u7, u8, u9, u10, u11, u12, u13, u14]) ∧ DrawAt H' d c) ⟨⟨_, _, _, _, _, _, _, _, _, _, _, _, _, rfl⟩, dr0⟩ (fun _ _ _ _ _ => trivial) ?_ (fun σ' H' _ => k H')
    intro jj xj σ' Ha Hb hj ⟨⟨u2, u3, u4, u5, u6, u7, u8, u9, u10, u11, u12, u13, u14, e⟩, dr⟩ ⟨e1, e2⟩
    subst e
    subst e1
    subst e2
    -- the tree
    refine ⟨_, rfl, _, rfl, d, c, 12, rfl, dr, by decide, by decide, fun k1 H1 k10 k11 dr1 kp1 => ⟨_, _, rfl, rfl, ?_⟩⟩
    refine ⟨d, c, (1 + k1).toNat, by rw [Int.toNat_of_nonneg (by omega)] <;> rfl, dr1, by omega, by omega, fun q t H2 ok lt nq hq dr2 kp2 => ?_⟩
    have few := ok.few
    have one := ok.one
    -- the forest, the table
    refine ⟨_, rfl, fun x dx nx ndx ndxx => ⟨x, q, dx, t, rfl, upd_same, by rw [upd_ne (ne_of_none hq nx), upd_ne (ne_of_none hq ndx)]; exact hq, ok, fun H3 ts so fa oth => ⟨rfl, fun m nm => ⟨by show 2 ≤ sizeLine; omega, fun tp ntp => ?_⟩⟩⟩⟩
    have s23 : Same H2 H3 := fun b o e => oth b o (ne_of_none e nx) (by rw [upd_ne (ne_of_none e nx), upd_ne (ne_of_none e ndx)]; exact e)
    refine ⟨tp, _, rfl, .inl (.inl upd_same), rfl, _, _, rfl, _, _, rfl, rfl, ?_⟩
    obtain ⟨H4, e4⟩ : ∃ X, X = upd (upd H3 m (.dK [])) tp (.tup [.ref x, .ref m]) := ⟨_, rfl⟩
    have s34 : Same H3 H4 := e4 ▸ (same_new nm).trans (same_new ntp)
    have s24 : Same H2 H4 := s23.trans s34
    have dr4 := dr2.mono s24
    have hq4 := s24 _ _ hq
    have fa4 := FAt.mono s34 fa
    have hm4 : H4 m = some (.dK (tbl [])) := by
      rw [e4]
      exact same_new ntp _ _ upd_same
    obtain ⟨md, mc'⟩ := (dr2.mono s23).apart nm
    have lfl : (ts.map Prod.fst).length = t.length := by rw [so.perm.length_eq, List.length_map]
    have nfl : ∀ z ∈ ts.map Prod.fst, NameL z := fun z hz => ok.nm z (so.perm.mem_iff.mp hz)
    have ndfl : (ts.map Prod.fst).Nodup := so.perm.nodup_iff.mpr ok.nd
    have lts : ts.length = t.length := by
      rw [List.length_map] at lfl
      exact lfl
    rw [← e4]
    -- the numbers, in one of two orders
    refine ⟨_, rfl, _, rfl, q, prs t, rfl, .inl hq4, fun p1 n1 => ⟨_, rfl, q, prs t, rfl, .inl (same_new n1 _ _ hq4), fun p2 n2 => ⟨p2, _, rfl, SqL.of upd_same, fun p3 n3 => ⟨by show 2 ≤ sizeLine; omega, fun p4 n4 => ?_⟩⟩⟩⟩
    rw [keys_prs] at n2 n3 n4 ⊢
    rw [← List.map_reverse] at n4 ⊢
    obtain ⟨H5, e5⟩ : ∃ X, X = upd (upd (upd (upd H4 p1 (.lst ((t.map Prod.fst).map V.str))) p2 (.lst ((t.map Prod.fst).map V.str))) p3 (.lst ((t.map Prod.fst).reverse.map V.str))) p4 (.lst [.ref p1, .ref p3]) := ⟨_, rfl⟩
    have t1 := same_new (o := .lst ((t.map Prod.fst).map V.str)) n1
    have t2 := same_new (o := .lst ((t.map Prod.fst).map V.str)) n2
    have t3 := same_new (o := .lst ((t.map Prod.fst).reverse.map V.str)) n3
    have t4 := same_new (o := .lst [.ref p1, .ref p3]) n4
    have s45 : Same H4 H5 := e5 ▸ ((t1.trans t2).trans t3).trans t4
    have a1 := dr4.apart n1
    have a3 := ((dr4.mono t1).mono t2).apart n3
    have a4 := (((dr4.mono t1).mono t2).mono t3).apart n4
    have at1 : H5 p1 = some (.lst ((t.map Prod.fst).map V.str)) := by rw [e5]; exact t4 _ _ (t3 _ _ (t2 _ _ upd_same))
    have at3 : H5 p3 = some (.lst ((t.map Prod.fst).reverse.map V.str)) := by rw [e5]; exact t4 _ _ upd_same
    have at4 : H5 p4 = some (.lst [.ref p1, .ref p3]) := by rw [e5]; exact upd_same
    rw [← e5]
    refine ⟨d, c, _, 2, (fun _ x => ∃ (r : Addr) (Lk : List Str), x = .ref r ∧ H5 r = some (.lst (Lk.map V.str)) ∧ Lk.Perm (t.map Prod.fst) ∧ r ≠ d ∧ r ≠ c), rfl, dr4.mono s45, .inl ⟨p4, _, rfl, a4.1, a4.2, at4, rfl, fun i x hx => ?_⟩, by decide, by decide, fun i x6 H6 px dr6 kp6 => ?_⟩
    · have hmem := List.mem_of_getElem? hx
      simp only [List.mem_cons, List.not_mem_nil, or_false] at hmem
      rcases hmem with rfl | rfl
      · exact ⟨p1, _, rfl, at1, .refl _, a1.1, a1.2⟩
      · exact ⟨p3, _, rfl, at3, List.reverse_perm _, a3.1, a3.2⟩
    obtain ⟨r, Lk, rfl, hr5, pLk, rd, rc⟩ := px
    have hr6 := kp6 r _ rd rc hr5
    have hm6 : H6 m = some (.dK (tbl [])) := kp6 m _ md mc' (s45 _ _ hm4)
    have rm : r ≠ m := ne_of hr6 hm6 (by intro z; cases z)
    have lLk : Lk.length = t.length := by rw [pLk.length_eq, List.length_map]
    have ndLk : Lk.Nodup := pLk.nodup_iff.mpr ok.nd
    refine ⟨r, rfl, ⟨_, SqL.of hr6⟩, ?_⟩
    refine for_it walk_list (fun j σ' H' => (∃ u6, σ' = [some (.ref a), some (.ref d), some (.int (0 + (jj : Int))), some (.ref q), some (.ref x), some (.ref m), u6, u7, u8, u9, u10, u11, u12, u13, u14]) ∧ DrawAt H' d c ∧ (∀ b o, b ≠ d → b ≠ c → b ≠ m → H6 b = some o → H' b = some o) ∧
      ∃ tm : List (Str × Nat), H' m = some (.dK (tbl tm)) ∧ tm.map Prod.fst = Lk.take j ∧ ∀ p ∈ tm, p.2 < 10 ^ 31) ⟨⟨_, rfl⟩, dr6, fun _ _ _ _ _ e => e, [], hm6, by rw [List.take_zero] <;> rfl, fun p h => by cases h⟩ (fun j σ' H' _ z => SqL.of (z.2.2.1 _ _ rd rc rm hr6)) ?_ ?_
    · intro j2 y σ2 Hc Hd hj2 ⟨⟨u6, e⟩, dc, kc, tm, hmc, etm, lt31⟩ ⟨eb, ex⟩
      subst e
      subst eb
      rw [List.getElem?_map] at ex
      obtain ⟨f, hf, rfl⟩ := Option.map_eq_some_iff.mp ex
      have ltm := congrArg List.length etm
      rw [List.length_map, List.length_take] at ltm
      have fresh : f ∉ tm.map Prod.fst := by
        rw [etm]
        intro hm
        obtain ⟨i, hi⟩ := List.mem_iff_getElem?.mp hm
        have il := (List.getElem?_eq_some_iff.mp hi).1
        have jl := (List.getElem?_eq_some_iff.mp hf).1
        rw [List.length_take] at il
        rw [List.getElem?_take, if_pos (by omega)] at hi
        have := (List.getElem?_inj (by omega) ndLk).mp (hi.trans hf.symm)
        omega
      refine ⟨_, rfl, 10, 31, rfl, rfl, ⟨by decide, by decide, by decide⟩, _, _, rfl, rfl, 10, 30, rfl, rfl, ⟨by decide, by decide, by decide⟩, _, rfl, 10, 31, rfl, rfl, ⟨by decide, by decide, by decide⟩, d, c, _, rfl, dc, by decide, by decide +kernel, fun z He z0 z1 de ke => ⟨by show 6 ≤ sizeLine; omega, fun pz nz => ?_⟩⟩
      have az := de.apart nz
      refine ⟨d, c, _, 6, (fun _ x => ∃ n : Nat, x = .int (n : Int) ∧ n < 10 ^ 31), rfl, de.off az.1 az.2, .inl ⟨pz, _, rfl, az.1, az.2, upd_same, rfl, fun i x hx => ?_⟩, by decide, by decide, fun i x7 Hf px df kf => ?_⟩
      · have fit : ∀ v : Int, 0 ≤ v → v < 10 ^ 31 → ∃ n : Nat, V.int v = .int (n : Int) ∧ n < 10 ^ 31 := fun v h0 h1 => ⟨v.toNat, by rw [Int.toNat_of_nonneg h0], by omega⟩
        have hmem := List.mem_of_getElem? hx
        simp only [List.mem_cons, List.not_mem_nil, or_false] at hmem
        rcases hmem with rfl | rfl | rfl | rfl | rfl | rfl
        · exact fit _ (by decide) (by decide)
        · exact fit _ (by decide) (by decide)
        · exact fit _ (by decide) (by decide)
        · exact fit _ (by decide) (by decide)
        · exact fit _ (by decide) (by decide)
        · exact fit _ z0 z1
      obtain ⟨n, rfl, hn⟩ := px
      have hme := ke m _ md mc' hmc
      have mz : m ≠ pz := ne_of_none hme nz
      have hmf := kf m _ md mc' (show upd He pz _ m = _ by rw [upd_ne mz]; exact hme)
      refine ⟨_, rfl, _, rfl, m, _, rfl, DPut.k (k := Sum.inr f) hmf (by unfold tbl; rw [List.length_map]; omega), ?_⟩
      rw [tbl_put fresh]
      refine ⟨⟨_, rfl⟩, df.off md mc', fun b o b1 b2 b3 e => ?_, tm ++ [(f, n)], upd_same, by rw [List.map_append, etm, take_more hf] <;> rfl, fun p hp => ?_⟩
      · rw [upd_ne b3]
        have e1 := ke b _ b1 b2 (kc b o b1 b2 b3 e)
        exact kf b _ b1 b2 (by rw [upd_ne (ne_of_none e1 nz)]; exact e1)
      · rcases List.mem_append.mp hp with h | h
        · exact lt31 p h
        · rw [List.mem_singleton.mp h]
          exact hn
    intro σ7 H7 ⟨⟨u6', e⟩, dr7, kp7, tm, hm7, etm, lt31⟩
    subst e
    rw [List.length_map, List.take_length] at etm
    obtain ⟨dx3, dq, hx3, hdq3⟩ := fa
    have xm : x ≠ m := ne_of_none hx3 nm
    have dqm : dq ≠ m := ne_of_none hdq3 nm
    have qm : q ≠ m := ne_of_none (s23 _ _ hq) nm
    have dr4' := dr4
    obtain ⟨_, _, _, hd4, hc4, _⟩ := dr4'
    have hx4 := s34 _ _ hx3
    have hdq4 := s34 _ _ hdq3
    have mv : ∀ b o, H4 b = some o → b ≠ m → b ≠ d → b ≠ c → H7 b = some o := fun b o e b1 b2 b3 => kp7 b o b2 b3 b1 (kp6 b o b2 b3 (s45 _ _ e))
    have fa7 : FAt CF H7 x ts := ⟨dx3, dq, mv _ _ hx4 xm (ne_of hx4 hd4 (by intro z; cases z)) (ne_of hx4 hc4 (by intro z; cases z)), mv _ _ hdq4 dqm (ne_of hdq4 hd4 (by intro z; cases z)) (ne_of hdq4 hc4 (by intro z; cases z))⟩
    have hq7 := mv _ _ hq4 qm (ne_of hq4 hd4 (by intro z; cases z)) (ne_of hq4 hc4 (by intro z; cases z))
    obtain ⟨num, enum⟩ : ∃ num, num = numOf tm := ⟨_, rfl⟩
    have nu : NumAt (tbl tm) num (ts.map Prod.fst) := fun b hb => by
      rw [enum]
      exact ⟨tbl_val (by rw [etm]; exact pLk.mem_iff.mpr (so.perm.mem_iff.mp hb)), numOf_lt lt31 b⟩
    have nn : ∀ b ∈ ts.map Prod.fst, NameL b ∧ num b < 10 ^ 31 := fun b hb => ⟨nfl b hb, (nu b hb).2⟩
    -- the pairs
    refine ⟨_, rfl, q, prs t, t.map Prod.fst, rfl, .inl hq7, by unfold prs; rw [List.map_map, List.map_map] <;> rfl, by rw [List.length_map]; omega, fun ys p perm srt np => ⟨p, rfl, ⟨_, SqL.of upd_same⟩, fun D nD => ?_⟩⟩
    have eys : ys = ts.map Prod.fst := sorted_one (perm.trans so.perm.symm) srt so.srt
    subst eys
    obtain ⟨fl, efl⟩ : ∃ fl, fl = ts.map Prod.fst := ⟨_, rfl⟩
    obtain ⟨H8, e8⟩ : ∃ X, X = upd H7 p (.lst ((ts.map Prod.fst).map V.str)) := ⟨_, rfl⟩
    have s78 : Same H7 H8 := e8 ▸ same_new np
    have at8 : H8 p = some (.lst ((ts.map Prod.fst).map V.str)) := by rw [e8]; exact upd_same
    rw [← e8] at nD ⊢
    refine lc_it walk_list (fun i H' => Same H8 H' ∧ ∃ rs : List Addr, H' D = some (.lst (rs.map V.ref)) ∧ rs.length = i ∧ PrL num H' rs ((ts.map Prod.fst).take i)) ⟨same_new nD, [], upd_same, rfl, .nil⟩ (fun i H' _ z => SqL.of (z.1 _ _ at8)) ?_ ?_
    · intro i v Hc Hd hi ⟨q1, rs, hDc, lrs, pr⟩ ⟨eb, ex⟩
      subst eb
      rw [List.getElem?_map] at ex
      obtain ⟨b, hb, rfl⟩ := Option.map_eq_some_iff.mp ex
      have hmc := q1 _ _ (s78 _ _ hm7)
      have hv := (nu b (List.mem_of_getElem? hb)).1
      rw [List.length_map] at hi
      refine ⟨rfl, ?_⟩
      refine ⟨_, rfl, _, rfl, _, rfl, m, _, rfl, by rw [← hv]; exact DGet.k (k := Sum.inr b) hmc, by show 2 ≤ sizeLine; omega, fun tq ntq => ?_⟩
      have sq := same_new (o := .tup [.str b, .int (num b : Int)]) ntq
      have hDq := sq _ _ hDc
      refine ⟨_, hDq, by rw [List.length_map]; omega, fun b o e => ?_, rs ++ [tq], by rw [upd_same, List.map_append] <;> rfl, by rw [List.length_append, lrs] <;> rfl, ?_⟩
      · rw [upd_ne (ne_of_none e nD)]
        exact sq _ _ (q1 _ _ e)
      · rw [take_more hb]
        exact ((pr.mono sq).snoc upd_same).push hDq
    intro H9 ⟨s89, rs, hD9, lrs, pr9⟩
    rw [List.length_map, List.take_length] at pr9
    rw [List.length_map] at lrs
    have s79 : Same H7 H9 := s78.trans s89
    -- the text that is due
    refine ⟨⟨_, rfl⟩, _, rfl, D, rfl, ⟨_, SqL.of hD9⟩, fun D2 nD2 => ?_⟩
    refine lc_it walk_list (fun i H' => Same H9 H' ∧ H' D2 = some (.lst ((((ts.map Prod.fst).take i).map (szPart num)).map V.str))) ⟨same_new nD2, by rw [upd_same] <;> rfl⟩ (fun i H' _ z => SqL.of (z.1 _ _ hD9)) ?_ ?_
    · intro i v Hc Hd hi ⟨q1, q2⟩ ⟨eb, ex⟩
      subst eb
      rw [List.getElem?_map] at ex
      obtain ⟨rr, hrr, rfl⟩ := Option.map_eq_some_iff.mp ex
      obtain ⟨b, hb, hrb⟩ := (pr9.mono q1).at_ hrr
      obtain ⟨nb, hn⟩ := nn b (List.mem_of_getElem? hb)
      have lb := nb.len
      have ln := nT_len hn
      rw [List.length_map] at hi
      refine ⟨rr, _, rfl, .inl (.inl hrb), rfl, _, _, rfl, _, _, rfl, rfl, ?_⟩
      refine ⟨rfl, ?_⟩
      refine ⟨_, rfl, _, _, rfl, rfl, by show b.length + 1 ≤ sizeLine; omega, _, rfl, _, rfl, ?_, _, _, rfl, rfl, ?_, _, q2, ?_, ?_, ?_⟩
      · exact Nat.lt_trans (PySem.Flt.log2_lt_of (k := 200) (by decide) (by rw [Int.natAbs_natCast]; exact Nat.lt_trans hn (by decide))) (by decide)
      · have e : (b ++ "=").length = b.length + 1 := by rw [len_tl, tl_append, List.length_append, len_tl] <;> rfl
        rw [e]
        show b.length + 1 + (nT (num b)).length ≤ sizeLine
        omega
      · rw [List.length_map, List.length_map, List.length_take]
        omega
      · intro z u e
        rw [upd_ne (ne_of_none e nD2)]
        exact q1 z u e
      · rw [upd_same, take_more hb, List.map_append, List.map_append] <;> rfl
    intro H10 ⟨s910, hD10⟩
    rw [List.length_map, lrs, ← List.length_map (f := V.str), List.length_map, List.take_length] at hD10
    have sm := sum_le (c := 40) ((ts.map Prod.fst).map (szPart num)) fun z hz => by
      obtain ⟨b, hb, rfl⟩ := List.mem_map.mp hz
      exact szPart_len (nn b hb).1 (nn b hb).2
    have ll : ((ts.map Prod.fst).map (szPart num)).length = ts.length := by rw [List.length_map, List.length_map]
    have l1 : (" " : Str).length = 1 := rfl
    refine ⟨_, D2, (ts.map Prod.fst).map (szPart num), rfl, rfl, .inl (SqL.of hD10), by rw [ll] at sm ⊢; rw [l1]; omega, ?_⟩
    have s710 : Same H7 H10 := s79.trans s910
    have fa10 := FAt.mono s710 fa7
    have hm10 := s710 _ _ hm7
    have ts12 : ts.length ≤ 12 := by omega
    -- written by place and by name
    refine ⟨_, rfl, _, rfl, x, m, ts, tbl tm, num, rfl, fa10, hm10, ts12, nfl, nu, fun H11 s1011 => ⟨_, rfl, rfl, _, rfl, ?_⟩⟩
    rw [decide_eq_true (show V.str (szText num (ts.map Prod.fst)) = V.str (Txt.join " " ((ts.map Prod.fst).map (szPart num))) from rfl)]
    refine iteF ?_
    refine ⟨_, rfl, _, rfl, rfl, x, m, ts, tbl tm, num, rfl, FAt.mono s1011 fa10, s1011 _ _ hm10, ts12, nfl, nu, fun H12 s1112 => ⟨_, rfl, rfl, _, rfl, ?_⟩⟩
    rw [decide_eq_true (show V.str (szText num (ts.map Prod.fst)) = V.str (Txt.join " " ((ts.map Prod.fst).map (szPart num))) from rfl)]
    refine iteF ?_
    have s712 : Same H7 H12 := s710.trans (s1011.trans s1112)
    have s912 : Same H9 H12 := s910.trans (s1011.trans s1112)
    -- read again, twice
    refine ⟨2, rfl, by decide, by decide, ?_⟩
    refine for_it (walk_range (lo := 0) (n := 2)) (fun j σ' H' => (∃ u9 u10 : Option V, σ' = [some (.ref a), some (.ref d), some (.int (0 + (jj : Int))), some (.ref q), some (.ref x), some (.ref m), u6', some (.ref D), some (.str (szText num (ts.map Prod.fst))), u9, u10, u11, u12, u13, u14]) ∧ Same H12 H') ⟨⟨_, _, rfl⟩, fun _ _ e => e⟩ (fun _ _ _ _ _ => trivial) ?_ ?_
    · intro j2 v σ2 Hc Hd hj2 ⟨⟨u9', u10', e⟩, sc⟩ ⟨eb, ex⟩
      subst e
      subst eb
      subst ex
      have faD := FAt.mono (s712.trans sc) fa7
      have prD := pr9.mono (s912.trans sc)
      have hDD := sc _ _ (s912 _ _ hD9)
      obtain ⟨lay, shp⟩ := pairs_shaped (num := num) nfl
      refine ⟨_, rfl, rfl, _, rfl, ?_⟩
      refine ite2 (fun _ => ?_) (fun _ => ?_)
      all_goals
        first
          | refine ⟨_, rfl, _, rfl, x, ts, num, rfl, faD, by omega, ts12, ndfl, nn, fun ee He se ne he => ?_⟩
          | refine ⟨_, rfl, _, rfl, rfl, x, ts, num, rfl, faD, by omega, ts12, ndfl, nn, fun ee He se ne he => ?_⟩
        refine ⟨_, rfl, .ref ee, _, _, _, true, rfl, .ty _, .base (.dK he), kit_ty (by decide +kernel), true, rfl, ?_⟩
        refine iteF ?_
        refine ⟨_, rfl, ee, nums num (ts.map Prod.fst), rfl, he, fun Hg pg rg sg npg nrg prg hpg pdg => ⟨_, rfl, .list ((ts.map Prod.fst).map (pairD num)), .list ((ts.map Prod.fst).map (pairD num)), .lst (SqL.of hpg) (pairs_items pdg), .lst (SqL.of (sg _ _ (se _ _ hDD))) ((prD.mono se).mono sg).dp, shp, shp, _, rfl, ?_⟩⟩
        rw [SeqAt.eqv_refl _ lay]
        refine iteF ?_
        have hee := sg _ _ he
        refine ⟨_, rfl, .inr (.inr (.inl ⟨rfl, .inl ⟨_, hee⟩⟩)), ee, _, rfl, rfl, hee, ⟨_, _, rfl⟩, fun z u e => ?_⟩
        rw [upd_ne (ne_of_none (sc _ _ e) ne)]
        exact sg _ _ (se _ _ (sc _ _ e))
    intro σ3 H13 ⟨⟨u9', u10', e⟩, s1213⟩
    subst e
    have s713 : Same H7 H13 := s712.trans s1213
    have dr13 := dr7.mono s713
    have hq13 := s713 _ _ hq7
    -- the places
    refine ⟨_, rfl, _, rfl, _, rfl, _, rfl, d, c, 60, rfl, dr13, by decide, by decide, fun z H14 z0 z1 dr14 k14 => ⟨_, _, rfl, rfl, by show 4 ≤ sizeLine; omega, fun pz nz => ?_⟩⟩
    have az := dr14.apart nz
    refine ⟨d, c, _, 4, (fun _ x => ∃ n : Nat, x = .int (n : Int) ∧ 1 ≤ n ∧ n ≤ 60), rfl, dr14.off az.1 az.2, .inl ⟨pz, _, rfl, az.1, az.2, upd_same, rfl, fun i x hx => ?_⟩, by decide, by decide, fun i x15 H15 px dr15 k15 => ?_⟩
    · have fit : ∀ v : Int, 1 ≤ v → v ≤ 60 → ∃ n : Nat, V.int v = .int (n : Int) ∧ 1 ≤ n ∧ n ≤ 60 := fun v h0 h1 => ⟨v.toNat, by rw [Int.toNat_of_nonneg (by omega)], by omega, by omega⟩
      have hmem := List.mem_of_getElem? hx
      simp only [List.mem_cons, List.not_mem_nil, or_false] at hmem
      rcases hmem with rfl | rfl | rfl | rfl
      · exact fit _ (by decide) (by decide)
      · exact fit _ (by decide) (by decide)
      · exact fit _ (by decide) (by decide)
      · exact fit _ (by omega) (by omega)
    obtain ⟨n, rfl, n1, n60⟩ := px
    have mv2 : ∀ b o, b ≠ d → b ≠ c → H13 b = some o → H15 b = some o := fun b o b1 b2 e => k15 b o b1 b2 (by
      have e1 := k14 b o b1 b2 e
      show upd H14 pz _ b = _
      rw [upd_ne (ne_of_none e1 nz)]
      exact e1)
    have dr13' := dr13
    obtain ⟨_, _, _, hd13, hc13, _⟩ := dr13'
    have hq15 := mv2 _ _ (ne_of hq13 hd13 (by intro z; cases z)) (ne_of hq13 hc13 (by intro z; cases z)) hq13
    obtain ⟨dxf, dqf, hxf, hdf⟩ := FAt.mono s713 fa7
    have fa15 : FAt CF H15 x ts := ⟨dxf, dqf, mv2 _ _ (ne_of hxf hd13 (by intro z; cases z)) (ne_of hxf hc13 (by intro z; cases z)) hxf, mv2 _ _ (ne_of hdf hd13 (by intro z; cases z)) (ne_of hdf hc13 (by intro z; cases z)) hdf⟩
    refine ⟨d, c, q, n, t, rfl, dr15, hq15, few, n60, fun l zs H16 lz mz nl hl dr16 k16 => ?_⟩
    have dr15' := dr15
    obtain ⟨_, _, _, hd15, hc15, _⟩ := dr15'
    obtain ⟨dxg, dqg, hxg, hdg⟩ := fa15
    have fa16 : FAt CF H16 x ts := ⟨dxg, dqg, k16 _ _ (ne_of hxg hd15 (by intro z; cases z)) (ne_of hxg hc15 (by intro z; cases z)) hxg, k16 _ _ (ne_of hdg hd15 (by intro z; cases z)) (ne_of hdg hc15 (by intro z; cases z)) hdg⟩
    have mts : ∀ z ∈ zs, z = "" ∨ z ∈ ts.map Prod.fst := fun z hz => (mz z hz).imp id fun h => so.perm.mem_iff.mpr h
    have pls : ∀ z ∈ zs, Pl z := fun z hz => (mts z hz).imp id fun h => nfl z h
    -- the assignment
    refine ⟨_, rfl, _, rfl, fun y dy ny ndy nyd => ?_⟩
    have sN : Same H16 (upd (upd H16 dy (.own y)) y (.ins CA dy [])) := fun b u e => by
      rw [upd_ne (ne_of_none e ny), upd_ne (ne_of_none e ndy)]
      exact e
    refine ⟨y, x, l, dy, ts, zs, rfl, upd_same, FAt.mono sN fa16, sN _ _ hl, by omega, by omega, mts, fun H17 aa17 oth2 => ⟨rfl, ?_⟩⟩
    have s1617 : Same H16 H17 := fun b u e => oth2 b u (ne_of_none e ny) (sN _ _ e)
    have hl17 := s1617 _ _ hl
    have fa17 := FAt.mono s1617 fa16
    have dr17 := dr16.mono s1617
    -- its text
    refine ⟨⟨_, rfl⟩, _, rfl, l, rfl, ⟨_, SqL.of hl17⟩, fun D5 nD5 => ?_⟩
    refine lc_it walk_list (fun i H' => Same H17 H' ∧ H' D5 = some (.lst (((zs.take i).map fun z => lnT z ++ "\n").map V.str))) ⟨same_new nD5, by rw [upd_same] <;> rfl⟩ (fun i H' _ z => SqL.of (z.1 _ _ hl17)) ?_ ?_
    · intro i v Hc Hd hi ⟨q1, q2⟩ ⟨eb, ex⟩
      subst eb
      rw [List.getElem?_map] at ex
      obtain ⟨b, hb, rfl⟩ := Option.map_eq_some_iff.mp ex
      have lb := lnT_len (pls b (List.mem_of_getElem? hb))
      rw [List.length_map] at hi
      refine ⟨rfl, ?_⟩
      refine ⟨_, rfl, by show 2 ≤ sizeLine; omega, fun pq npq => ⟨_, rfl, rfl, .inr ⟨_, rfl, pq, _, _, .str (lnT b), rfl, rfl, SqL.of upd_same, ln_at b, _, _, rfl, rfl, ?_, ?_⟩⟩⟩
      · show (lnT b).length + 1 ≤ sizeLine
        omega
      · have sq := same_new (o := .lst [.str "-", .str b]) npq
        refine ⟨_, sq _ _ q2, ?_, ?_, ?_⟩
        · rw [List.length_map, List.length_map, List.length_take]
          omega
        · intro z u e
          rw [upd_ne (ne_of_none e nD5)]
          exact sq _ _ (q1 z u e)
        · rw [upd_same, take_more hb, List.map_append, List.map_append] <;> rfl
    intro H18 ⟨s1718, hD18⟩
    rw [List.length_map, List.take_length] at hD18
    have l0 : ("" : Str).length = 0 := rfl
    have sm2 := asParts_sum pls
    refine ⟨_, D5, (zs.map fun z => lnT z ++ "\n"), rfl, rfl, .inl (SqL.of hD18), by rw [l0]; omega, ?_⟩
    have aa18 := AAt.mono s1718 aa17
    -- written by place and by name
    refine ⟨_, rfl, y, x, zs, rfl, aa18, by omega, pls, fun H19 s1819 => ⟨_, rfl, rfl, _, rfl, ?_⟩⟩
    rw [decide_eq_true (show V.str (asText zs) = V.str (Txt.join "" (zs.map fun z => lnT z ++ "\n")) from rfl)]
    refine iteF ?_
    refine ⟨_, rfl, rfl, y, x, zs, rfl, AAt.mono s1819 aa18, by omega, pls, fun H20 s1920 => ⟨_, rfl, rfl, _, rfl, ?_⟩⟩
    rw [decide_eq_true (show V.str (asText zs) = V.str (Txt.join "" (zs.map fun z => lnT z ++ "\n")) from rfl)]
    refine iteF ?_
    have s1720 : Same H17 H20 := s1718.trans (s1819.trans s1920)
    have fa20 := FAt.mono s1720 fa17
    -- read again
    refine ⟨_, rfl, _, rfl, rfl, x, ts, zs, rfl, fa20, nfl, by omega, by omega, mts, fun y2 H21 s2021 ny2 aa2 => ?_⟩
    have s1721 : Same H17 H21 := s1720.trans s2021
    have aa21 := AAt.mono s1721 aa17
    have fa21 := FAt.mono s1721 fa17
    have aa2' := aa2
    obtain ⟨dy2, py2, hy2, hpy2⟩ := aa2'
    have aa21' := aa21
    obtain ⟨dy1, py1, hy1, hpy1⟩ := aa21'
    refine ⟨_, rfl, .ref y2, _, .ref CA, _, true, rfl, .own _, .base (.ins hy2 L.B.cl L.SA.ha L.SA.hn L.SA.ht L.SA.hm), kit_self, true, rfl, ?_⟩
    refine iteF ?_
    refine ⟨_, rfl, _, rfl, ⟨y2, y, _, _, _, _, rfl, rfl, hy2, hy1, x, ts, zs, aa2, aa21, fa21, ndfl, pls⟩, fun H22 s2122 => ⟨false, rfl, ?_⟩⟩
    refine iteF ?_
    have s2122' : Same H21 H22 := s2122
    have hl22 := s2122' _ _ (s1721 _ _ hl17)
    refine ⟨_, rfl, _, rfl, x, ts, zs, rfl, FAt.mono s2122' fa21, nfl, by omega, by omega, mts, fun y3 H23 s2223 ny3 aa3 => ?_⟩
    have aa3' := aa3
    obtain ⟨dy3, py3, hy3, hpy3⟩ := aa3'
    refine ⟨y3, dy3, _, rfl, hy3, y3, x, zs, rfl, aa3, fun pp npp => ⟨_, rfl, .list (zs.map PyData.str), .list (zs.map PyData.str), .lst (SqL.of upd_same) (dp_strs zs), .lst (SqL.of (same_new npp _ _ (s2223 _ _ hl22))) (dp_strs zs), shaped_strs pls, shaped_strs pls, _, rfl, ?_⟩⟩
    rw [SeqAt.eqv_refl _ (lay_strs pls)]
    refine iteF ?_
    have s2124 : Same H21 (upd H23 pp (.lst (zs.map V.str))) := (s2122'.trans s2223).trans (same_new npp)
    have fa24 := FAt.mono s2124 fa21
    have fa24' := fa24
    obtain ⟨dx24, dq24, hx24, hd24⟩ := fa24'
    refine ⟨_, rfl, y2, dy2, _, rfl, s2124 _ _ hy2, y2, x, zs, rfl, AAt.mono s2124 aa2, _, rfl, ⟨x, x, _, _, _, _, rfl, rfl, hx24, hx24, ts, fa24, fa24, ndfl⟩, fun H25 s2425 => ⟨false, rfl, ?_⟩⟩
    refine iteF ?_
    exact ⟨⟨_, _, _, _, _, _, _, _, _, _, _, _, _, rfl⟩, ((dr17.mono s1721).mono s2124).mono s2425⟩
end
end K50


namespace K50
open PySem PySem.Spec PyProof.Rows L2 TL ClX
/-- what the top says of a class with a constant MOST -/
structure ClsK (K : PySem.W.Frag) (nm : Str) (C : Addr) (n : Int) (t : Nat) : Prop where
  nsn : PySem.W.nsIn K mainGlobals nm = some (some (.ref C))
  rd : PySem.W.readsIn K C (.type "type") = true
  ga : PySem.W.specialIn K (.ref C) "__getattribute__" = some (some (.builtin "type.__getattribute__"))
  most : PySem.W.findCls K (.ref C) (.type "type") "MOST" = some (.val (.int n t))
  pg : PySem.W.plainGet K C Str.empty = true
  hd : PySem.W.hasDictIn K C = true
  po : PySem.W.plainOver K C = true
  sa : PySem.W.findIn K (.ref C) "__setattr__" = some (some (.builtin "object.__setattr__"))
  mks : PySem.W.makesIn K C = true
  kp : PySem.W.keepIn K (.ref C) = true
  ha : PySem.W.findIn K (.ref C) "__class__" = some (some (.builtin "object.__class__"))
  hn : PySem.W.specialIn K (.builtin "object.__class__") "__get__" = some (some (.builtin "getset_descriptor.__get__"))
  ht : PySem.W.takesIn K (.builtin "object.__class__") = some true
  hm : PySem.W.mroIn K C (.type "object") = some true
/-- a method -/
structure MetK (K : PySem.W.Frag) (C : Addr) (m : Str) (f : Addr) : Prop where
  at_ : PySem.W.findIn K (.ref C) m = some (some (.ref f))
  fn : PySem.W.isFn K (.ref f) = true
/-- a property -/
structure PrK (K : PySem.W.Frag) (C : Addr) (m : Str) (p g : Addr) (rest : List Value) : Prop where
  at_ : PySem.W.findIn K (.ref C) m = some (some (.ref p))
  get : PySem.W.specialIn K (.ref p) "__get__" = some (some (.builtin "property.__get__"))
  tak : PySem.W.takesIn K (.ref p) = some true
  rec_ : PySem.W.recIn K p "property" = some (.ref g :: rest)
section
variable {P : Program} {w : World} {K : PySem.W.Frag} {h : Heap} {mg : Str → Option Value} {fa : Addr}
theorem all_mk {CF CA f_bg f_dr f_pk f_nm f_tr f_pl f_isn f_isa f_need f_io f_sz f_zp f_at f_ap f_law f_fi f_fe f_ai f_ae f_fl f_af f_apl p_fl p_af p_apl : Addr} {d_bg d_dr d_pk d_nm d_tr d_pl d_isn d_isa d_need d_io d_sz d_zp d_at d_ap d_law d_fi d_fe d_ai d_ae d_fl d_af d_apl : FuncData} {t1 t2 tR tL tT tD tM tN : Nat} {r_fl r_af r_apl : List Value} (X : K.In h) (G : h.Ns mainGlobals mg) (hfa : mg "law" = some (.ref fa))
    (kF : ClsK K "Forest" CF 12 t1) (kA : ClsK K "Assignment" CA 60 t2) (root : PySem.W.findCls K (.ref CF) (.type "type") "ROOT" = some (.val (.str "" tR)))
    (nAb : PySem.W.findIn K (.ref CF) "above" = some none) (nOf : PySem.W.findIn K (.ref CA) "own_forest" = some none) (nOp : PySem.W.findIn K (.ref CA) "own_places" = some none)
    (cL : PySem.W.nsIn K mainGlobals "LONGEST" = some (some (.int 8 tL))) (cT : PySem.W.nsIn K mainGlobals "LETTERS" = some (some (.str letters tT))) (cD : PySem.W.nsIn K mainGlobals "DIGITS" = some (some (.str digits tD))) (cM : PySem.W.nsIn K mainGlobals "MOST_DIGITS" = some (some (.int 31 tM))) (cN : PySem.W.nsIn K mainGlobals "NO_FLAG" = some (some (.str "-" tN)))
    (n_bg : PySem.W.nsIn K mainGlobals "_law_begin" = some (some (.ref f_bg))) (u_bg : L2.Fun K "_law_begin" "_law_begin" sBegin f_bg d_bg)
    (n_dr : PySem.W.nsIn K mainGlobals "_law_draw" = some (some (.ref f_dr))) (u_dr : L2.Fun K "_law_draw" "_law_draw" sDraw f_dr d_dr)
    (n_pk : PySem.W.nsIn K mainGlobals "_law_pick" = some (some (.ref f_pk))) (u_pk : L2.Fun K "_law_pick" "_law_pick" sPick f_pk d_pk)
    (n_nm : PySem.W.nsIn K mainGlobals "_law_names" = some (some (.ref f_nm))) (u_nm : L2.Fun K "_law_names" "_law_names" sNames f_nm d_nm)
    (n_tr : PySem.W.nsIn K mainGlobals "_law_tree" = some (some (.ref f_tr))) (u_tr : L2.Fun K "_law_tree" "_law_tree" sTree f_tr d_tr)
    (n_pl : PySem.W.nsIn K mainGlobals "_law_places" = some (some (.ref f_pl))) (u_pl : L2.Fun K "_law_places" "_law_places" sPlaces f_pl d_pl)
    (n_isn : PySem.W.nsIn K mainGlobals "is_name" = some (some (.ref f_isn))) (u_isn : L2.Fun K "is_name" "is_name" sIsName f_isn d_isn)
    (n_isa : PySem.W.nsIn K mainGlobals "is_ancestor" = some (some (.ref f_isa))) (u_isa : L2.Fun K "is_ancestor" "is_ancestor" sIsAnc f_isa d_isa)
    (n_need : PySem.W.nsIn K mainGlobals "need_parents" = some (some (.ref f_need))) (u_need : L2.Fun K "need_parents" "need_parents" sNeed f_need d_need)
    (n_io : PySem.W.nsIn K mainGlobals "integer_of" = some (some (.ref f_io))) (u_io : L2.Fun K "integer_of" "integer_of" sIntOf f_io d_io)
    (n_sz : PySem.W.nsIn K mainGlobals "sizes_text" = some (some (.ref f_sz))) (u_sz : L2.Fun K "sizes_text" "sizes_text" sSzText f_sz d_sz)
    (n_zp : PySem.W.nsIn K mainGlobals "parse_sizes" = some (some (.ref f_zp))) (u_zp : L2.Fun K "parse_sizes" "parse_sizes" sSzParse f_zp d_zp)
    (n_at : PySem.W.nsIn K mainGlobals "assignment_text" = some (some (.ref f_at))) (u_at : L2.Fun K "assignment_text" "assignment_text" sAText f_at d_at)
    (n_ap : PySem.W.nsIn K mainGlobals "parse_assignment" = some (some (.ref f_ap))) (u_ap : L2.Fun K "parse_assignment" "parse_assignment" sAParse f_ap d_ap)
    (n_law : PySem.W.nsIn K mainGlobals "law" = some (some (.ref f_law))) (u_law : L2.Fun K "law" "law" sLaw f_law d_law)
    (m_fi : MetK K CF "__init__" f_fi) (u_fi : L2.Fun K "__init__" "Forest.__init__" sFInit f_fi d_fi)
    (m_fe : MetK K CF "__eq__" f_fe) (u_fe : L2.Fun K "__eq__" "Forest.__eq__" sFEq f_fe d_fe)
    (m_ai : MetK K CA "__init__" f_ai) (u_ai : L2.Fun K "__init__" "Assignment.__init__" sAInit f_ai d_ai)
    (m_ae : MetK K CA "__eq__" f_ae) (u_ae : L2.Fun K "__eq__" "Assignment.__eq__" sAEq f_ae d_ae)
    (m_fl : PrK K CF "flags" p_fl f_fl r_fl) (u_fl : L2.Fun K "flags" "Forest.flags" sFFlags f_fl d_fl)
    (m_af : PrK K CA "forest" p_af f_af r_af) (u_af : L2.Fun K "forest" "Assignment.forest" sAForest f_af d_af)
    (m_apl : PrK K CA "places" p_apl f_apl r_apl) (u_apl : L2.Fun K "places" "Assignment.places" sAPlaces f_apl d_apl)
    (eF : EqF K CF f_fe) (eA : EqF K CA f_ae)
    (z_abs : PySem.W.nsIn K mainGlobals "abs" = some none)
    (z_len : PySem.W.nsIn K mainGlobals "len" = some none)
    (z_rng : PySem.W.nsIn K mainGlobals "range" = some none)
    (z_enu : PySem.W.nsIn K mainGlobals "enumerate" = some none)
    (z_zip : PySem.W.nsIn K mainGlobals "zip" = some none)
    (z_isi : PySem.W.nsIn K mainGlobals "isinstance" = some none)
    (z_all : PySem.W.nsIn K mainGlobals "all" = some none)
    (z_srt : PySem.W.nsIn K mainGlobals "sorted" = some none)
    (z_lst : PySem.W.nsIn K mainGlobals "list" = some none)
    (z_dct : PySem.W.nsIn K mainGlobals "dict" = some none)
    (z_str : PySem.W.nsIn K mainGlobals "str" = some none)
    (z_int : PySem.W.nsIn K mainGlobals "int" = some none)
    (z_tup : PySem.W.nsIn K mainGlobals "tuple" = some none)
    : ∃ fd : FuncData, (∀ (s : Shared) (u : Value), BindsTo s fd ⟨[u], []⟩ [("_law_script", u)]) ∧ ∀ base : Heap, K.In base → base.Ns mainGlobals mg → FnOk P w K mg base CX0 5 fa fd ["_law_script"] (spLaw K) := by
  cases hfa.symm.trans (PySem.W.mg_of X G n_law)
  have N : Nm mg := ⟨PySem.W.mg_none_of X G z_abs, PySem.W.mg_none_of X G z_len, PySem.W.mg_none_of X G z_rng, PySem.W.mg_none_of X G z_enu, PySem.W.mg_none_of X G z_zip, PySem.W.mg_none_of X G z_isi, PySem.W.mg_none_of X G z_all, PySem.W.mg_none_of X G z_srt, PySem.W.mg_none_of X G z_lst, PySem.W.mg_none_of X G z_dct, PySem.W.mg_none_of X G z_str, PySem.W.mg_none_of X G z_int, PySem.W.mg_none_of X G z_tup⟩
  have Cs_ : Cs mg := ⟨⟨_, PySem.W.mg_of X G cL⟩, ⟨_, PySem.W.mg_of X G cT⟩⟩
  have Cd_ : Cd mg := ⟨⟨_, PySem.W.mg_of X G cD⟩, ⟨_, PySem.W.mg_of X G cM⟩, ⟨_, PySem.W.mg_of X G cN⟩⟩
  have O : FoC K CF := ⟨⟨kF.pg, kF.hd, kF.po, kF.sa⟩, nAb⟩
  have Z : Fc K mg CF (.type "type") := ⟨PySem.W.mg_of X G kF.nsn, ⟨kF.rd, kF.ga⟩, ⟨_, kF.most, ⟨_, rfl⟩⟩, ⟨_, root, ⟨_, rfl⟩⟩⟩
  have B : Ac K mg CA (.type "type") := ⟨PySem.W.mg_of X G kA.nsn, ⟨kA.rd, kA.ga⟩, ⟨_, kA.most, ⟨_, rfl⟩⟩, ⟨kA.pg, kA.hd, kA.po, kA.sa⟩, nOf, nOp⟩
  have SF : IsF K CF := ⟨kF.ha, kF.hn, kF.ht, kF.hm⟩
  have SA : IsF K CA := ⟨kA.ha, kA.hn, kA.ht, kA.hm⟩
  have b_bg := u_bg.binds (ps := ["_law_script"]) fun _ _ _ _ _ _ us hl => match us, hl with | [_], _ => rfl
  have b_dr := u_dr.binds (ps := ["_law_state", "_law_many"]) fun _ _ _ _ _ _ us hl => match us, hl with | [_, _], _ => rfl
  have b_pk := u_pk.binds (ps := ["_law_state", "_law_some"]) fun _ _ _ _ _ _ us hl => match us, hl with | [_, _], _ => rfl
  have b_nm := u_nm.binds (ps := ["_law_state", "_law_many"]) fun _ _ _ _ _ _ us hl => match us, hl with | [_, _], _ => rfl
  have b_tr := u_tr.binds (ps := ["_law_state", "_law_many"]) fun _ _ _ _ _ _ us hl => match us, hl with | [_, _], _ => rfl
  have b_pl := u_pl.binds (ps := ["_law_state", "_law_tree_here", "_law_users"]) fun _ _ _ _ _ _ us hl => match us, hl with | [_, _, _], _ => rfl
  have b_isn := u_isn.binds (ps := ["value"]) fun _ _ _ _ _ _ us hl => match us, hl with | [_], _ => rfl
  have b_isa := u_isa.binds (ps := ["parents", "name"]) fun _ _ _ _ _ _ us hl => match us, hl with | [_, _], _ => rfl
  have b_need := u_need.binds (ps := ["parents"]) fun _ _ _ _ _ _ us hl => match us, hl with | [_], _ => rfl
  have b_io := u_io.binds (ps := ["word"]) fun _ _ _ _ _ _ us hl => match us, hl with | [_], _ => rfl
  have b_sz := u_sz.binds (ps := ["forest", "sizes"]) fun _ _ _ _ _ _ us hl => match us, hl with | [_, _], _ => rfl
  have b_zp := u_zp.binds (ps := ["forest", "text"]) fun _ _ _ _ _ _ us hl => match us, hl with | [_, _], _ => rfl
  have b_at := u_at.binds (ps := ["assignment"]) fun _ _ _ _ _ _ us hl => match us, hl with | [_], _ => rfl
  have b_ap := u_ap.binds (ps := ["forest", "text"]) fun _ _ _ _ _ _ us hl => match us, hl with | [_, _], _ => rfl
  have b_fi := u_fi.binds (ps := ["self", "parents"]) fun _ _ _ _ _ _ us hl => match us, hl with | [_, _], _ => rfl
  have b_fe := u_fe.binds (ps := ["self", "other"]) fun _ _ _ _ _ _ us hl => match us, hl with | [_, _], _ => rfl
  have b_ai := u_ai.binds (ps := ["self", "forest", "places"]) fun _ _ _ _ _ _ us hl => match us, hl with | [_, _, _], _ => rfl
  have b_ae := u_ae.binds (ps := ["self", "other"]) fun _ _ _ _ _ _ us hl => match us, hl with | [_, _], _ => rfl
  have b_fl := u_fl.binds (ps := ["self"]) fun _ _ _ _ _ _ us hl => match us, hl with | [_], _ => rfl
  have b_af := u_af.binds (ps := ["self"]) fun _ _ _ _ _ _ us hl => match us, hl with | [_], _ => rfl
  have b_apl := u_apl.binds (ps := ["self"]) fun _ _ _ _ _ _ us hl => match us, hl with | [_], _ => rfl
  have g_bg := PySem.W.mg_of X G n_bg
  have g_dr := PySem.W.mg_of X G n_dr
  have g_pk := PySem.W.mg_of X G n_pk
  have g_nm := PySem.W.mg_of X G n_nm
  have g_tr := PySem.W.mg_of X G n_tr
  have g_pl := PySem.W.mg_of X G n_pl
  have g_isn := PySem.W.mg_of X G n_isn
  have g_isa := PySem.W.mg_of X G n_isa
  have g_need := PySem.W.mg_of X G n_need
  have g_io := PySem.W.mg_of X G n_io
  have g_sz := PySem.W.mg_of X G n_sz
  have g_zp := PySem.W.mg_of X G n_zp
  have g_at := PySem.W.mg_of X G n_at
  have g_ap := PySem.W.mg_of X G n_ap
  refine ⟨d_law, fun s u => ?_, fun base KB GB => ?_⟩
  · obtain ⟨oc, od, kV, doc, pm, an, cdv, ct, osl, rfl, lk, hcd⟩ := u_law.ex
    exact .of_eq rfl
  have LF : FlP P w K mg base CF p_fl f_fl d_fl := ⟨⟨m_fl.at_, m_fl.get, m_fl.tak, ⟨_, m_fl.rec_⟩⟩, ok_fflags u_fl N O, b_fl⟩
  have LA : ApP P w K mg base CA p_apl f_apl p_af f_af d_apl d_af := ⟨⟨m_apl.at_, m_apl.get, m_apl.tak, ⟨_, m_apl.rec_⟩⟩, ok_aplaces u_apl N B, b_apl, ⟨m_af.at_, m_af.get, m_af.tak, ⟨_, m_af.rec_⟩⟩, ok_aforest u_af B, b_af⟩
  have GNeed : FnOk P w K mg base CX0 2 f_need d_need ["parents"] spNeed := ok_need u_need N Cs_ Z u_isn b_isn g_isn u_isa b_isa g_isa
  have L : Lw P w K mg base CF CA (.type "type") (.type "type") (fun i => ([f_bg, f_dr, f_pk, f_tr, f_pl, f_sz, f_zp, f_at, f_ap, f_fi, f_ai, f_fe, f_ae, p_apl, f_apl, p_af, f_af] : List Nat).getD i 0) (fun i => ([d_bg, d_dr, d_pk, d_tr, d_pl, d_sz, d_zp, d_at, d_ap, d_fi, d_ai, d_fe, d_ae, d_bg, d_apl, d_bg, d_af] : List FuncData).getD i d_bg) := {
    O := O
    Z := Z
    B := B
    SA := SA
    bg := ⟨ok_begin u_bg N, u_bg.kp, b_bg, g_bg⟩
    dr := ⟨ok_draw u_dr N, u_dr.kp, b_dr, g_dr⟩
    pk := ⟨ok_pick u_pk N u_dr b_dr g_dr, u_pk.kp, b_pk, g_pk⟩
    tr := ⟨ok_tree u_tr N u_dr b_dr g_dr u_pk b_pk g_pk u_nm b_nm g_nm, u_tr.kp, b_tr, g_tr⟩
    pl := ⟨ok_places u_pl N u_dr b_dr g_dr u_pk b_pk g_pk, u_pl.kp, b_pl, g_pl⟩
    sz := ⟨ok_szText u_sz N O LF, u_sz.kp, b_sz, g_sz⟩
    zp := ⟨ok_szParse u_zp N Cd_ O LF u_io b_io g_io, u_zp.kp, b_zp, g_zp⟩
    at_ := ⟨ok_atext u_at Cd_ Z B LA, u_at.kp, b_at, g_at⟩
    ap := ⟨ok_aparse u_ap N Cd_ O Z B LF ⟨kA.mks, m_ai.at_, m_ai.fn, kA.kp⟩ u_ai b_ai, u_ap.kp, b_ap, g_ap⟩
    szk := Fun.kw2 u_sz fun _ _ _ _ _ _ _ _ => rfl
    zpk := Fun.kw2 u_zp fun _ _ _ _ _ _ _ _ => rfl
    atk := Fun.kw1 u_at fun _ _ _ _ _ _ _ => rfl
    apk := Fun.kw2 u_ap fun _ _ _ _ _ _ _ _ => rfl
    fi := ok_finit u_fi N O GNeed u_need.kp b_need g_need
    fim := ⟨kF.mks, m_fi.at_, m_fi.fn, kF.kp⟩
    fib := b_fi
    ai := ok_ainit u_ai N O Z B
    aim := ⟨kA.mks, m_ai.at_, m_ai.fn, kA.kp⟩
    aib := b_ai
    fe := ok_feq u_fe N O Z SF
    fee := eF
    feb := b_fe
    ae := ok_aeq u_ae N O Z SF B SA u_fe b_fe m_fe.at_ m_fe.fn
    aee := eA
    aeb := b_ae
    prP := LA.prP
    fnP := LA.fnP
    bnP := LA.bnP
    prR := LA.prR
    fnR := LA.fnR
    bnR := LA.bnR }
  exact ok_law u_law N L
end
theorem walk {l : PySem.W.OpenLaw} {q : Program} {loose : List Str} {XP : (Str → Option Value) → Heap → Prop} {YP : World → Heap → Prop} {d : DefRec} {K : Params → PySem.W.Frag} (hn : l.most = some 63) (hdf : d.params.defaults = [])
    (hY : ∀ (w : World) (h : Heap), YP w h → (K w.params).In h)
    (F : ∀ (w : World) (mg : Str → Option Value) (fa : Addr) (h : Heap), (K w.params).In h → h.Ns mainGlobals mg → mg d.name = some (.ref fa) →
      ∃ fd : FuncData, (∀ (s : Shared) (u : Value), BindsTo s fd ⟨[u], []⟩ [("_law_script", u)]) ∧ ∀ base : Heap, (K w.params).In base → base.Ns mainGlobals mg → FnOk l.prog w (K w.params) mg base CX0 5 fa fd ["_law_script"] (spLaw (K w.params))) :
    PySem.W.WalkO q loose XP YP l.row.toRowW d [] (fun f vs => PySem.call f vs) :=
  walk_of (n := 63) (k := 5) (x := "_law_script") (CX := fun _ => CX0) (sp := fun w => spLaw (K w.params)) hn (by decide) hdf ⟨rfl, by decide, by decide⟩ hY F (fun _ _ a ns hl _ hS => ⟨a, ns, rfl, hS, hl, fun _ => rfl⟩) fun _ _ _ _ _ z => z
end K50


open PySem PySem.W PyProof.Rows
set_option maxRecDepth 100000 in
set_option maxHeartbeats 0 in
theorem PySem.Challenge.cw_flagtrees_k50_texts_written_holds : PySem.Challenge.rw_flagtrees_k50_texts_written.Holds := by
  w_on; o_law; k_head; (case hw => w_witness2)
  k_fill
  refine K50.walk (l := PySem.Challenge.rw_flagtrees_k50_texts_written) rfl rfl (fun w h Y => PySem.W.kIn_of Y) ?F
  case F =>
    intro w mg fa h KX G hm
    have hmg : mg "law" = some (.ref fa) := hm
    clear hm
    refine' K50.all_mk KX G hmg ?kF ?kA ?root ?nAb ?nOf ?nOp ?cL ?cT ?cD ?cM ?cN ?n_bg ?u_bg ?n_dr ?u_dr ?n_pk ?u_pk ?n_nm ?u_nm ?n_tr ?u_tr ?n_pl ?u_pl ?n_isn ?u_isn ?n_isa ?u_isa ?n_need ?u_need ?n_io ?u_io ?n_sz ?u_sz ?n_zp ?u_zp ?n_at ?u_at ?n_ap ?u_ap ?n_law ?u_law ?m_fi ?u_fi ?m_fe ?u_fe ?m_ai ?u_ai ?m_ae ?u_ae ?m_fl ?u_fl ?m_af ?u_af ?m_apl ?u_apl ?eF ?eA ?z_abs ?z_len ?z_rng ?z_enu ?z_zip ?z_isi ?z_all ?z_srt ?z_lst ?z_dct ?z_str ?z_int ?z_tup
    (case kF => (refine' ⟨?nsn, ?rd, ?ga, ?most, ?pg, ?hd, ?po, ?sa, ?mks, ?kp, ?ha, ?hn, ?ht, ?hm⟩; (case nsn => k_is); (case rd => k_is); (case ga => k_is); (case most => k_is); (case pg => k_is); (case hd => k_is); (case po => k_is); (case sa => k_is); (case mks => k_is); (case kp => k_is); (case ha => k_is); (case hn => k_is); (case ht => k_is); (case hm => k_is)))
    (case kA => (refine' ⟨?nsn, ?rd, ?ga, ?most, ?pg, ?hd, ?po, ?sa, ?mks, ?kp, ?ha, ?hn, ?ht, ?hm⟩; (case nsn => k_is); (case rd => k_is); (case ga => k_is); (case most => k_is); (case pg => k_is); (case hd => k_is); (case po => k_is); (case sa => k_is); (case mks => k_is); (case kp => k_is); (case ha => k_is); (case hn => k_is); (case ht => k_is); (case hm => k_is)))
    (case root => k_is)
    (case nAb => k_is)
    (case nOf => k_is)
    (case nOp => k_is)
    (case cL => k_is)
    (case cT => k_is)
    (case cD => k_is)
    (case cM => k_is)
    (case cN => k_is)
    (case n_bg => k_is)
    (case u_bg => (refine' L2.fun_mk ?l ?c ?k; (case l => k_is); (case c => k_is); (case k => k_is)))
    (case n_dr => k_is)
    (case u_dr => (refine' L2.fun_mk ?l ?c ?k; (case l => k_is); (case c => k_is); (case k => k_is)))
    (case n_pk => k_is)
    (case u_pk => (refine' L2.fun_mk ?l ?c ?k; (case l => k_is); (case c => k_is); (case k => k_is)))
    (case n_nm => k_is)
    (case u_nm => (refine' L2.fun_mk ?l ?c ?k; (case l => k_is); (case c => k_is); (case k => k_is)))
    (case n_tr => k_is)
    (case u_tr => (refine' L2.fun_mk ?l ?c ?k; (case l => k_is); (case c => k_is); (case k => k_is)))
    (case n_pl => k_is)
    (case u_pl => (refine' L2.fun_mk ?l ?c ?k; (case l => k_is); (case c => k_is); (case k => k_is)))
    (case n_isn => k_is)
    (case u_isn => (refine' L2.fun_mk ?l ?c ?k; (case l => k_is); (case c => k_is); (case k => k_is)))
    (case n_isa => k_is)
    (case u_isa => (refine' L2.fun_mk ?l ?c ?k; (case l => k_is); (case c => k_is); (case k => k_is)))
    (case n_need => k_is)
    (case u_need => (refine' L2.fun_mk ?l ?c ?k; (case l => k_is); (case c => k_is); (case k => k_is)))
    (case n_io => k_is)
    (case u_io => (refine' L2.fun_mk ?l ?c ?k; (case l => k_is); (case c => k_is); (case k => k_is)))
    (case n_sz => k_is)
    (case u_sz => (refine' L2.fun_mk ?l ?c ?k; (case l => k_is); (case c => k_is); (case k => k_is)))
    (case n_zp => k_is)
    (case u_zp => (refine' L2.fun_mk ?l ?c ?k; (case l => k_is); (case c => k_is); (case k => k_is)))
    (case n_at => k_is)
    (case u_at => (refine' L2.fun_mk ?l ?c ?k; (case l => k_is); (case c => k_is); (case k => k_is)))
    (case n_ap => k_is)
    (case u_ap => (refine' L2.fun_mk ?l ?c ?k; (case l => k_is); (case c => k_is); (case k => k_is)))
    (case n_law => k_is)
    (case u_law => (refine' L2.fun_mk ?l ?c ?k; (case l => k_is); (case c => k_is); (case k => k_is)))
    (case m_fi => (refine' ⟨?at_, ?fn⟩; (case at_ => k_is); (case fn => k_is)))
    (case u_fi => (refine' L2.fun_mk ?l ?c ?k; (case l => k_is); (case c => k_is); (case k => k_is)))
    (case m_fe => (refine' ⟨?at_, ?fn⟩; (case at_ => k_is); (case fn => k_is)))
    (case u_fe => (refine' L2.fun_mk ?l ?c ?k; (case l => k_is); (case c => k_is); (case k => k_is)))
    (case m_ai => (refine' ⟨?at_, ?fn⟩; (case at_ => k_is); (case fn => k_is)))
    (case u_ai => (refine' L2.fun_mk ?l ?c ?k; (case l => k_is); (case c => k_is); (case k => k_is)))
    (case m_ae => (refine' ⟨?at_, ?fn⟩; (case at_ => k_is); (case fn => k_is)))
    (case u_ae => (refine' L2.fun_mk ?l ?c ?k; (case l => k_is); (case c => k_is); (case k => k_is)))
    (case m_fl => (refine' ⟨?at_, ?get, ?tak, ?rec_⟩; (case at_ => k_is); (case get => k_is); (case tak => k_is); (case rec_ => k_is)))
    (case u_fl => (refine' L2.fun_mk ?l ?c ?k; (case l => k_is); (case c => k_is); (case k => k_is)))
    (case m_af => (refine' ⟨?at_, ?get, ?tak, ?rec_⟩; (case at_ => k_is); (case get => k_is); (case tak => k_is); (case rec_ => k_is)))
    (case u_af => (refine' L2.fun_mk ?l ?c ?k; (case l => k_is); (case c => k_is); (case k => k_is)))
    (case m_apl => (refine' ⟨?at_, ?get, ?tak, ?rec_⟩; (case at_ => k_is); (case get => k_is); (case tak => k_is); (case rec_ => k_is)))
    (case u_apl => (refine' L2.fun_mk ?l ?c ?k; (case l => k_is); (case c => k_is); (case k => k_is)))
    (case eF => exact ⟨⟨_, _, _, _, _, _, _, _, _, _, _, _, _, _, _, rfl, _, _, _, _, _, rfl, rfl, rfl, rfl⟩, ⟨_, rfl, rfl⟩⟩)
    (case eA => exact ⟨⟨_, _, _, _, _, _, _, _, _, _, _, _, _, _, _, rfl, _, _, _, _, _, rfl, rfl, rfl, rfl⟩, ⟨_, rfl, rfl⟩⟩)
    (case z_abs => k_is)
    (case z_len => k_is)
    (case z_rng => k_is)
    (case z_enu => k_is)
    (case z_zip => k_is)
    (case z_isi => k_is)
    (case z_all => k_is)
    (case z_srt => k_is)
    (case z_lst => k_is)
    (case z_dct => k_is)
    (case z_str => k_is)
    (case z_int => k_is)
    (case z_tup => k_is)
