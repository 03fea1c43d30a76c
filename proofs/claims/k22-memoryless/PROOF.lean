import PyProof.Rows.All
import Wide.All
import OpenK.AllK
import Wide.FinOn
import HandS.ForMost
import PyProof.EqAt
import PyProof.EqKinds
import PyProof.TupleCall
import KE.KFromBytes
import KE.KExcIs
import HandS.Exc
import HandS.TryOnly
import HandS.ExcInit
import HandS.ExcIs
import HandS.ExcField
import HandS.IsInst
import HandS.ClsMeth
import HandS.Defaults
import HandS.DictComp
import HandS.SortKw
import HandS.More
import HandS.Nested
import PyProof.Rows.StrRules
import PyProof.Rows.SortKeyStr
import KE.KUnpackStar
import HandS.Flow
import HandS.Walk
import HandS.Wide
import HandS.Text
import HandS.Style
import HandS.Property
import HandS.WordsDict
import HandS.ListItems
import HandS.Finally
import HandS.WordsExc
import HandS.Conv
import HandS.List
import PyProof.NeData
import HandS.GenOver
import HandS.GenList
import HandS.GenYield
import HandS.Iter
import HandS.TupLen
import KE.KeyNested
import KE.KDictCopyH
import KE.KDictZip
import HandS.Zip
import PyProof.DictUpdate
import HandS.Dict
import PyProof.ReprBulk
import HandS.OwnEq
import PyProof.InstNe
import PyProof.PureStr
import HandS.Sort
import HandS.Lambda
import HandS.EndBits
import KE.KNest
import KE.RegKIsAll
import Wide.Loose
import PySem.Challenge.RW_flagtrees_k22_whole_memoryless_or_not
set_option Elab.async false
set_option linter.all false
set_option maxRecDepth 100000
set_option maxHeartbeats 8000000

namespace FT
open PySem L2
/-- the i-th statement of the row's text -/
def top (i : Nat) : Stmt := PySem.Challenge.pw_flagtrees_k22_whole_memoryless_or_not.main.body.getD i (.Pass ⟨0, 0, 0, 0⟩)
abbrev s__wall : Stmt := top 0
abbrev s_InvalidForest___init__ : Stmt := inClass (top 3) 0
abbrev s_UnknownName___init__ : Stmt := inClass (top 4) 0
abbrev s_InvalidUsers___init__ : Stmt := inClass (top 5) 0
abbrev s_InvalidSizes___init__ : Stmt := inClass (top 6) 0
abbrev s_InvalidPlace___init__ : Stmt := inClass (top 7) 0
abbrev s_UnknownUser___init__ : Stmt := inClass (top 8) 0
abbrev s_NeedsMemory___init__ : Stmt := inClass (top 9) 0
abbrev s_is_name : Stmt := top 13
abbrev s_is_ancestor : Stmt := top 14
abbrev s_need_parents : Stmt := top 15
abbrev s_Forest___init__ : Stmt := inClass (top 16) 2
abbrev s_Forest___eq__ : Stmt := inClass (top 16) 3
abbrev s_Forest_flags : Stmt := inClass (top 16) 4
abbrev s_Forest_parents : Stmt := inClass (top 16) 5
abbrev s_Forest_text : Stmt := inClass (top 16) 6
abbrev s_Forest_children : Stmt := inClass (top 16) 7
abbrev s_Forest_path : Stmt := inClass (top 16) 8
abbrev s_Forest_under : Stmt := inClass (top 16) 9
abbrev s_Forest_distance : Stmt := inClass (top 16) 10
abbrev s_Forest_walk : Stmt := inClass (top 16) 11
abbrev s_Forest_parse : Stmt := inClass (top 16) 12
abbrev s_walked : Stmt := top 17
abbrev s_path_in : Stmt := top 18
abbrev s_places_of : Stmt := top 19
abbrev s_need_place : Stmt := top 20
abbrev s_need_flag : Stmt := top 21
abbrev s_is_integer : Stmt := top 24
abbrev s_need_users : Stmt := top 25
abbrev s_need_feasible : Stmt := top 26
abbrev s_residents_of : Stmt := top 27
abbrev s_sizes_of : Stmt := top 29
abbrev s_Assignment___init__ : Stmt := inClass (top 30) 1
abbrev s_Assignment___eq__ : Stmt := inClass (top 30) 2
abbrev s_Assignment_forest : Stmt := inClass (top 30) 3
abbrev s_Assignment_places : Stmt := inClass (top 30) 4
abbrev s_Assignment_total : Stmt := inClass (top 30) 5
abbrev s_Assignment_sizes : Stmt := inClass (top 30) 6
abbrev s_Assignment_flags_of : Stmt := inClass (top 30) 7
abbrev s_Assignment_has : Stmt := inClass (top 30) 8
abbrev s_Assignment_users_of : Stmt := inClass (top 30) 9
abbrev s_Assignment_at : Stmt := inClass (top 30) 10
abbrev s_Assignment_moved : Stmt := inClass (top 30) 11
abbrev s_Assignment_empty : Stmt := inClass (top 30) 12
abbrev s_need_user : Stmt := top 31
abbrev s_has_two_chains : Stmt := top 33
abbrev s_is_memoryless : Stmt := top 34
abbrev s_fixed : Stmt := top 35
abbrev s_witness : Stmt := top 36
abbrev s__law_begin : Stmt := top 38
abbrev s__law_mixed : Stmt := top 39
abbrev s__law_take : Stmt := top 40
abbrev s__law_pick : Stmt := top 41
abbrev s__law_forest : Stmt := top 42
abbrev s__law_sizes : Stmt := top 43
abbrev s__law_fits : Stmt := top 44
abbrev s__law_path : Stmt := top 45
abbrev s__law_counted : Stmt := top 46
abbrev s__law_all_sizes : Stmt := top 47
abbrev s__law_all_places : Stmt := top 48
abbrev s__law_held : Stmt := top 49
abbrev s__law_are_best : Stmt := top 50
abbrev s__law_fixed_right : Stmt := top 51
abbrev s__law_witness_right : Stmt := top 52
abbrev s__law_flipped : Stmt := top 53
abbrev s_law : Stmt := top 54
end FT


/-! Own: an exception class over ValueError called with one keyword, `C(name=value)`. The library's lemmas (HandSPX.call_own) say it for calls without keywords; these say it for one keyword. -/
namespace FX
open PySem PySem.W PySem.Calls PyProof.Rows PySem.HandSPX
section
variable {Mo : Model} {Ar : Around} {Er : Value → Shared → Prop} {he : Heap} {ge : Array GenState} {dr : Drawn} {tk : Nat} {os : OsState}
variable {nm qn : Str} {C N : Addr} {bs bm bmB : List Value} {hdct : Bool} {sn : List Str} {sub : List Value} {ab : Bool} {col : Option Bool} {dd : Option Addr} {k0 k1 k2 k3 k5 : Option Value} {B idN idI : String}
variable {kn : Str} {kv : Value} {more : List Value}
/-- the class object of an exception class, short -/
abbrev XO (nm qn : Str) (C N : Addr) (bs bm : List Value) (hdct : Bool) (sn : List Str) (sub : List Value) (ab : Bool) (col : Option Bool) (dd : Option Addr) (k0 k1 k2 k3 k5 : Option Value) (idN : String) : Obj :=
  excClassObj nm qn C N bs bm hdct sn sub ab col dd k0 k1 k2 k3 k5 idN
abbrev SameTy (bm bmB : List Value) : Prop := ∀ T : String, bm.contains (.type T) = bmB.contains (.type T)
end
section
variable {pg : Program} {w : World} {Ar : Around} {Er : Value → Shared → Prop} {Rs : Result → Shared → Prop} {he : Heap} {ge : Array GenState} {dr : Drawn} {tk : Nat} {os : OsState}
variable {nm qn : Str} {C N fI : Addr} {bs bm bmB : List Value} {hdct : Bool} {sn : List Str} {sub : List Value} {ab : Bool} {col : Option Bool} {dd : Option Addr} {k0 k1 k2 k3 k5 : Option Value} {B idN idI : String}
variable {kn : Str} {kv : Value} {more : List Value}
/-- the heap with the new exception -/
abbrev withX (he : Heap) (C : Addr) (more : List Value) : Heap := (he.push (W.kdv_tup more)).push (excO C he.objs.size)
end
end FX


namespace L2
open PySem PySem.Spec PyProof.Rows
/-- what the written part says of an own exception class over ValueError -/
structure XCls (K : PySem.W.Frag) (C : Addr) : Prop where
  cls : ∃ nm q N bs bm sn sub ab col dd k0 k1 k2 k3 k5, K.lookup C = some (excClassObj nm q C N bs bm true sn sub ab col dd k0 k1 k2 k3 k5 "ValueError.__new__") ∧ PySem.HandSPX.refsVE bm = true
  sa : PySem.W.findIn K (.ref C) "__setattr__" = some (some (.builtin "object.__setattr__"))
  exC : PySem.W.subIn K (.ref C) (.type "BaseException") = some true
  tyC : PySem.W.typeIn K (.ref C) = some (.type "type")
  kC : PySem.W.keepIn K (.ref C) = true
  ga : PySem.W.findIn K (.ref C) "__getattribute__" = some (some (.builtin "BaseException.__getattribute__"))
  gg : PySem.W.findIn K (.ref C) "__getattr__" = some none
  hdC : PySem.W.hasDictIn K C = true
  ha : PySem.W.findIn K (.ref C) "__class__" = some (some (.builtin "object.__class__"))
  hn : PySem.W.specialIn K (.builtin "object.__class__") "__get__" = some (some (.builtin "getset_descriptor.__get__"))
  ht : PySem.W.takesIn K (.builtin "object.__class__") = some true
  hm : PySem.W.mroIn K C (.type "object") = some true
theorem XCls.oex {K : PySem.W.Frag} {C : Addr} (c : XCls K C) : OexC K C := ⟨c.cls, c.sa, c.exC, c.tyC, c.kC⟩
/-- an exception object at a, by class and dict, its fields not told -/
def exg (a C : Addr) (d : Option Addr) : HO := .ext fun h => ∃ vs sl, h.get? a = some ({ cls := .ref C, dict := d, data := .fields vs, slots := sl } : Obj)
def XAt (H : Hp) (a C : Addr) (d : Option Addr) : Prop := H a = some (exo a C d) ∨ H a = some (exg a C d)
theorem XAt.obj {P : Program} {w : World} {H : Hp} {h : Heap} {a C : Addr} {d : Option Addr} (x : XAt H a C d) (hok : HOk P w H h) : ∃ ox vs, h.get? a = some ox ∧ ox.cls = .ref C ∧ ox.dict = d ∧ ox.data = .fields vs := by
  rcases x with e | e
  · obtain ⟨t1, q⟩ := exo_at hok e
    exact ⟨_, _, q, rfl, rfl, rfl⟩
  · have z : ObjOk P w H h a (.ext fun h => ∃ vs sl, h.get? a = some ({ cls := .ref C, dict := d, data := .fields vs, slots := sl } : Obj)) := hok a _ e
    obtain ⟨⟨vs, sl, q⟩, _⟩ := z
    exact ⟨_, vs, q, rfl, rfl, rfl⟩
def XD (H : Hp) (dx : Addr) (fs : List (Str × V)) : Prop := H dx = some (exd dx fs) ∨ H dx = some (.xd fs)
theorem XD.at {P : Program} {w : World} {H : Hp} {h : Heap} {dx : Addr} {fs : List (Str × V)} (x : XD H dx fs) (hok : HOk P w H h) : ∃ mA, h.Ns1 dx mA ∧ ∀ f, RelO (fs.lookup f) (mA f) := by
  rcases x with e | e
  · exact exd_at hok e
  · have z : ObjOk P w H h dx (.xd fs) := hok dx _ e
    exact z
/-- an exception of the class at C stands at a; its attributes are fs -/
def XV (H : Hp) (a C : Addr) (fs : List (Str × V)) : Prop := (XAt H a C none ∧ fs = []) ∨ ∃ dx, XAt H a C (some dx) ∧ XD H dx fs
theorem XV.look {P : Program} {w : World} {H : Hp} {h : Heap} {a C : Addr} {fs : List (Str × V)} {f : Str} {v : V} (x : XV H a C fs) (hok : HOk P w H h) (hl : fs.lookup f = some v) :
    ∃ ox od u, PySem.W.InstAt h a ox C (some od) ∧ PySem.W.lookIn f od = some (some u) ∧ RelV v u := by
  rcases x with ⟨_, e⟩ | ⟨dx, x, y⟩
  · rw [e] at hl
    cases hl
  · obtain ⟨ox, vs, e1, e2, e3, e4⟩ := x.obj hok
    obtain ⟨mA, hn, hr⟩ := y.at hok
    obtain ⟨od, ho, hk⟩ := lookIn_ns hn
    obtain ⟨u, hu, ru⟩ := RelO.some_of (v := v) (o := mA f) (by rw [← hl]; exact hr f)
    exact ⟨ox, od, u, ⟨e1, e2, by unfold PySem.W.notCls; rw [e4] <;> rfl, by rw [e3]; exact ho⟩, by rw [hk, hu], ru⟩

section
variable {X : Cx}
/-- isinstance(e, c), e an exception of an own class -/
def rIsX (K : PySem.W.Frag) : List V → Hp → VK → Prop := fun xs H Q => ∃ (a C : Addr) (fs : List (Str × V)) (c : V) (u : Value) (b : Bool), xs = [.ref a, c] ∧ ClsV c u ∧ XCls K C ∧ XV H a C fs ∧ PySem.W.kitOne K (.ref C) u = some b ∧ Q (.bl b) H
/-- e.f -/
def tXFld (K : PySem.W.Frag) (te : TE) (f : Str) : TE := fun σ H Q => te σ H fun x H1 => ∃ (a C : Addr) (fs : List (Str × V)) (v : V), x = .ref a ∧ XV H1 a C fs ∧ XCls K C ∧ PySem.W.findIn K (.ref C) f = some none ∧ fs.lookup f = some v ∧ Q v H1
/-- R.__init__(self, ..), R an own class whose __init__ is ValueError's -/
structure XIni (K : PySem.W.Frag) (R : Addr) : Prop where
  rd : PySem.W.readsIn K R (.type "type") = true
  ga : PySem.W.specialIn K (.ref R) "__getattribute__" = some (some (.builtin "type.__getattribute__"))
  at_ : PySem.W.findCls K (.ref R) (.type "type") "__init__" = some (.val (.builtin "ValueError.__init__"))
theorem pe_clsinit {R : Addr} {rn : Str} {e : Expr} {es : List Expr} {ta : TA} {p1 p2 pos : Pos} {pl : Sem Bool} (T0 : XIni X.K R) (hg : Gl X rn) (hm : X.mg rn = some (.ref R)) (ha : PA X (e :: es) ta)
    (hdb : (rn == ("__debug__" : Str)) = false := by decide)
    (hc : eval (.Call (.Attribute (.Name rn p1) "__init__" p2) (e :: es) [] pos) X.env = (do
      let ov ← eval (.Name rn p1) X.env
      standAt p2.atName
      let (f, first) ← holding [ov] (getMethod ov "__init__" pl)
      callWith pos f first (backTo pos (starEach (e :: es) X.env)) (backToKw pos (keywordEach [] X.env))) := by rfl)
    (he : starEach (e :: es) X.env = (false, eval e X.env) :: starEach es X.env := by rfl) (hpl : (backTo pos (starEach es X.env)).any (·.1) = false := by rfl) :
    PE X (.Call (.Attribute (.Name rn p1) "__init__" p2) (e :: es) [] pos) (tVeI X.K ta) := by
  refine ⟨fun pins s σ H Q I h => ?_⟩
  refine PySem.W.methodCall_KW (ld_glob I hg hm ?_ hdb) hc
  refine PySem.W.method_cls I.kIn T0.ga (PySem.W.cls_value I.kIn T0.rd T0.at_ rfl ?_)
  show wpAny _ _ (callWith pos (Value.builtin "ValueError.__init__") [] (backTo pos (starEach (e :: es) X.env)) []) _ _ _
  refine PyProof.Rows.callWith_method1 (thn (ha.run pos pins _ σ H _ (I.tok _) h) fun us s1 ⟨vs, H1, I1, r1, a, C, ws, ev, hl, T, ea, q⟩ => ?_) he hpl
  subst ev
  cases r1 with
  | @cons _ u0 _ ur ra rw' =>
    obtain rfl : u0 = Value.ref a := ra
    have hlen : ur.length ≤ sizeLine := by
      rw [← Paired.length rw', sizeLine_eq]
      omega
    exact oinit_ok T I1 ea hlen fun s' J => ⟨.non, H1, J, rfl, q⟩

/-! ### C(..) as a value -/
variable {CX : CXT} {C fI : Addr} {k : Nat} {fd : FuncData} {ps : List Str} {sp : Sp} {ds : List Value} {dvs : List V} {E : XK}
/-- the state with a new exception of C laid, its arguments at the heap's end -/
theorem Inv.xnew {pins : List (Addr × Obj)} {σ : St} {H : Hp} {hp : Heap} {gn : Array GenState} {dr : Drawn} {tk : Nat} {os : OsState} (C : Addr) (us : List Value) (I : Inv X pins σ H ⟨hp, gn, dr, tk, os⟩) :
    H (hp.objs.size + 1) = none ∧ Inv X pins σ (upd H (hp.objs.size + 1) (exo (hp.objs.size + 1) C none)) ⟨FX.withX hp C us, gn, dr, tk, os⟩ := by
  have le : hp.objs.size ≤ hp.objs.size + 1 := Nat.le_succ _
  have at_ : (FX.withX hp C us).get? (hp.objs.size + 1) = some (PySem.HandSPX.excO C hp.objs.size) := by heap_get
  exact ⟨I.hok.fresh le, I.laid (t' := tk) (h' := FX.withX hp C us) (fun _ _ z => Heap.get?_push_of_some _ (Heap.get?_push_of_some _ z)) le (exo_ok at_)⟩
/-- C(e, ..) as a value; C's own __init__ keeps sp -/
def tMkX (C : Addr) (sp : Sp) (dvs : List V) (E : XK) (ta : TA) : TE := fun σ H Q => ta σ H fun vs H1 => vs.length ≤ 1000 ∧ ∀ a, H1 a = none → sp (.ref a :: (vs ++ dvs)) (upd H1 a (exo a C none)) (fun v H2 => v = .non ∧ Q (.ref a) H2) E
def tMkXK (C : Addr) (sp : Sp) (gV : List V → List V → List V) (E : XK) (te : TE) : TE := fun σ H Q => te σ H fun v H1 => ∀ a, H1 a = none → sp (gV [.ref a] [v]) (upd H1 a (exo a C none)) (fun v H2 => v = .non ∧ Q (.ref a) H2) E
variable {x : Str} {e : Expr} {es : List Expr} {ta : TA} {te : TE} {p pos kpos : Pos}
end
end L2


/-! y = {k: v for ..}, y a local; an expression whose answer is locked -/
namespace L2
open PySem PySem.Spec PyProof.Rows
section
variable {X : Cx} {i : Nat} {y : Str} {py : Pos} {kx vx tg iter : Expr} {ifs : List Expr} {scope : Scope} {own : List (Str × Nat)} {pos spos : Pos} {wi : TI} {g : TG} {tt : TT} {tk tv : TE}
theorem swd_true {gs : List Comprehension} {l : Nat} {env : Env} (kind : env.scope.kind = .function) (loc : env.scope.names.lookup y = some .local) (line : (py.line == pos.line) = true) (ap : (scope.names.any fun (n, k) => n == y && (k == .local || k == .cell)) = false) :
    swapsWith (.DictComp kx vx gs scope pos) (some (.Name y py)) l env = pure true := by
  have h1 : env.kindOf y = some .local := loc
  have h2 : env.blockKind = .function := by unfold Env.blockKind; rw [kind] <;> rfl
  unfold swapsWith
  simp only [h2, h1, ap, Expr.pos, line]
  rfl
theorem ps_setDc (hc : X.calm = true) (nd : X.N.Nodup) (hy : X.N[i]? = some y) (loc : X.env.scope.names.lookup y = some .local) (sw : swapsWith (.DictComp kx vx [⟨tg, iter, ifs, 0⟩] scope pos) (some (.Name y py)) spos.line X.env = pure true) (hi : PI X tg iter wi) (ok : BlkOk X.N X.env.scope scope own)
    (hg : ∀ (s : Shared) (H : Hp) (C : Addr) (cl : List (Str × Addr)) (fp : List Addr), PG (X.blk s H scope (compEnvC scope cl C X.env) fp) tg g) (ht : ∀ (s : Shared) (H : Hp) (C : Addr) (cl : List (Str × Addr)) (fp : List Addr), PTs (X.blk s H scope (compEnvC scope cl C X.env) fp) ifs tt)
    (hk : ∀ (s : Shared) (H : Hp) (C : Addr) (cl : List (Str × Addr)) (fp : List Addr), PE (X.blk s H scope (compEnvC scope cl C X.env) fp) kx tk)
    (hv : ∀ (s : Shared) (H : Hp) (C : Addr) (cl : List (Str × Addr)) (fp : List Addr), PE (X.blk s H scope (compEnvC scope cl C X.env) fp) vx tv) (hs : ∀ x, foldedSetIterable iter X.env x = pure x := by intro _; rfl) :
    PS X (.Assign [.Name y py] (.DictComp kx vx [⟨tg, iter, ifs, 0⟩] scope pos) spos) (tAsg (tDc wi g tt tk tv (own.map (·.2))) (gName i)) := by
  constructor
  intro pins s σ H D I h
  have want : tDc wi g tt tk tv (own.map (·.2)) σ H (fun x H1 => gName i x σ H1 D.nx) := h
  rw [exec_Assign_Name_used _ _ _ _ sw]
  refine wpAny_bind (wpAny_standAt (wpAny_bind ?_))
  show wpAny _ X.A (do let _ ← comprehension (.DictComp kx vx [⟨tg, iter, ifs, 0⟩] scope pos) scope X.env (firstIterPos [⟨tg, iter, ifs, 0⟩] pos) newDict false (eval iter X.env) (some (assign (.Name y py) X.env))) _ _ s
  refine wpAny_bind (thn (dc_core (Qf := fun _ s' => SP X pins D .next s') hc nd I hi ok hg ht hk hv hs want fun L C s' m H' J q hn f => ?_) fun _ _ z => wpAny_pure (wpAny_pure z))
  show wpAny _ _ (assign (.Name y py) X.env (.ref L)) _ _ _
  refine wpAny_assign_Name (store_ok2 (v := V.ref L) J nd hy (.inl loc) rfl (fun s2 J2 ⟨a, sb, ha⟩ => ?_) (.inr loc))
  obtain ⟨z0, z1, z2, z3, z4, z5⟩ := f
  have off : C ≠ a := ha.elim (fun e => e ▸ z1) fun e => (z4 y a e).symm
  exact ⟨m, hn.sameBut sb off, fun h3 sb3 => ⟨_, H', J2.turned (t' := s2.toks) (fun b o hb e => (sb3.2 b hb).trans e) z0 z1 z3 z4 z5, q⟩⟩
/-- e, its answer locked from then on -/
def tLk (te : TE) : TE := fun σ H Q => te σ H fun x H1 => ∃ d u, x = .ref d ∧ H1 d = some u ∧ Mut (some u) ∧ ∀ od, Q (.ref d) (upd H1 d (.frz od u))
end
end L2


/-! try: .. except C as n: .., the caught exception known behind the try -/
namespace L2
open PySem PySem.Spec PyProof.Rows
section
variable {X : Cx} {pins : List (Addr × Obj)} {σ : St} {H : Hp} {s : Shared}
/-- an object that stands there is known from now on; the entry had none at its place -/
theorem Inv.known {a : Addr} {o : HO} (I : Inv X pins σ H s) (hn : H a = none) (h0 : X.s_0.heap.get? a = none) (hL : a ≠ X.env.locals) (h2 : ∀ x c, X.env.cells.lookup x = some c → c ≠ a) (h3 : ∀ p ∈ X.pn ++ pins, p.1 ≠ a)
    (new : ObjOk X.prog X.w (upd H a o) s.heap a o) : Inv X pins σ (upd H a o) s := by
  have nit : ∀ b u, H b = some u → b ≠ a := fun b u e z => by rw [z, hn] at e; cases e
  refine ⟨I.ok, I.os, I.bare, ⟨I.base.keep, I.base.slot, fun b o e n hx => ?_, I.base.there, fun b xs e => ?_, fun b o xs e => ?_, fun b ps e => ?_⟩, I.loc, I.cell, ?_, fun x c e => ?_, fun p hp => ?_, fun b u e => ?_, I.len⟩
  · rw [upd_ne (fun z => by rw [z, h0] at e; cases e)]
    exact I.base.free b o e n hx
  · have q := I.base.tups b xs e
    rw [upd_ne (nit b _ q)]
    exact q
  · have q := I.base.frzs b o xs e
    rw [upd_ne (nit b _ q)]
    exact q
  · obtain ⟨m, q⟩ := I.base.tbls b ps e
    exact ⟨m, by rw [upd_ne (nit b _ q)]; exact q⟩
  · rw [upd_ne (Ne.symm hL)]
    exact I.free
  · rw [upd_ne (h2 x c e)]
    exact I.freeC x c e
  · obtain ⟨e, n, r⟩ := I.pin p hp
    exact ⟨e, by rw [upd_ne (h3 p hp)]; exact n, r⟩
  · by_cases hb : b = a
    · subst hb
      rw [upd_same] at e
      cases e
      exact new
    · rw [upd_ne hb] at e
      exact (I.hok b u e).stay (fun c v hc q => q) (fun c q => by rw [upd_ne (nit c _ q)]; exact q) fun c _ q => by rw [upd_ne (nit c _ q)]; exact q
end
/-- what a landed exception is: its object, where it does not lie -/
structure Landed (X : Cx) (pins : List (Addr × Obj)) (σ : St) (H : Hp) (a C : Addr) (d : Option Addr) (h : Heap) (s : Shared) : Prop where
  inv : Inv X pins σ H { s with heap := h }
  obj : ∃ vs sl, h.get? a = some ({ cls := .ref C, dict := d, data := .fields vs, slots := sl } : Obj)
  free : H a = none
  entry : X.s_0.heap.get? a = none
  loc : a ≠ X.env.locals
  fs : a ∉ X.fs
  pin : ∀ p ∈ X.pn ++ pins, p.1 ≠ a
theorem Landed.of {X : Cx} {pins : List (Addr × Obj)} {σ : St} {H : Hp} {a C : Addr} {d : Option Addr} {h B : Heap} {s sI : Shared} (hs : X.stack = X.env :: X.outer) (hf : X.env.frame = some X.env.locals) (hex : X.ex = []) (J : Inv X pins σ H sI) (na : H a = none)
    (nb : ∀ b o, sI.heap.get? b = some o → b ∉ frs X.stack → B.get? b = some o) (hB : B.get? a = none) (ff : h.FunFrames B (X.env :: X.outer)) (there : ∃ oe vs, h.get? a = some oe ∧ Zc (.ref C) d oe ∧ oe.data = .fields vs) (K : Inv X pins σ H { s with heap := h }) : Landed X pins σ H a C d h s := by
  obtain ⟨⟨oc, od, odt, osl⟩, ws, at_, ⟨z1, z2⟩, z3⟩ := there
  have off : a ∉ frs (X.env :: X.outer) := fun hm => by
    obtain ⟨_, u, hu, plain⟩ := ff.mem hm
    rw [at_] at hu
    exact plain ws (by rw [← Option.some.inj hu]; exact z3)
  have out : sI.heap.get? a = none := by
    cases q : sI.heap.get? a with
    | none => rfl
    | some o => exact absurd (nb a o q (by rw [hs]; exact off)) (by rw [hB]; simp)
  refine ⟨K, ⟨ws, osl, ?_⟩, na, ?_, fun z => off (List.mem_filterMap.mpr ⟨X.env, .head _, by rw [hf, z]⟩), fun hm => ?_, fun p hp z => ?_⟩
  · dsimp only at z1 z2 z3
    rw [at_, z1, z2, z3]
  · cases q : X.s_0.heap.get? a with
    | none => rfl
    | some o =>
      obtain ⟨_, q2⟩ := J.base.there a o q (by rw [hex]; simp)
      rw [out] at q2
      cases q2
  · obtain ⟨e, m, q⟩ := List.mem_filterMap.mp hm
    exact off (List.mem_filterMap.mpr ⟨e, .tail _ m, q⟩)
  · have q := (J.pin p hp).1
    rw [z, out] at q
    cases q
/-- what is wanted of an exception in the try: as wAs, but behind the suite the exception is known -/
def wAsK (K : PySem.W.Frag) (c : Value) (i : Nat) (ts : Addr → Value → Option Addr → TS) (Wout : WX) (D : Ends) : WX := fun cls d σ H => ∃ b C, cls = Value.ref C ∧ PySem.W.exmOne K cls c = some b ∧
  (b = true → ∀ a, H a = none → ts a cls d ⟨fun σ' H' => D.nx (σ'.set i none) (upd H' a (exg a C d)), D.rt, fun σ' H' => D.bk (σ'.set i none) H', fun σ' H' => D.ct (σ'.set i none) H'⟩ (σ.set i (some (.ref a))) H) ∧ (b = false → Wout cls d σ H)
section
variable {X : Cx} {x n : Str} {c : Value} {i : Nat} {body suite : List Stmt} {st : Stmt} {np pos hpos : Pos} {tb : WX → TS} {ts : Addr → Value → Option Addr → TS} {Wout : WX}
end
end L2


/-! raise C(..) where C's own __init__ writes no attribute -/
namespace L2
open PySem PySem.Spec PyProof.Rows
section
variable {X : Cx} {o e : Expr} {es : List Expr} {to te : TE} {ta : TA} {f : Str} {p p' p1 p2 pos : Pos}
/-- C(e, ..), C's own __init__ keeping sp; no attribute is written -/
def tMkO0 (C : Addr) (sp : Sp) (dvs : List V) (ta : TA) : St → Hp → XK → Prop := fun σ H Q => ta σ H fun vs H1 => vs.length ≤ 1000 ∧ ∀ a, H1 a = none → sp (.ref a :: (vs ++ dvs)) (upd H1 a (exo a C none))
  (fun v H2 => v = .non ∧ H2 a = some (exo a C none) ∧ Q (.ref C) none (del H2 a)) (fun _ _ _ => False)
/-- the new exception is let go -/
theorem mk_gone {pins : List (Addr × Obj)} {σ : St} {H1 H2 : Hp} {hp hp2 h2 : Heap} {g1 g2 : Array GenState} {d1 d2 : Drawn} {t1 t2 : Nat} {os1 os2 : OsState} {a C : Addr} (I1 : Inv X pins σ H1 ⟨hp, g1, d1, t1, os1⟩) (young : hp.objs.size ≤ a)
    (k : ∀ b o, hp.get? b = some o → hp2.get? b = some o) (un : Un (frs X.stack) [] (upd H1 a (exo a C none)) H2 hp2 h2) (hok : HOk X.prog X.w H2 h2) (ho : os2 = os1) (hb : AllBare g2) (ea : H2 a = some (exo a C none)) :
    ∃ (t0 : Addr) (G : Heap), Inv X pins σ (del H2 a) ⟨G, g2, d2, t2, os2⟩ ∧ (∀ b o, G.get? b = some o → h2.get? b = some o) ∧ G.get? a = none ∧ h2.get? a = some ({ cls := .ref C, dict := none, data := .fields #[.ref t0, .none, .none, .none, .bool false, .none] } : Obj) ∧ del H2 a a = none := by
  obtain ⟨t0, at2⟩ := exo_at hok ea
  have n1 : H1 a = none := I1.hok.fresh young
  obtain ⟨G, in_, out⟩ := restrict h2 fun b => decide (b ≠ a)
  have other : ∀ b, b ≠ a → G.get? b = h2.get? b := fun b nb => in_ b (decide_eq_true nb)
  have gone : G.get? a = none := out a (by simp)
  have old : ∀ {b : Addr} {o : Obj}, hp.get? b = some o → b ≠ a := fun z => Nat.ne_of_lt (Nat.lt_of_lt_of_le (Heap.lt_size z) young)
  have low : ∀ {b : Addr}, b ≠ a → H1 b = none → upd H1 a (exo a C none) b = none := fun nb n => (upd_ne nb).trans n
  have high : ∀ {b : Addr} {u : HO}, H1 b = some u → upd H1 a (exo a C none) b = some u ∧ b ≠ a := fun z => ⟨(upd_ne (ne_of_none z n1)).trans z, ne_of_none z n1⟩
  have U : Un (frs X.stack) [] H1 (del H2 a) hp G := by
    refine ⟨fun b o z n hf hx => (other b (old z)).trans (un.keep b o (k b o z) (low (old z) n) hf hx), fun b o z n hf hx => ?_, fun b o z n hx => (del_ne (old z)).trans (un.free b o (k b o z) (low (old z) n) hx), fun b o z hx => ?_, fun b xs z => (del_ne (high z).2).trans (un.tups b xs (high z).1),
      fun b o v z => (del_ne (high z).2).trans (un.frzs b o v (high z).1), fun b ps z => ?_⟩
    · obtain ⟨sl, q⟩ := un.slot b o (k b o z) (low (old z) n) hf hx
      exact ⟨sl, (other b (old z)).trans q⟩
    · obtain ⟨o', q⟩ := un.there b o (k b o z) hx
      exact ⟨o', (other b (old z)).trans q⟩
    · obtain ⟨m, q⟩ := un.tbls b ps (high z).1
      exact ⟨m, (del_ne (high z).2).trans q⟩
  have held : HOk X.prog X.w (del H2 a) G := fun b o z => by
    have nb : b ≠ a := fun e => by
      rw [e, del_same] at z
      cases z
    rw [del_ne nb] at z
    refine (hok b o z).stay (fun c v hc y => ?_) (fun c hc => (del_ne (at_ne ea hc exo_own)).trans hc) fun c xs hc => (del_ne (at_ne ea hc exo_tup)).trans hc
    refine (other c ?_).trans y
    rcases hc with rfl | hc
    · exact nb
    · exact at_ne ea hc exo_own
  refine ⟨t0, G, I1.call' (ch := []) ho U held hb (fun b z => absurd z (by simp)), fun b o z => ?_, gone, at2, del_same⟩
  by_cases nb : b = a
  · rw [nb, gone] at z
    cases z
  · exact (other b nb).symm.trans z
variable {CX : CXT} {x : Str} {C fI : Addr} {k : Nat} {fd : FuncData} {ps : List Str} {sp : Sp} {ds : List Value} {dvs : List V}
theorem run_mk0 {pins : List (Addr × Obj)} {σ : St} {H1 : Hp} {s : Shared} {Q : XK} {us : List Value} {vs : List V} (T : OexC X.K C) (iC : PySem.W.findIn X.K (.ref C) "__init__" = some (some (.ref fI))) (tI : PySem.W.typeIn X.K (.ref fI) = some (.type "function"))
    (F1 : FnOk X.prog X.w X.K X.mg X.base CX k fI fd ps sp) (hr : Room (k + 1) X.A) (hb : Binds X.K fd ps ds) (hd : Vals dvs ds) (hx : Passes CX X (fun _ _ _ => False)) (I1 : Inv X pins σ H1 s) (r1 : Vals vs us) (hz : vs.length ≤ 1000)
    (q1 : ∀ a, H1 a = none → sp (.ref a :: (vs ++ dvs)) (upd H1 a (exo a C none)) (fun v H2 => v = .non ∧ H2 a = some (exo a C none) ∧ Q (.ref C) none (del H2 a)) (fun _ _ _ => False)) :
    wpAny (model X.prog X.w) X.A (call (.ref C) us) (MkP X pins σ Q) X.xe s := by
  obtain ⟨_, _, _, _, bm, _, _, _, _, _, _, _, _, _, _, oC, tail⟩ := T.cls
  obtain ⟨hp, gn, dr, tk, os⟩ := s
  obtain ⟨new, J⟩ := Inv.xnew C us I1
  have want := q1 _ new
  have rel : Vals (V.ref (hp.objs.size + 1) :: (vs ++ dvs)) (Value.ref (hp.objs.size + 1) :: (us ++ ds)) := .cons rfl (r1.append hd)
  have len : (Value.ref (hp.objs.size + 1) :: us ++ ds).length = ps.length := rel.length.symm.trans (F1.len _ _ _ _ want)
  have few : us.length ≤ sizeLine := by
    have := r1.length
    rw [sizeLine_eq]; omega
  have go := F1.run _ X.stack _ _ ⟨Value.ref (hp.objs.size + 1) :: us, []⟩ (Value.ref (hp.objs.size + 1) :: (us ++ ds)) _ _ (fun _ _ _ => False) (hr.make C us []) (J.env0.make C us []) (hb _ (Value.ref (hp.objs.size + 1) :: us) J.kIn len) rel want
  refine wpAny_call (PySem.HandSPX.call_own F.excBase_ValueError (fun Y => PySem.HandSPX.refsVE_contains Y bm tail) (I1.kIn _ _ oC) (PySem.W.looks_findIn I1.kIn iC) (fun me => PySem.W.bind_fn I1.kIn me tI) few (codeAny_mono go fun r z q => ?_))
  match r, q with
  | .error er, q => exact hx pins σ _ _ er z J q
  | .ok (.ret u), q =>
    obtain ⟨v, H2, os2, bare2, un2, hok2, rv, ev, ea, q2⟩ := q
    subst ev
    obtain ⟨h2, g2, d2, t2, os'⟩ := z
    have up : ∀ b o, hp.get? b = some o → (FX.withX hp C us).get? b = some o := fun b o e => Heap.get?_push_of_some _ (Heap.get?_push_of_some _ e)
    obtain ⟨t0, G, JG, kG, gG, oG, nG⟩ := mk_gone (d2 := d2) (t2 := t2) I1 (Nat.le_succ _) up un2 hok2 os2 bare2 ea
    exact ⟨rv, _, _, _, ⟨G, g2, d2, t2, os'⟩, _, .ref C, none, rfl, JG, kG, gG, oG, ⟨rfl, rfl⟩, rfl, rfl, nG, rfl, bare2, raises_own T.exC T.tyC, q2⟩
  | .ok .next, q => exact q.elim
  | .ok .brk, q => exact q.elim
  | .ok .cont, q => exact q.elim
/-- C() -/
theorem pmk_none (T : OexC X.K C) (iC : PySem.W.findIn X.K (.ref C) "__init__" = some (some (.ref fI))) (tI : PySem.W.typeIn X.K (.ref fI) = some (.type "function"))
    (F1 : FnOk X.prog X.w X.K X.mg X.base CX k fI fd ps sp) (hr : Room (k + 1) X.A) (hb : Binds X.K fd ps ds) (hd : Vals dvs ds) (hx : Passes CX X (fun _ _ _ => False)) (hg : Gl X x) (hm : X.mg x = some (.ref C)) (hdb : (x == ("__debug__" : Str)) = false := by decide) :
    PMk X (.Call (.Name x p) [] [] pos) (tMkO0 C sp dvs tNil) := by
  intro pins s σ H Q I h
  refine wpAny_Call_Name_kw (ld_glob I hg hm ?_ hdb)
  exact PySem.W.callWith_K0 I.kIn T.kC (run_mk0 (us := []) T iC tI F1 hr hb hd hx I .nil h.1 h.2)
end
end L2


/-! sorted(a dict of texts, key=a lambda of one parameter that gives (int, text)) -/
namespace SrtKy
open PySem PyProof.Rows Srt SrtO
/-- a tuple of a number and a text -/
def IsIS (h : Heap) (v : Value) (x : Int) (z : Str) : Prop := ∃ a o t u n, v = .ref a ∧ h.get? a = some o ∧ o.cls = .type "tuple" ∧ o.data = .seq #[.int x t, .str z u] n
theorem IsIS.keeps {h h' : Heap} {v : Value} {x : Int} {z : Str} (p : IsIS h v x z) (k : ∀ b o, h.get? b = some o → o.cls = .type "tuple" → h'.get? b = some o) : IsIS h' v x z := by
  obtain ⟨a, o, t, u, n, e, ho, hc, hd⟩ := p
  exact ⟨a, o, t, u, n, e, k _ _ ho hc, hc, hd⟩
def isLt (p q : Int × Str) : Bool := if p.1 = q.1 then decide (p.2.cps.toList < q.2.cps.toList) else decide (p.1 < q.1)
section
variable {prog : Program} {w : World} {s : Shared} {A : Around} {E : Value → Shared → Prop}
end
end SrtKy


namespace L2
open PySem PySem.Spec PyProof.Rows
section
variable {X : Cx} {pins : List (Addr × Obj)} {σ : St} {H : Hp} {s : Shared} {h' : Heap}
end
/-- what the keys of the first items are -/
def KysAt (H : Hp) (key : V → Int × Str) (xs : List V) (kA : List Value) : Prop := ∀ (j : Nat) (kv : Value), kA[j]? = some kv → ∃ (t : Addr) (x : V), kv = Value.ref t ∧ xs[j]? = some x ∧ H t = some (.tup [.int (key x).1, .str (key x).2])
theorem KysAt.up {H H' : Hp} {key : V → Int × Str} {xs : List V} {kA : List Value} (h : KysAt H key xs kA) (t : ∀ b ys, H b = some (.tup ys) → H' b = some (.tup ys)) : KysAt H' key xs kA := fun j kv e => by
  obtain ⟨a, x, e1, e2, e3⟩ := h j kv e
  exact ⟨a, x, e1, e2, t _ _ e3⟩
theorem KysAt.snoc {H : Hp} {key : V → Int × Str} {xs : List V} {kA : List Value} {t : Addr} {x : V} (h : KysAt H key xs kA) (hx : xs[kA.length]? = some x) (ht : H t = some (.tup [.int (key x).1, .str (key x).2])) : KysAt H key xs (kA ++ [.ref t]) := fun j kv e => by
  by_cases hj : j < kA.length
  · rw [List.getElem?_append_left hj] at e
    exact h j kv e
  · rw [List.getElem?_append_right (by omega)] at e
    have h0 : j - kA.length = 0 := by
      have := (List.getElem?_eq_some_iff.mp e).1
      rw [List.length_singleton] at this
      omega
    rw [h0] at e
    have e' : Value.ref t = kv := Option.some.inj e
    have : j = kA.length := by omega
    subst this
    exact ⟨t, x, e'.symm, hx, ht⟩
/-- the key that stands at an address -/
def keyOfL (H : Hp) : Value → Int × Str
  | .ref t => match H t with
    | some (.tup [.int n, .str z]) => (n, z)
    | _ => (0, "")
  | _ => (0, "")
theorem keyOfL_at {H : Hp} {t : Addr} {n : Int} {z : Str} (h : H t = some (.tup [.int n, .str z])) : keyOfL H (.ref t) = (n, z) := by
  show (match H t with
    | some (.tup [.int n, .str z]) => (n, z)
    | _ => ((0 : Int), ("" : Str))) = (n, z)
  rw [h]
theorem KysAt.is {X : Cx} {pins : List (Addr × Obj)} {σ : St} {H : Hp} {s : Shared} {key : V → Int × Str} {xs : List V} {kA : List Value} (I : Inv X pins σ H s) (h : KysAt H key xs kA) : ∀ v ∈ kA, SrtKy.IsIS s.heap v (keyOfL H v).1 (keyOfL H v).2 := fun v hv => by
  obtain ⟨j, hj⟩ := List.mem_iff_getElem?.mp hv
  obtain ⟨t, x, rfl, _, e⟩ := h j v hj
  rw [keyOfL_at e]
  obtain ⟨_, its, r, o, ho, hc, n, hd⟩ := I.hok _ _ e
  obtain ⟨u1, u2, rfl, ri, rj⟩ := vals2 r
  obtain ⟨t1, rfl⟩ := ri
  obtain ⟨t2, rfl⟩ := rj
  exact ⟨t, o, t1, t2, n, rfl, ho, hc, hd⟩
section
variable {X : Cx} {pins : List (Addr × Obj)} {σ : St} {H : Hp} {s : Shared}
end
end L2


namespace L2
open PySem PySem.Spec PyProof.Rows LamX NdefX
/-- all that was told stays -/
def HKeep (H H' : Hp) : Prop := ∀ b o, H b = some o → H' b = some o
/-- the lambda as a function of the layer (its body is an expression: none of the statements' field is read) -/
def lamF (X : Cx) (params : Arguments) (scope : Scope) (c' : Addr) : NF := ⟨"<lambda>", X.env.qual ++ "<lambda>", params, [], scope, cloFrom X.env.cells scope.names [], c'⟩
/-- sorted(e, key=lambda ..): js: where the captured names stand among ours -/
def tSortLam (T : List (Addr × Str)) (q : Str) (N : List Str) (js : List Nat) (ta : TA) (tb : TE) : TE := fun σ H Q => ta σ H fun vs H1 => ∃ x : V, vs = [x] ∧ Tabs T H1 ∧ ∀ (c' : Addr) (H2 : Hp), ExtN H1 H2 → Tabs T H2 → H2 c' = some (CodeO c' q) →
  ∃ (a : Addr) (kvs : List (Key × V)) (ks : List Str) (key : Str → Int × Str), x = .ref a ∧ Rd H2 a (.dK kvs) ∧ kvs.map (·.1) = ks.map Sum.inr ∧ ks.length ≤ sizeLine ∧
    (∀ k ∈ ks, ∀ H, HKeep H2 H → tb (startF N [.str k] (js.map (NdefX.slotAt σ))) H fun v H3 => HKeep H H3 ∧ ∃ t, v = .ref t ∧ H3 t = some (.tup [.int (key k).1, .str (key k).2])) ∧
    ∀ (ys : List Str) (H3 : Hp) (p : Addr), ys.Perm ks → ys.Pairwise (fun x y => SrtKy.isLt (key y) (key x) = false) → HKeep H2 H3 → H3 p = none → Q (.ref p) (upd H3 p (.lst (ys.map V.str)))
section
variable {X : Cx}
end
end L2


/-! heaps, lists, texts: what all the laws' proofs share. -/
namespace FT
open PySem L2 TL
abbrev Same (H H' : Hp) : Prop := ∀ b o, H b = some o → H' b = some o
theorem Same.refl {H : Hp} : Same H H := fun _ _ e => e
theorem Same.trans {H H1 H2 : Hp} (a : Same H H1) (b : Same H1 H2) : Same H H2 := fun x o e => b x o (a x o e)
theorem Same.free {H H' : Hp} {p : Addr} (s : Same H H') (n : H' p = none) : H p = none := by
  cases e : H p with
  | none => rfl
  | some o =>
    rw [s p o e] at n
    cases n
theorem Same.sql {K : PySem.W.Frag} {H H' : Hp} {a : Addr} {xs : List V} (e : Same H H') (h : SqL K H a xs) : SqL K H' a xs := by
  rcases h with (h | ⟨o, h⟩) | h
  · exact .inl (.inl (e _ _ h))
  · exact .inl (.inr ⟨o, e _ _ h⟩)
  · exact .inr h
theorem same_new {H : Hp} {p : Addr} {o : HO} (n : H p = none) : Same H (upd H p o) := fun b u e => by
  rw [upd_ne (ne_of_none e n)]
  exact e
theorem Same.put {H H' : Hp} {p : Addr} {o : HO} (s : Same H H') (n : H p = none) : Same H (upd H' p o) := fun b u e => by
  rw [upd_ne (ne_of_none e n)]
  exact s b u e
/-- what the text finds among the module's names -/
structure Nm (mg : Str → Option Value) : Prop where
  abs : mg "abs" = none
  len : mg "len" = none
  rng : mg "range" = none
  enu : mg "enumerate" = none
  zip : mg "zip" = none
  isi : mg "isinstance" = none
  all : mg "all" = none
  srt : mg "sorted" = none
  lst : mg "list" = none
  dct : mg "dict" = none
  str : mg "str" = none
  int : mg "int" = none
  tup : mg "tuple" = none
  sum : mg "sum" = none
  min : mg "min" = none
  max : mg "max" = none
  rep : mg "repr" = none
  bool : mg "bool" = none
  any : mg "any" = none
  vE : mg "ValueError" = none
theorem take_more {α : Type} {l : List α} {i : Nat} {x : α} (h : l[i]? = some x) : l.take (i + 1) = l.take i ++ [x] := by
  rw [List.take_succ, h] <;> rfl
theorem cut_ints (ns : List Int) (lo hi : Option Int) : ∃ ms : List Int, cutV (ns.map V.int) lo hi = ms.map V.int ∧ ms.length ≤ ns.length := by
  unfold cutV
  generalize HT.sIx (ns.map V.int).length 0 lo = i
  generalize HT.sIx (ns.map V.int).length (ns.map V.int).length hi = j
  refine ⟨(ns.drop i).take (j - i), by rw [List.map_take, List.map_drop], ?_⟩
  rw [List.length_take, List.length_drop]
  omega
theorem cut_take {xs : List V} {j : Nat} (h : j ≤ xs.length) : cutV xs none (some (j : Int)) = xs.take j := by
  have e : HT.sIx xs.length xs.length (some (j : Int)) = min j xs.length := HT.sIx_nat _ _ j
  show (xs.drop 0).take (HT.sIx xs.length xs.length (some (j : Int)) - 0) = xs.take j
  rw [e, List.drop_zero, Nat.sub_zero, Nat.min_eq_left h]
theorem map_of {α : Type} {f : α → V} {l : List α} {j : Nat} {x : V} (h : (l.map f)[j]? = some x) : ∃ z, l[j]? = some z ∧ x = f z := by
  rw [List.getElem?_map] at h
  obtain ⟨z, hz, rfl⟩ := Option.map_eq_some_iff.mp h
  exact ⟨z, hz, rfl⟩
theorem ixN_nat {n j : Nat} (h : j < n) : ixN n (j : Int) = some j := by
  unfold ixN
  rw [if_pos (by omega), if_pos (by omega)]
  simp
theorem map_erase {α β : Type} (f : α → β) : ∀ (l : List α) (i : Nat), (l.map f).eraseIdx i = (l.eraseIdx i).map f
  | [], _ => rfl
  | _ :: _, 0 => rfl
  | a :: l, i + 1 => congrArg (List.cons (f a)) (map_erase f l i)
theorem erase_perm {α : Type} : ∀ (l : List α) (i : Nat) (h : i < l.length), (l[i] :: l.eraseIdx i).Perm l
  | [], _, h => absurd h (Nat.not_lt_zero _)
  | _ :: _, 0, _ => .refl _
  | a :: l, i + 1, h => (List.Perm.swap a _ _).trans ((erase_perm l i (Nat.lt_of_succ_lt_succ h)).cons a)
/-- how many items stand there -/
def many (H : Hp) (a : Addr) : Nat := match H a with
  | some (.lst xs) => xs.length
  | _ => 0
theorem inV_strs (x : Str) : ∀ fs : List Str, inV (.str x) (fs.map V.str) = decide (x ∈ fs)
  | [] => rfl
  | y :: fs => by
    show (eqV (.str y) (.str x) || inV (.str x) (fs.map V.str)) = _
    rw [inV_strs x fs]
    have e : eqV (.str y) (.str x) = decide (x = y) := by
      show (y == x) = decide (x = y)
      rw [Bool.eq_iff_iff, beq_iff_eq, decide_eq_true_eq]
      exact eq_comm
    rw [e, Bool.eq_iff_iff]
    simp only [Bool.or_eq_true, decide_eq_true_eq, List.mem_cons]
theorem flat_strs : ∀ fs : List Str, (fs.map V.str).all flatV = true
  | [] => rfl
  | _ :: fs => flat_strs fs
/-! ### texts -/
/-- a name: letters, one to eight, not self -/
def NameL (z : Str) : Prop := (∀ c ∈ tl z, 97 ≤ c ∧ c ≤ 122) ∧ 1 ≤ (tl z).length ∧ (tl z).length ≤ 8 ∧ z ≠ "self"
instance (z : Str) : Decidable (NameL z) := by unfold NameL; infer_instance
theorem NameL.len {z : Str} (h : NameL z) : 1 ≤ z.length ∧ z.length ≤ 8 := by
  rw [len_tl]
  exact ⟨h.2.1, h.2.2.1⟩
theorem NameL.self {z : Str} (h : NameL z) : z ≠ "self" := h.2.2.2
theorem NameL.ne {z : Str} (h : NameL z) : z ≠ "" := fun e => by
  subst e
  have := h.2.1
  revert this
  decide +kernel
theorem strOk_name {z : Str} (h : NameL z) : PyData.strOk z = true := by
  unfold PyData.strOk
  simp only [Bool.and_eq_true, decide_eq_true_eq, Array.all_eq_true_iff_forall_mem]
  intro c hc
  have := h.1 c (Array.mem_toList_iff.mpr hc)
  omega
/-! ### order -/
theorem rising_all : ∀ (l : List Str) (p : Str), PyProof.Rows.risingS p l = true → (∀ y ∈ l, tl p ≤ tl y) ∧ l.Pairwise (fun a b => tl a ≤ tl b)
  | [], p, _ => ⟨fun y h => (by cases h), List.Pairwise.nil⟩
  | x :: r, p, h => by
    have h' : (!PySem.Spec.ltCps x.cps.toList p.cps.toList && PyProof.Rows.risingS x r) = true := h
    rw [Bool.and_eq_true, PyProof.Rows.ltCps_eq] at h'
    obtain ⟨h1, h2⟩ := h'
    have px : tl p ≤ tl x := by
      show ¬ (tl x < tl p)
      intro z
      rw [decide_eq_true z] at h1
      cases h1
    obtain ⟨i1, i2⟩ := rising_all r x h2
    refine ⟨fun y hy => ?_, List.pairwise_cons.mpr ⟨i1, i2⟩⟩
    rcases List.mem_cons.mp hy with rfl | hy
    · exact px
    · exact List.le_trans px (i1 y hy)
theorem sorted_pw {l : List Str} (h : PyProof.Rows.sortedS l = true) : l.Pairwise (fun a b => tl a ≤ tl b) := by
  cases l with
  | nil => exact .nil
  | cons x r =>
    obtain ⟨i1, i2⟩ := rising_all r x h
    exact List.pairwise_cons.mpr ⟨i1, i2⟩
/-- one order of the same texts -/
theorem sorted_one {l m : List Str} (p : l.Perm m) (hl : PyProof.Rows.sortedS l = true) (hm : PyProof.Rows.sortedS m = true) : l = m :=
  List.Perm.eq_of_pairwise (le := fun a b => tl a ≤ tl b) (fun a b _ _ h1 h2 => ext_tl (List.le_antisymm h1 h2)) (sorted_pw hl) (sorted_pw hm) p
/-! ### comprehensions of dicts, locks -/
/-- a dict comprehension over a walk: Pv by the turn and the heap (the new dict at D within) -/
theorem dc_it {J : It} {n : Nat} {G : Hp → Prop} {Y : Nat → Hp → V → Hp → Prop} (w : Walk J n G Y) {g : TG} {tt : TT} {tk tv : TE} {vs : List Nat} {σ : St} {H1 : Hp} {D : Addr} {Qd : Hp → Prop} (Pv : Nat → Hp → Prop) (h0 : Pv 0 (upd H1 D (.dK []))) (hG : ∀ i H, i ≤ n → Pv i H → G H)
    (hs : ∀ i x H H', i < n → Pv i H → Y i H x H' → g x (wipe σ vs) H' fun σ2 H2 => wipe σ2 vs = wipe σ vs ∧ tt σ2 H2 fun b H3 =>
      if b = true then tk σ2 H3 fun y H4 => tv σ2 H4 fun z H5 => ∃ kvs k, y = kV k ∧ H5 D = some (.dK kvs) ∧ kvs.length < sizeLine ∧ Pv (i + 1) (upd H5 D (.dK (putK kvs k z))) else Pv (i + 1) H3) (hd : ∀ H, Pv n H → Qd H) :
    ∃ W : Nat → Nat → Hp → Prop, (∃ m, W 0 m (upd H1 D (.dK []))) ∧ ∀ i m H, W i m H →
      (J.stop i H ∧ Qd H) ∨ (J.go i H ∧ ∃ Nx : Hp → Prop, (∀ H', Nx H' → ∃ m', m' < m ∧ W (i + 1) m' H') ∧ ∀ x H', J.yld i H x H' → g x (wipe σ vs) H' fun σ2 H2 => wipe σ2 vs = wipe σ vs ∧ tt σ2 H2 fun b H3 =>
        if b = true then tk σ2 H3 fun y H4 => tv σ2 H4 fun z H5 => ∃ kvs k, y = kV k ∧ H5 D = some (.dK kvs) ∧ kvs.length < sizeLine ∧ Nx (upd H5 D (.dK (putK kvs k z))) else Nx H3) := by
  refine ⟨fun i m H => m = n - i ∧ i ≤ n ∧ Pv i H, ⟨n, by simp, Nat.zero_le _, h0⟩, fun i m H ⟨em, hi, p⟩ => ?_⟩
  have gh := hG i H hi p
  rcases Nat.lt_or_ge i n with lt | ge
  · exact .inr ⟨w.goes i H lt gh, Pv (i + 1), fun H' p' => ⟨n - (i + 1), by omega, rfl, lt, p'⟩, fun x H' y => hs i x H H' lt p (w.yields i H x H' lt gh y)⟩
  · have ei : i = n := by omega
    subst ei
    exact .inl ⟨w.stops H gh, hd H p⟩
theorem unlock_same {H H' : Hp} {q : Addr} {u : HO} {o : Obj} (e : H q = some u) (s : Same (upd H q (.frz o u)) H') : Same H (upd H' q u) := fun b x h => by
  by_cases z : b = q
  · subst z
    rw [upd_same]
    exact e.symm.trans h |>.symm ▸ rfl
  · rw [upd_ne z]
    exact s b x (by rw [upd_ne z]; exact h)
/-! ### dicts with text keys, by any values -/
/-- a dict of values by texts -/
def kvT (t : List (Str × V)) : List (Key × V) := t.map fun p => (Sum.inr p.1, p.2)
theorem kvT_len (t : List (Str × V)) : (kvT t).length = t.length := by unfold kvT; rw [List.length_map]
theorem kvT_app (t : List (Str × V)) (f : Str) (z : V) : kvT t ++ [(Sum.inr f, z)] = kvT (t ++ [(f, z)]) := by
  unfold kvT
  rw [List.map_append] <;> rfl
theorem kvT_any (t : List (Str × V)) (f : Str) : ((kvT t).any fun kv => decide (kv.1 = Sum.inr f)) = decide (f ∈ t.map Prod.fst) := by
  induction t with
  | nil => rfl
  | cons p t ih =>
    show (decide ((Sum.inr p.1 : Key) = Sum.inr f) || ((kvT t).any fun kv => decide (kv.1 = Sum.inr f))) = _
    rw [ih, Bool.eq_iff_iff]
    simp only [Bool.or_eq_true, decide_eq_true_eq, List.map_cons, List.mem_cons]
    constructor
    · rintro (h | h)
      · exact .inl (Sum.inr.inj h).symm
      · exact .inr h
    · rintro (h | h)
      · exact .inl (by rw [h])
      · exact .inr h
theorem kvT_put {t : List (Str × V)} {f : Str} {z : V} (n : f ∉ t.map Prod.fst) : putK (kvT t) (Sum.inr f) z = kvT (t ++ [(f, z)]) := by
  unfold putK
  rw [kvT_any, decide_eq_false n, if_neg (by decide), kvT_app]
/-- the value of a key -/
def look (t : List (Str × V)) (f : Str) : Option V := (t.find? fun p => decide (p.1 = f)).map Prod.snd
theorem look_cons (p : Str × V) (t : List (Str × V)) (f : Str) : look (p :: t) f = if p.1 = f then some p.2 else look t f := by
  unfold look
  rw [List.find?_cons]
  by_cases e : p.1 = f
  · rw [if_pos e, decide_eq_true e] <;> rfl
  · rw [if_neg e, decide_eq_false e]
theorem kvT_val : ∀ (t : List (Str × V)) (f : Str), valV (kvT t) (Sum.inr f) = look t f
  | [], f => rfl
  | p :: t, f => by
    rw [look_cons]
    by_cases e : p.1 = f
    · rw [if_pos e]
      exact valV_pos (by show (Sum.inr p.1 : Key) = Sum.inr f; rw [e])
    · rw [if_neg e]
      exact (valV_neg (p := (Sum.inr p.1, p.2)) (fun z => e (Sum.inr.inj z))).trans (kvT_val t f)
/-- a key's value, written anew -/
def putT (t : List (Str × V)) (f : Str) (z : V) : List (Str × V) := if f ∈ t.map Prod.fst then t.map fun p => if p.1 = f then (p.1, z) else p else t ++ [(f, z)]
theorem kvT_putT (t : List (Str × V)) (f : Str) (z : V) : putK (kvT t) (Sum.inr f) z = kvT (putT t f z) := by
  by_cases h : f ∈ t.map Prod.fst
  · unfold putK putT
    rw [kvT_any, decide_eq_true h, if_pos rfl, if_pos h]
    unfold kvT
    rw [List.map_map, List.map_map]
    refine List.map_congr_left fun p _ => ?_
    show (if (Sum.inr p.1 : Key) = Sum.inr f then ((Sum.inr p.1 : Key), z) else (Sum.inr p.1, p.2)) = (Sum.inr (if p.1 = f then (p.1, z) else p).1, (if p.1 = f then (p.1, z) else p).2)
    by_cases e : p.1 = f
    · rw [if_pos e, if_pos (by rw [e])]
    · rw [if_neg e, if_neg fun q => e (Sum.inr.inj q)]
  · rw [kvT_put h]
    unfold putT
    rw [if_neg h]
end FT


/-! forests as pairs of a flag and its parent, in any order. -/
namespace FT
open PySem L2 TL
/-- a dict of texts by texts -/
def prs (t : List (Str × Str)) : List (Key × V) := kvT (t.map fun p => (p.1, V.str p.2))
theorem prs_len (t : List (Str × Str)) : (prs t).length = t.length := by unfold prs; rw [kvT_len, List.length_map]
theorem prs_fst (t : List (Str × Str)) : (t.map fun p => (p.1, V.str p.2)).map Prod.fst = t.map Prod.fst := by rw [List.map_map] <;> rfl
theorem prs_keys (t : List (Str × Str)) : (prs t).map (·.1) = (t.map Prod.fst).map Sum.inr := by unfold prs kvT; rw [List.map_map, List.map_map, List.map_map] <;> rfl
theorem keys_prs (t : List (Str × Str)) : ((prs t).map fun kv => kV kv.1) = (t.map Prod.fst).map V.str := by
  unfold prs kvT
  rw [List.map_map, List.map_map, List.map_map] <;> rfl
theorem put_new {t : List (Str × Str)} {f z : Str} (n : f ∉ t.map Prod.fst) : putK (prs t) (Sum.inr f) (V.str z) = prs (t ++ [(f, z)]) := by
  unfold prs
  rw [kvT_put (by rw [prs_fst]; exact n), List.map_append] <;> rfl
/-- the parent of a flag -/
def par (t : List (Str × Str)) (a : Str) : Option Str := (t.find? fun p => decide (p.1 = a)).map Prod.snd
theorem par_cons (p : Str × Str) (t : List (Str × Str)) (a : Str) : par (p :: t) a = if p.1 = a then some p.2 else par t a := by
  unfold par
  rw [List.find?_cons]
  by_cases e : p.1 = a
  · rw [if_pos e, decide_eq_true e] <;> rfl
  · rw [if_neg e, decide_eq_false e]
theorem val_prs (a : Str) : ∀ t : List (Str × Str), valV (prs t) (Sum.inr a) = (par t a).map V.str
  | [] => rfl
  | p :: t => by
    have ih := val_prs a t
    unfold prs at ih ⊢
    rw [List.map_cons, kvT_val, look_cons, par_cons]
    rw [kvT_val] at ih
    by_cases e : p.1 = a
    · rw [if_pos e, if_pos e] <;> rfl
    · rw [if_neg e, if_neg e, ih]
theorem par_mem {t : List (Str × Str)} {a z : Str} (h : par t a = some z) : (a, z) ∈ t := by
  induction t with
  | nil => cases h
  | cons p t ih =>
    rw [par_cons] at h
    by_cases e : p.1 = a
    · rw [if_pos e] at h
      cases h
      exact List.mem_cons.mpr (.inl (by rw [← e]))
    · rw [if_neg e] at h
      exact List.mem_cons_of_mem _ (ih h)
theorem par_of {t : List (Str × Str)} {a z : Str} (nd : (t.map Prod.fst).Nodup) (h : (a, z) ∈ t) : par t a = some z := by
  induction t with
  | nil => cases h
  | cons p t ih =>
    obtain ⟨n1, n2⟩ := List.nodup_cons.mp nd
    rw [par_cons]
    rcases List.mem_cons.mp h with e | h
    · subst e
      exact if_pos rfl
    · rw [if_neg fun e => n1 (by rw [e]; exact List.mem_map.mpr ⟨_, h, rfl⟩)]
      exact ih n2 h
theorem par_none {t : List (Str × Str)} {a : Str} (n : a ∉ t.map Prod.fst) : par t a = none := by
  cases e : par t a with
  | none => rfl
  | some z => exact absurd (List.mem_map.mpr ⟨_, par_mem e, rfl⟩) n
theorem par_some {t : List (Str × Str)} {a : Str} (nd : (t.map Prod.fst).Nodup) (h : a ∈ t.map Prod.fst) : ∃ z, par t a = some z := by
  obtain ⟨p, hp, rfl⟩ := List.mem_map.mp h
  exact ⟨p.2, par_of nd hp⟩
theorem par_perm {t u : List (Str × Str)} (nd : (t.map Prod.fst).Nodup) (p : t.Perm u) (a : Str) : par t a = par u a := by
  cases e : par t a with
  | some v => exact (par_of ((p.map _).nodup_iff.mp nd) (p.mem_iff.mp (par_mem e))).symm
  | none =>
    cases e2 : par u a with
    | none => rfl
    | some v =>
      have := par_of nd (p.mem_iff.mpr (par_mem e2))
      rw [e] at this
      cases this
/-- each parent has a lower rank -/
def Rk (t : List (Str × Str)) (rk : Str → Nat) : Prop := ∀ p ∈ t, rk p.1 < t.length ∧ (p.2 = "" ∨ (p.2 ∈ t.map Prod.fst ∧ rk p.2 < rk p.1))
/-- a forest of one to twelve flags -/
structure TreeOk (t : List (Str × Str)) : Prop where
  one : 1 ≤ t.length
  few : t.length ≤ 12
  nd : (t.map Prod.fst).Nodup
  nm : ∀ z ∈ t.map Prod.fst, NameL z
  up : ∃ rk : Str → Nat, Rk t rk
theorem TreeOk.perm {t u : List (Str × Str)} (p : t.Perm u) (o : TreeOk t) : TreeOk u := by
  obtain ⟨rk, hr⟩ := o.up
  have l := p.length_eq
  refine ⟨by have := o.one; omega, by have := o.few; omega, (p.map _).nodup_iff.mp o.nd, fun z h => o.nm z ((p.map _).mem_iff.mpr h), rk, fun q hq => ?_⟩
  obtain ⟨h1, h2⟩ := hr q (p.mem_iff.mpr hq)
  exact ⟨by omega, h2.imp id fun h => ⟨(p.map _).mem_iff.mp h.1, h.2⟩⟩
theorem TreeOk.root {t : List (Str × Str)} (o : TreeOk t) : ("" : Str) ∉ t.map Prod.fst := fun h => (o.nm _ h).ne rfl
/-- the step up -/
theorem TreeOk.step {t : List (Str × Str)} (o : TreeOk t) {rk : Str → Nat} (r : Rk t rk) {a : Str} (h : a ∈ t.map Prod.fst) : ∃ p : Str, par t a = some p ∧ (p = "" ∨ (p ∈ t.map Prod.fst ∧ rk p < rk a)) ∧ rk a < t.length := by
  obtain ⟨z, hz⟩ := par_some o.nd h
  obtain ⟨h1, h2⟩ := r _ (par_mem hz)
  exact ⟨z, hz, h2, h1⟩
/-! ### paths -/
/-- the flags from the top down to a place; n bounds the steps -/
def upN (t : List (Str × Str)) : Nat → Str → List Str
  | 0, _ => []
  | n + 1, a => if a = "" then [] else upN t n ((par t a).getD "") ++ [a]
def pathOf (t : List (Str × Str)) (a : Str) : List Str := upN t t.length a
/-- a place: the root or a flag -/
def Pl (t : List (Str × Str)) (a : Str) : Prop := a = "" ∨ a ∈ t.map Prod.fst
theorem upN_root (t : List (Str × Str)) (n : Nat) : upN t n "" = [] := by
  cases n with
  | zero => rfl
  | succ n => exact if_pos rfl
theorem upN_eq {t : List (Str × Str)} (o : TreeOk t) {rk : Str → Nat} (r : Rk t rk) : ∀ (n m : Nat) (a : Str), Pl t a → (a ≠ "" → rk a < n) → (a ≠ "" → rk a < m) → upN t n a = upN t m a := by
  intro n
  induction n with
  | zero =>
    intro m a hp h1 h2
    by_cases e : a = ""
    · subst e
      rw [upN_root, upN_root]
    · exact absurd (h1 e) (Nat.not_lt_zero _)
  | succ n ih =>
    intro m a hp h1 h2
    by_cases e : a = ""
    · subst e
      rw [upN_root, upN_root]
    · cases m with
      | zero => exact absurd (h2 e) (Nat.not_lt_zero _)
      | succ m =>
        obtain ⟨p, ep, hp2, _⟩ := o.step r (hp.resolve_left e)
        have q1 := h1 e
        have q2 := h2 e
        show (if a = "" then [] else upN t n ((par t a).getD "") ++ [a]) = if a = "" then [] else upN t m ((par t a).getD "") ++ [a]
        rw [if_neg e, if_neg e, ep]
        show upN t n p ++ [a] = upN t m p ++ [a]
        rw [ih m p (hp2.imp id And.left) (fun z => by have := (hp2.resolve_left z).2; omega) (fun z => by have := (hp2.resolve_left z).2; omega)]
theorem path_root (t : List (Str × Str)) : pathOf t "" = [] := upN_root _ _
theorem path_step {t : List (Str × Str)} (o : TreeOk t) {a p : Str} (h : a ∈ t.map Prod.fst) (e : par t a = some p) : pathOf t a = pathOf t p ++ [a] := by
  obtain ⟨rk, r⟩ := o.up
  have ne : a ≠ "" := fun z => o.root (by rw [← z]; exact h)
  obtain ⟨p', e', hp, la⟩ := o.step r h
  cases e.symm.trans e'
  have lt := o.one
  obtain ⟨n, hn⟩ : ∃ n, t.length = n + 1 := ⟨t.length - 1, by omega⟩
  unfold pathOf
  rw [hn]
  show (if a = "" then [] else upN t n ((par t a).getD "") ++ [a]) = _
  rw [if_neg ne, e]
  show upN t n p ++ [a] = _
  rw [upN_eq o r n (n + 1) p (hp.imp id And.left) (fun z => by have := (hp.resolve_left z).2; omega) (fun z => by have := (hp.resolve_left z).2; omega)]
theorem path_perm {t u : List (Str × Str)} (nd : (t.map Prod.fst).Nodup) (p : t.Perm u) (a : Str) : pathOf t a = pathOf u a := by
  unfold pathOf
  rw [p.length_eq]
  generalize u.length = n
  induction n generalizing a with
  | zero => rfl
  | succ n ih =>
    show (if a = "" then [] else upN t n ((par t a).getD "") ++ [a]) = if a = "" then [] else upN u n ((par u a).getD "") ++ [a]
    rw [ih, par_perm nd p]
theorem upN_len (t : List (Str × Str)) : ∀ (n : Nat) (a : Str), (upN t n a).length ≤ n
  | 0, _ => Nat.le_refl _
  | n + 1, a => by
    show (if a = "" then [] else upN t n ((par t a).getD "") ++ [a]).length ≤ n + 1
    by_cases e : a = ""
    · rw [if_pos e]
      exact Nat.zero_le _
    · rw [if_neg e, List.length_append]
      have := upN_len t n ((par t a).getD "")
      show _ + 1 ≤ n + 1
      omega
theorem path_len (t : List (Str × Str)) (a : Str) : (pathOf t a).length ≤ t.length := upN_len _ _ _
theorem upN_all {t : List (Str × Str)} (o : TreeOk t) : ∀ (n : Nat) (a : Str), Pl t a → ∀ z ∈ upN t n a, z ∈ t.map Prod.fst
  | 0, _, _, z, h => by cases h
  | n + 1, a, hp, z, h => by
    have h' : z ∈ (if a = "" then [] else upN t n ((par t a).getD "") ++ [a]) := h
    by_cases e : a = ""
    · rw [if_pos e] at h'
      cases h'
    · rw [if_neg e] at h'
      have ha := hp.resolve_left e
      obtain ⟨rk, r⟩ := o.up
      obtain ⟨p, ep, hp2, _⟩ := o.step r ha
      rw [ep] at h'
      rcases List.mem_append.mp h' with h' | h'
      · exact upN_all o n p (hp2.imp id And.left) z h'
      · rw [List.mem_singleton.mp h']
        exact ha
theorem path_all {t : List (Str × Str)} (o : TreeOk t) {a : Str} (h : Pl t a) : ∀ z ∈ pathOf t a, z ∈ t.map Prod.fst := upN_all o _ _ h
/-! ### sums over children -/
/-- the sum of sizes of the children of a place -/
def kids (t : List (Str × Str)) (p : Str) : List Str := (t.filter fun q => decide (q.2 = p)).map Prod.fst
def resid (t : List (Str × Str)) (n : Int) (sz : Str → Int) (p : Str) : Int := (if p = "" then n else sz p) - ((kids t p).map sz).sum
theorem kids_snoc (t : List (Str × Str)) (q : Str × Str) (p : Str) : kids (t ++ [q]) p = kids t p ++ (if q.2 = p then [q.1] else []) := by
  unfold kids
  rw [List.filter_append, List.map_append]
  by_cases e : q.2 = p
  · rw [if_pos e, List.filter_cons, decide_eq_true e, List.filter_nil] <;> rfl
  · rw [if_neg e, List.filter_cons, decide_eq_false e, List.filter_nil] <;> rfl
theorem kids_perm {t u : List (Str × Str)} (h : t.Perm u) (p : Str) : (kids t p).Perm (kids u p) := (h.filter _).map _
theorem sum_perm {l m : List Int} (h : l.Perm m) : l.sum = m.sum := by
  induction h with
  | nil => rfl
  | cons x _ ih => rw [List.sum_cons, List.sum_cons, ih]
  | swap x y l => rw [List.sum_cons, List.sum_cons, List.sum_cons, List.sum_cons]; omega
  | trans _ _ a b => rw [a, b]
theorem resid_perm {t u : List (Str × Str)} (h : t.Perm u) (n : Int) (sz : Str → Int) (p : Str) : resid t n sz p = resid u n sz p := by
  unfold resid
  rw [sum_perm ((kids_perm h p).map sz)]
theorem resid_snoc (t : List (Str × Str)) (q : Str × Str) (n : Int) (sz : Str → Int) (p : Str) : resid (t ++ [q]) n sz p = if q.2 = p then resid t n sz p - sz q.1 else resid t n sz p := by
  unfold resid
  rw [kids_snoc]
  by_cases e : q.2 = p
  · rw [if_pos e, if_pos e, List.map_append, List.sum_append]
    show _ - (_ + (sz q.1 + 0)) = _
    omega
  · rw [if_neg e, if_neg e, List.append_nil]
end FT


namespace FT
open PySem L2 TL ClX
def letters : Str := "abcdefghijklmnopqrstuvwxyz"
theorem in_letters {c : Nat} (h0 : 97 ≤ c) (h1 : c ≤ 122) : c ∈ letters.cps.toList := by
  have all : ∀ i : Fin 26, (97 + i.1) ∈ letters.cps.toList := by decide +kernel
  have q := all ⟨c - 97, by omega⟩
  rw [show 97 + (⟨c - 97, by omega⟩ : Fin 26).1 = c by show 97 + (c - 97) = c; omega] at q
  exact q
/-- the module's own constants -/
structure Cs (mg : Str → Option Value) : Prop where
  long : ∃ t, mg "LONGEST" = some (.int 8 t)
  lett : ∃ t, mg "LETTERS" = some (.str letters t)
/-- the class Forest: its two constants -/
structure Fc (K : PySem.W.Frag) (mg : Str → Option Value) (CF : Addr) (mc : Value) : Prop where
  gF : mg "Forest" = some (.ref CF)
  rd : CRead K CF mc
  most : ∃ u, CVal K CF mc "MOST" (.int 12) u
  root : ∃ u, CVal K CF mc "ROOT" (.str "") u
/-- one of the text's defs, called by place -/
structure Dn (P : Program) (w : World) (K : PySem.W.Frag) (mg : Str → Option Value) (base : Heap) (CX : CXT) (k : Nat) (x : Str) (ps : List Str) (sp : Sp) (f : Addr) (fd : FuncData) : Prop where
  ok : FnOk P w K mg base CX k f fd ps sp
  kp : PySem.W.keepIn K (.ref f) = true
  bn : Binds K fd ps []
  mgn : mg x = some (.ref f)
def spIsName : Sp := fun vs H Q _ => ∃ z : Str, vs = [.str z] ∧ NameL z ∧ ∀ H', Same H H' → Q (.bl true) H'
def spIsAnc : Sp := fun vs H Q _ => ∃ (q : Addr) (f : Str) (t : List (Str × Str)), vs = [.ref q, .str f] ∧ H q = some (.dK (prs t)) ∧ TreeOk t ∧ f ∈ t.map Prod.fst ∧ ∀ H', Same H H' → Q (.bl false) H'
def spNeed : Sp := fun vs H Q _ => ∃ (q : Addr) (t : List (Str × Str)), vs = [.ref q] ∧ H q = some (.dK (prs t)) ∧ TreeOk t ∧ ∀ H', Same H H' → Q .non H'
section
variable {P : Program} {w : World} {K : PySem.W.Frag} {mg : Str → Option Value} {base : Heap}
theorem scIsName : FnScope ["value", "letter"] ["value"] (defScope s_is_name) := ⟨rfl, rfl, rfl, by decide +kernel, rfl, by decide +kernel, by decide +kernel⟩
theorem ok_isName {f : Addr} {fd : FuncData} (F : Fun K "is_name" "is_name" s_is_name f fd) (T : Nm mg) (C : Cs mg) : FnOk P w K mg base CX0 1 f fd ["value"] spIsName := by
  obtain ⟨t1, g1⟩ := C.long
  obtain ⟨t2, g2⟩ := C.lett
  refine F.ok scIsName (fun vs H Q E h => ?_) (fun cdv A outer s H vs Q E hr h => ?_)
  · obtain ⟨z, rfl, _⟩ := h
    rfl
  · obtain ⟨z, rfl, nm, k⟩ := h
    refine ⟨_, pss_cons (ps_if (PW.pt (pw_or (pt_not (pt_val (pe_callB call_isi (by rfl) T.isi (by decide +kernel) (pa_cons (pv 0) (pa_cons (pe_bltn (v := .ty "str") (u := .type "str") (by rfl) T.str (by decide +kernel) rfl) pa_nil)))))
        (pw_or (pt_not (pt_chain op_le op_le pe_int (pe_callB call_len_str (by rfl) T.len PySem.boot_len (pa_cons (pv 0) pa_nil)) (pe_glob (v := .int 8) (by rfl) g1 ⟨_, rfl⟩))) (pw_or1 (pt_cmpR op_eq (pv 0) pe_str (nomark _))))))
        (pss_one (ps_ret pe_bl)) pss_nil)
      (pss_one (ps_ret (pe_callB (cr_all rfl) (by rfl) T.all (by decide +kernel) (pa_cons (pe_lc (own := [("letter", 1)]) (g := gName 1) (tt := tYes) (te := tOp (fun x y H Q => ∃ (c : Nat) (z : Str), x = .str ⟨#[c]⟩ ∧ y = .str z ∧ Q (.bl (decide (c ∈ z.cps.toList))) H) (tVar 1) (tC (.str letters))) rfl scIsName.nd (pi_str (pv 0))
        (blkOk_by (N := ["value", "letter"]) (sc := defScope s_is_name) (by decide +kernel))
        (fun _ _ _ _ _ => pg_name (i := 1) scIsName.nd rfl (Or.inl rfl)) (fun _ _ _ _ _ => pts_nil) (fun _ _ _ _ _ => pe_cmpR op_in_sign (pv 1) (pe_glob (v := .str letters) (by rfl) g2 ⟨_, rfl⟩) rfl)) pa_nil)))), ?_⟩
    have l := nm.len
    have big : 1000 ≤ sizeLine := by decide
    refine ⟨_, rfl, .str z, _, _, _, true, rfl, .ty _, .base (.str z), kit_ty (by decide +kernel), true, rfl, ?_⟩
    refine iteF ?_
    refine ⟨_, rfl, z, rfl, by omega, _, _, rfl, rfl, _, rfl, ?_⟩
    rw [if_pos (decide_eq_true (by omega))]
    refine ⟨_, _, rfl, rfl, _, rfl, ?_⟩
    rw [decide_eq_true (show (z.length : Int) ≤ 8 by omega)]
    refine iteF ?_
    refine ⟨_, rfl, rfl, _, rfl, ?_⟩
    rw [decide_eq_false (show ¬ V.str z = V.str "self" from fun e => nm.self (V.str.inj e))]
    refine iteF ?_
    refine ⟨_, rfl, z, rfl, fun D nD => lc_it walk_str (fun i H' => Same H H' ∧ H' D = some (.lst ((List.replicate i true).map V.bl))) ⟨same_new nD, upd_same⟩ (fun _ _ _ _ => trivial) ?_ ?_⟩
    · intro i x Ha Hb hi ⟨q1, q2⟩ ⟨e, ch, hc, ex⟩
      subst e
      subst ex
      have hm : ch ∈ letters.cps.toList := by
        have hz : ch ∈ tl z := by
          rw [← Array.getElem?_toList] at hc
          exact List.mem_of_getElem? hc
        exact in_letters (nm.1 ch hz).1 (nm.1 ch hz).2
      refine ⟨rfl, ?_⟩
      refine ⟨_, rfl, ch, letters, rfl, rfl, _, q2, ?_, ?_, ?_⟩
      · rw [List.length_map, List.length_replicate]
        have : z.cps.size = z.length := rfl
        omega
      · exact Same.put q1 nD
      · rw [upd_same, decide_eq_true hm, List.replicate_succ', List.map_append] <;> rfl
    · intro H' ⟨q1, q2⟩
      refine ⟨D, _, rfl, SqL.of q2, ?_⟩
      have e : (List.replicate z.cps.size true).all id = true := by simp
      rw [e]
      exact k H' q1
def rankS (t : List (Str × Str)) (rk : Str → Nat) (σ : St) : Nat := match σ[3]? with
  | some (some (V.str a)) => if a ∈ t.map Prod.fst then rk a + 1 else 0
  | _ => 0
theorem scIsAnc : FnScope ["parents", "name", "seen", "above"] ["parents", "name"] (defScope s_is_ancestor) := ⟨rfl, rfl, rfl, by decide +kernel, rfl, by decide +kernel, by decide +kernel⟩
theorem ok_isAnc {f : Addr} {fd : FuncData} (F : Fun K "is_ancestor" "is_ancestor" s_is_ancestor f fd) : FnOk P w K mg base CX0 1 f fd ["parents", "name"] spIsAnc := by
  refine F.ok scIsAnc (fun vs H Q E h => ?_) (fun cdv A outer s H vs Q E hr h => ?_)
  · obtain ⟨q, g, t, rfl, _⟩ := h
    rfl
  · obtain ⟨q, g, t, rfl, hq, o, hg, k⟩ := h
    have hu := hu_of hr
    obtain ⟨rk, r⟩ := o.up
    refine ⟨_, pss_cons (ps_set (i := 2) scIsAnc.nd rfl (.inl rfl) (pe_lst pa_nil))
      (pss_cons (ps_set (i := 3) scIsAnc.nd rfl (.inl rfl) (pe_dget hu (pv 0) (pv 1) (fun _ _ => rfl)))
      (pss_cons (ps_while PassesOwn.never (PW.pt (pw_and (pt_cmp (pc_din hu (pv 3) (pv 0))) (pw_and1 (pt_cmpR op_notIn_seq (pv 3) (pv 2) rfl))))
        (pss_cons (ps_if (pt_cmpR op_eq (pv 3) (pv 1) (nomark _)) (pss_one (ps_ret pe_bl)) pss_nil)
        (pss_cons (ps_expr (pe_bm PySem.F.plainAttrs_list PySem.F.slot_list_append PySem.F.type_list_append mt_append (pv 2) (pa_cons (pv 3) pa_nil)))
        (pss_one (ps_set (i := 3) scIsAnc.nd rfl (.inl rfl) (pe_dget hu (pv 0) (pv 3) (fun _ _ => rfl)))))))
      (pss_one (ps_ret pe_bl)))), ?_⟩
    obtain ⟨p0, v0, w0, i0⟩ := o.step r hg
    have few := o.few
    have big : 1000 ≤ sizeLine := by decide
    refine ⟨by show 0 ≤ sizeLine; omega, fun l nl => ?_⟩
    have hq1 : (upd H l (.lst [])) q = some (.dK (prs t)) := by rw [upd_ne (ne_of_none hq nl)]; exact hq
    have ql : q ≠ l := ne_of_none hq nl
    refine ⟨_, rfl, _, rfl, q, V.str p0, rfl, by have z := DGet.k (k := Sum.inr g) hq1; rw [val_prs, v0] at z; exact z, ?_⟩
    refine while_by (fun σ H' => ∃ (a : Str) (ws : List Str), σ = [some (.ref q), some (.str g), some (.ref l), some (.str a)] ∧ H' l = some (.lst (ws.map V.str)) ∧ (∀ b u, H b = some u → H' b = some u) ∧ (a = "" ∨ (a ∈ t.map Prod.fst ∧ rk a < rk g ∧ ws.length + rk a < t.length)))
      (fun σ _ => rankS t rk σ) ⟨p0, [], rfl, upd_same, same_new nl, w0.imp id fun z => ⟨z.1, z.2, by simp only [List.length_nil]; omega⟩⟩ ?_ ?_
    · rintro σ Hx ⟨a, ws, rfl, hl, sm, ha⟩
      have hqx := sm _ _ hq
      have dg := DGet.k (k := Sum.inr a) hqx
      rw [val_prs] at dg
      refine ⟨_, rfl, _, rfl, q, _, rfl, dg, _, rfl, ?_⟩
      rcases ha with rfl | ⟨ha, ia, la⟩
      · rw [par_none o.root]
        refine iteF ?_
        exact iteF (k Hx sm)
      · obtain ⟨p, hv, hp, il⟩ := o.step r ha
        rw [hv]
        show if true = true then _ else _
        rw [if_pos rfl]
        refine ⟨_, rfl, _, rfl, l, _, rfl, .inl (SqL.of hl), rfl, flat_strs ws, _, rfl, ?_⟩
        rw [inV_strs]
        by_cases hw : a ∈ ws
        · rw [decide_eq_true hw]
          exact iteF (k Hx sm)
        · rw [decide_eq_false hw]
          show if true = true then _ else _
          rw [if_pos rfl]
          refine ⟨_, rfl, _, rfl, rfl, _, rfl, ?_⟩
          rw [decide_eq_false (show ¬ V.str a = V.str g from fun e => by
            have := V.str.inj e
            subst this
            omega)]
          refine iteF ?_
          refine ⟨_, rfl, .inl ⟨rfl, _, SqL.of hl⟩, _, rfl, l, _, _, rfl, rfl, hl, by rw [List.length_map]; omega, ?_⟩
          have hq2 : (upd Hx l (.lst (ws.map V.str ++ [.str a]))) q = some (.dK (prs t)) := by rw [upd_ne ql]; exact hqx
          refine ⟨_, rfl, _, rfl, q, V.str p, rfl, by have z := DGet.k (k := Sum.inr a) hq2; rw [val_prs, hv] at z; exact z, ?_⟩
          refine ⟨⟨p, ws ++ [a], rfl, by rw [upd_same, List.map_append] <;> rfl, fun b u e => ?_, ?_⟩, ?_⟩
          · rw [upd_ne (ne_of_none e nl)]
            exact sm b u e
          · rcases hp with rfl | ⟨hp, ip⟩
            · exact .inl rfl
            · refine .inr ⟨hp, by omega, ?_⟩
              rw [List.length_append]
              show ws.length + 1 + rk p < t.length
              omega
          · show rankS t rk [some (.ref q), some (.str g), some (.ref l), some (.str p)] < rankS t rk [some (.ref q), some (.str g), some (.ref l), some (.str a)]
            have e1 : rankS t rk [some (.ref q), some (.str g), some (.ref l), some (.str a)] = rk a + 1 := if_pos ha
            rw [e1]
            rcases hp with rfl | ⟨hp, ip⟩
            · have e2 : rankS t rk [some (.ref q), some (.str g), some (.ref l), some (.str "")] = 0 := if_neg o.root
              rw [e2]
              omega
            · have e2 : rankS t rk [some (.ref q), some (.str g), some (.ref l), some (.str p)] = rk p + 1 := if_pos hp
              rw [e2]
              omega
    · intro σ Hx Qa Qb h
      rintro ⟨v, e1, w, e2, a, r, e3, g, d, e4, z⟩
      refine ⟨v, e1, w, e2, a, r, e3, g, d, e4, ?_⟩
      cases d with
      | false =>
        rw [if_neg (by decide)] at z ⊢
        exact h _ _ z
      | true =>
        rw [if_pos rfl] at z ⊢
        obtain ⟨v, e1, w, e2, p, xs, e3, e4, e5, e6, b, e7, z⟩ := z
        exact ⟨v, e1, w, e2, p, xs, e3, e4, e5, e6, b, e7, h _ _ z⟩
theorem scNeed : FnScope ["parents", "name", "above", "other"] ["parents"] (defScope s_need_parents) := ⟨rfl, rfl, rfl, by decide +kernel, rfl, by decide +kernel, by decide +kernel⟩
theorem ok_need {f fI fA CF : Addr} {mc : Value} {fd fdI fdA : FuncData} (F : Fun K "need_parents" "need_parents" s_need_parents f fd) (T : Nm mg) (C : Cs mg) (Z : Fc K mg CF mc)
    (FI : Dn P w K mg base CX0 1 "is_name" ["value"] spIsName fI fdI) (FA : Dn P w K mg base CX0 1 "is_ancestor" ["parents", "name"] spIsAnc fA fdA) : FnOk P w K mg base CX0 2 f fd ["parents"] spNeed := by
  obtain ⟨um, cm⟩ := Z.most
  obtain ⟨ur, cr⟩ := Z.root
  refine F.ok scNeed (fun vs H Q E h => ?_) (fun cdv A outer s H vs Q E hr h => ?_)
  · obtain ⟨q, t, rfl, _⟩ := h
    rfl
  · obtain ⟨q, t, rfl, hq, o, k⟩ := h
    have hu := hu_of hr
    obtain ⟨rk, r⟩ := o.up
    refine ⟨_, pss_cons (ps_if (PW.pt (pw_or (pt_not (pt_val (pe_callB call_isi (by rfl) T.isi (by decide +kernel) (pa_cons (pv 0) (pa_cons (pe_bltn (v := .ty "dict") (u := .type "dict") (by rfl) T.dct (by decide +kernel) rfl) pa_nil)))))
        (pw_or1 (pt_not (pt_chain op_le op_le pe_int (pe_callB call_lenD (by rfl) T.len PySem.boot_len (pa_cons (pv 0) pa_nil)) (pe_cval (pe_glob (v := .ref CF) (by rfl) Z.gF rfl))))))) pss_never pss_nil)
      (pss_cons (ps_if (pt_not (pt_val (pe_callB (cr_all rfl) (by rfl) T.all (by decide +kernel) (pa_cons (pe_lock (pe_lc (own := [("name", 1)]) (g := gName 1) (tt := tYes) rfl scNeed.nd (pi_keys (pv 0))
        (blkOk_by (N := ["parents", "name", "above", "other"]) (sc := defScope s_need_parents) (by decide +kernel))
        (fun _ _ _ _ _ => pg_name (i := 1) scNeed.nd rfl (Or.inl rfl)) (fun _ _ _ _ _ => pts_nil) (fun _ _ _ _ _ => pe_call FI.ok hr rfl FI.mgn FI.kp FI.bn .nil pass0 (pa_cons (pv 1) pa_nil)))) pa_nil)))) pss_never pss_nil)
      (pss_one (ps_for PassesOwn.never rfl (pi_list (pe_callB (call_sortedD rfl) (by rfl) T.srt (by decide +kernel) (pa_cons (pv 0) pa_nil))) (pg_name (i := 1) scNeed.nd rfl (.inl rfl))
        (pss_cons (ps_set (i := 2) scNeed.nd rfl (.inl rfl) (pe_dget hu (pv 0) (pv 1) (fun _ _ => rfl)))
        (pss_cons (ps_if (PW.pt (pw_or (pt_not (pt_val (pe_callB call_isi (by rfl) T.isi (by decide +kernel) (pa_cons (pv 2) (pa_cons (pe_bltn (v := .ty "str") (u := .type "str") (by rfl) T.str (by decide +kernel) rfl) pa_nil)))))
          (pw_or1 (PW.pt (pw_and (pt_cmpR op_ne (pv 2) (pe_cval (pe_glob (v := .ref CF) (by rfl) Z.gF rfl)) (nomark _)) (pw_and1 (pt_cmp (pc_dnotin hu (pv 2) (pv 0))))))))) pss_never pss_nil)
        (pss_one (ps_if (pt_val (pe_call FA.ok hr rfl FA.mgn FA.kp FA.bn .nil pass0 (pa_cons (pe_lock (pe_dc (own := [("other", 3)]) (g := gName 3) (tt := tB (tCB (rIsi K) (tCons (tDGet (tVar 0) (tVar 3)) (tCons (tC (.ty "str")) tNil)))) rfl scNeed.nd (pi_keys (pv 0))
          (blkOk_by (N := ["parents", "name", "above", "other"]) (sc := defScope s_need_parents) (by decide +kernel))
          (fun _ _ _ _ _ => pg_name (i := 3) scNeed.nd rfl (Or.inl rfl)) (fun _ _ _ _ _ => pts_one (pt_val (pe_callB call_isi (by rfl) T.isi (by decide +kernel) (pa_cons (pe_dget hu (pv 0) (pv 3) (fun _ _ => rfl)) (pa_cons (pe_bltn (v := .ty "str") (u := .type "str") (by rfl) T.str (by decide +kernel) rfl) pa_nil)))))
          (fun _ _ _ _ _ => pv 3) (fun _ _ _ _ _ => pe_dget hu (pv 0) (pv 3) (fun _ _ => rfl)))) (pa_cons (pv 1) pa_nil)))) pss_never pss_nil))))))), ?_⟩
    have few := o.few
    have one := o.one
    have big : 1000 ≤ sizeLine := by decide
    have lp := prs_len t
    -- a dict, of one to twelve
    refine ⟨_, rfl, .ref q, _, _, _, true, rfl, .ty _, .base (.dK hq), kit_ty (by decide +kernel), true, rfl, ?_⟩
    refine iteF ?_
    refine ⟨_, rfl, q, _, rfl, hq, _, _, rfl, rfl, _, rfl, ?_⟩
    rw [if_pos (decide_eq_true (by omega))]
    refine ⟨CF, mc, _, um, rfl, Z.rd, cm, _, _, rfl, rfl, _, rfl, ?_⟩
    rw [decide_eq_true (show ((prs t).length : Int) ≤ 12 by omega)]
    refine iteF ?_
    -- all are names
    refine ⟨q, .dK (prs t), hq, trivial, fun od => ⟨_, rfl, q, od, rfl, .inl ⟨prs t, upd_same, fun D nD => ?_⟩⟩⟩
    have Dq : D ≠ q := (ne_of_none upd_same nD).symm
    have key : ∀ {i : Nat} {k : Key} {v : V}, (prs t)[i]? = some (k, v) → ∃ a p : Str, k = Sum.inr a ∧ v = .str p ∧ t[i]? = some (a, p) := fun {i k v} h => by
      unfold prs kvT at h
      rw [List.map_map, List.getElem?_map] at h
      obtain ⟨⟨a, p⟩, hp, e⟩ := Option.map_eq_some_iff.mp h
      cases e
      exact ⟨a, p, rfl, rfl, hp⟩
    refine lc_it walk_keys (fun i H' => Same (upd H q (.frz od (.dK (prs t)))) H' ∧ H' D = some (.lst ((List.replicate i true).map V.bl))) ⟨same_new nD, upd_same⟩ (fun i H' _ z => z.1 q _ upd_same) ?_ ?_
    · intro i x Ha Hb hi ⟨q1, q2⟩ ⟨e, k', v, hk, ex⟩
      subst e
      subst ex
      obtain ⟨a, p, rfl, rfl, hp⟩ := key hk
      refine ⟨rfl, ?_⟩
      refine ⟨_, rfl, a, rfl, o.nm a (List.mem_map.mpr ⟨(a, p), List.mem_of_getElem? hp, rfl⟩), fun H' s' => ⟨_, s' D _ q2, ?_, ?_, ?_⟩⟩
      · rw [List.length_map, List.length_replicate]
        omega
      · intro b u e
        rw [upd_ne (ne_of_none e nD)]
        exact s' _ _ (q1 b u e)
      · rw [upd_same, List.replicate_succ', List.map_append] <;> rfl
    intro H1 ⟨q1, q2⟩
    refine ⟨q1 q _ upd_same, D, _, rfl, SqL.of (by rw [upd_ne Dq]; exact q2), true, by rw [show (List.replicate (prs t).length true).all id = true by simp], ?_⟩
    refine iteF ?_
    have s1 : Same H (upd H1 q (.dK (prs t))) := unlock_same hq q1
    -- one by one, in their order
    refine ⟨_, rfl, q, prs t, t.map Prod.fst, rfl, .inl upd_same, prs_keys t, by rw [List.length_map]; omega, fun ys p perm srt np => ⟨p, rfl, ⟨_, SqL.of upd_same⟩, ?_⟩⟩
    obtain ⟨H2, e2⟩ : ∃ X, X = upd (upd H1 q (.dK (prs t))) p (.lst (ys.map V.str)) := ⟨_, rfl⟩
    have s2 : Same H H2 := s1.trans (e2 ▸ same_new np)
    have at2 : H2 p = some (.lst (ys.map V.str)) := by rw [e2]; exact upd_same
    rw [← e2]
    refine for_it walk_list (fun j σ' H' => (∃ u1 u2 u3, σ' = [some (.ref q), u1, u2, u3]) ∧ Same H2 H') ⟨⟨_, _, _, rfl⟩, fun _ _ e => e⟩ (fun j σ' H' _ z => SqL.of (z.2 _ _ at2)) ?_ ?_
    · intro j x σ' Ha Hb hj ⟨⟨u1, u2, u3, e⟩, sa⟩ ⟨eb, ex⟩
      subst e
      subst eb
      rw [List.getElem?_map] at ex
      obtain ⟨a, ha, rfl⟩ := Option.map_eq_some_iff.mp ex
      have ma : a ∈ t.map Prod.fst := perm.mem_iff.mp (List.mem_of_getElem? ha)
      obtain ⟨pa, hv, hpa, ia⟩ := o.step r ma
      have s0a : Same H Hb := s2.trans sa
      have hqa := s0a _ _ hq
      refine ⟨_, rfl, _, rfl, q, V.str pa, rfl, by have z := DGet.k (k := Sum.inr a) hqa; rw [val_prs, hv] at z; exact z, ?_⟩
      refine ⟨_, rfl, .str pa, _, _, _, true, rfl, .ty _, .base (.str pa), kit_ty (by decide +kernel), true, rfl, ?_⟩
      refine iteF ?_
      have anc : tIfS (tB (tCall spIsAnc [] E0 (tCons (tLockE (tDc (iKeys (tVar 0)) (gName 3) (tB (tCB (rIsi K) (tCons (tDGet (tVar 0) (tVar 3)) (tCons (tC (.ty "str")) tNil)))) (tVar 3) (tDGet (tVar 0) (tVar 3)) [3])) (tCons (tVar 1) tNil)))) tNever tNext
          ⟨fun σ' H' => (∃ u1 u2 u3, σ' = [some (.ref q), u1, u2, u3]) ∧ Same H2 H', fun v H' => Q v H', fun σ' H' => Q .non H', fun σ' H' => (∃ u1 u2 u3, σ' = [some (.ref q), u1, u2, u3]) ∧ Same H2 H'⟩ [some (.ref q), some (.str a), some (.str pa), u3] Hb := by
        refine ⟨q, .dK (prs t), hqa, trivial, fun od => ⟨_, rfl, q, od, rfl, .inl ⟨prs t, upd_same, fun D nD => ?_⟩⟩⟩
        have Dq : D ≠ q := (ne_of_none upd_same nD).symm
        refine dc_it walk_keys (fun i H' => Same (upd Hb q (.frz od (.dK (prs t)))) H' ∧ H' D = some (.dK (prs (t.take i)))) ⟨same_new nD, upd_same⟩ (fun i H' _ z => z.1 q _ upd_same) ?_ ?_
        · intro i x Hc Hd hi ⟨q1, q2⟩ ⟨e, k', v, hk, ex⟩
          subst e
          subst ex
          obtain ⟨b, r', rfl, rfl, hp⟩ := key hk
          have fz := q1 q _ upd_same
          have dg : DGet Hd q (.str b) (some (.str r')) := .inl ⟨prs t, Sum.inr b, .inr ⟨od, fz⟩, rfl, by rw [val_prs, par_of o.nd (List.mem_of_getElem? hp)] <;> rfl⟩
          have nb : b ∉ (t.take i).map Prod.fst := fun hm => by
            rw [List.map_take] at hm
            obtain ⟨j, hj⟩ := List.mem_iff_getElem?.mp hm
            have jl := (List.getElem?_eq_some_iff.mp hj).1
            rw [List.length_take] at jl
            rw [List.getElem?_take, if_pos (by omega)] at hj
            have e0 : (t.map Prod.fst)[i]? = some b := by rw [List.getElem?_map, hp] <;> rfl
            have := (List.getElem?_inj (by omega) o.nd).mp (hj.trans e0.symm)
            omega
          refine ⟨rfl, ?_⟩
          refine ⟨_, rfl, _, rfl, q, _, rfl, dg, .str r', _, _, _, true, rfl, .ty _, .base (.str r'), kit_ty (by decide +kernel), true, rfl, ?_⟩
          show if true = true then _ else _
          rw [if_pos rfl]
          refine ⟨_, rfl, _, rfl, _, rfl, q, _, rfl, dg, prs (t.take i), Sum.inr b, rfl, q2, ?_, ?_, ?_⟩
          · rw [prs_len, List.length_take]
            omega
          · intro c u e
            rw [upd_ne (ne_of_none e nD)]
            exact q1 c u e
          · rw [upd_same, put_new nb, take_more hp]
        · intro Hc ⟨q1, q2⟩
          rw [lp, List.take_length] at q2
          refine ⟨q1 q _ upd_same, _, rfl, D, a, t, rfl, by rw [upd_ne Dq]; exact q2, o, ma, fun H' s' => ⟨false, rfl, iteF ⟨⟨_, _, _, rfl⟩, (sa.trans (unlock_same hqa q1)).trans s'⟩⟩⟩
      rcases hpa with rfl | ⟨hp, _⟩
      · refine ⟨_, rfl, CF, mc, _, ur, rfl, Z.rd, cr, rfl, _, rfl, ?_⟩
        rw [decide_eq_true rfl]
        refine iteF ?_
        exact iteF anc
      · obtain ⟨pp, hv2, _⟩ := o.step r hp
        refine ⟨_, rfl, CF, mc, _, ur, rfl, Z.rd, cr, rfl, _, rfl, ?_⟩
        have ne : ¬ V.str pa = V.str "" := fun e => o.root (by rw [← V.str.inj e]; exact hp)
        rw [decide_eq_false ne]
        show if true = true then _ else _
        rw [if_pos rfl]
        refine ⟨_, rfl, _, rfl, q, V.str pp, rfl, by have z := DGet.k (k := Sum.inr pa) hqa; rw [val_prs, hv2] at z; exact z, _, rfl, ?_⟩
        exact iteF anc
    · intro σ' H' ⟨_, sa⟩
      exact k H' (s2.trans sa)
/-! ### Forest -/
/-- a forest at x, its pairs ts -/
def FAt (CF : Addr) (H : Hp) (x : Addr) (ts : List (Str × Str)) : Prop := ∃ dx dq, H x = some (.ins CF dx [("above", .ref dq)]) ∧ H dq = some (.dK (prs ts))
theorem FAt.mono {CF x : Addr} {H H' : Hp} {ts : List (Str × Str)} (s : Same H H') (h : FAt CF H x ts) : FAt CF H' x ts := let ⟨dx, dq, e1, e2⟩ := h; ⟨dx, dq, s _ _ e1, s _ _ e2⟩
/-- in ascending order -/
def Asc (ts : List (Str × Str)) : Prop := PyProof.Rows.sortedS (ts.map Prod.fst) = true
/-- facts of a class of the text -/
structure FoC (K : PySem.W.Frag) (CF : Addr) : Prop where
  cl : Cls K CF
  nA : NoAttr K CF "above"
def spFInit (CF : Addr) : Sp := fun vs H Q _ => ∃ (x q dx : Addr) (t : List (Str × Str)), vs = [.ref x, .ref q] ∧ H x = some (.ins CF dx []) ∧ H q = some (.dK (prs t)) ∧ TreeOk t ∧
  ∀ (H' : Hp) (ts : List (Str × Str)), ts.Perm t → Asc ts → FAt CF H' x ts → (∀ b o, b ≠ x → H b = some o → H' b = some o) → Q .non H'
def spFFlags (CF : Addr) : Sp := fun vs H Q _ => ∃ (x : Addr) (ts : List (Str × Str)), vs = [.ref x] ∧ FAt CF H x ts ∧ ∀ p, H p = none → Q (.ref p) (upd H p (.lst ((ts.map Prod.fst).map V.str)))
def spFParents (CF : Addr) : Sp := fun vs H Q _ => ∃ (x : Addr) (ts : List (Str × Str)), vs = [.ref x] ∧ FAt CF H x ts ∧ ∀ p, H p = none → Q (.ref p) (upd H p (.dK (prs ts)))
theorem scFInit : FnScope ["self", "parents", "name"] ["self", "parents"] (defScope s_Forest___init__) := ⟨rfl, rfl, rfl, by decide +kernel, rfl, by decide +kernel, by decide +kernel⟩
theorem perm_pairs : ∀ {ts t : List (Str × Str)}, (t.map Prod.fst).Nodup → (ts.map Prod.fst).Perm (t.map Prod.fst) → (∀ p ∈ ts, p ∈ t) → ts.Perm t
  | [], t, _, pf, _ => by
    have := pf.length_eq
    rw [List.length_map, List.length_map] at this
    rw [List.length_eq_zero_iff.mp (this.symm : t.length = 0)]
  | p :: ts, t, nd, pf, h => by
    have mp := h p (List.mem_cons_self ..)
    have pe := List.perm_cons_erase mp
    have pk : (ts.map Prod.fst).Perm ((t.erase p).map Prod.fst) := (pf.trans (pe.map Prod.fst)).cons_inv
    have nk := (pe.map Prod.fst).nodup_iff.mp nd
    obtain ⟨n1, n2⟩ := List.nodup_cons.mp (show (p.1 :: (t.erase p).map Prod.fst).Nodup from nk)
    refine ((perm_pairs n2 pk fun q hq => ?_).cons p).trans pe.symm
    rcases List.mem_cons.mp (pe.mem_iff.mp (h q (List.mem_cons_of_mem _ hq))) with e | m
    · exfalso
      refine n1 (pk.mem_iff.mp (List.mem_map.mpr ⟨q, hq, ?_⟩))
      rw [e]
    · exact m
theorem ok_finit {f fN CF : Addr} {fd fdN : FuncData} (F : Fun K "__init__" "Forest.__init__" s_Forest___init__ f fd) (T : Nm mg) (O : FoC K CF) (GN : Dn P w K mg base CX0 2 "need_parents" ["parents"] spNeed fN fdN) :
    FnOk P w K mg base CX0 3 f fd ["self", "parents"] (spFInit CF) := by
  refine F.ok scFInit (fun vs H Q E h => ?_) (fun cdv A outer s H vs Q E hr h => ?_)
  · obtain ⟨x, q, dx, t, rfl, _⟩ := h
    rfl
  · obtain ⟨x, q, dx, t, rfl, hx, hq, o, k⟩ := h
    have hu := hu_of hr
    refine ⟨_, pss_cons (ps_expr (pe_call GN.ok hr rfl GN.mgn GN.kp GN.bn .nil pass0 (pa_cons (pv 1) pa_nil)))
      (pss_one (ps_fld (pv 0) (pe_dc (own := [("name", 2)]) (g := gName 2) (tt := tYes) rfl scFInit.nd (pi_list (pe_callB (call_sortedD rfl) (by rfl) T.srt (by decide +kernel) (pa_cons (pv 1) pa_nil)))
        (blkOk_by (N := ["self", "parents", "name"]) (sc := defScope s_Forest___init__) (by decide +kernel))
        (fun _ _ _ _ _ => pg_name (i := 2) scFInit.nd rfl (Or.inl rfl)) (fun _ _ _ _ _ => pts_nil) (fun _ _ _ _ _ => pv 2) (fun _ _ _ _ _ => pe_dget hu (pv 1) (pv 2) (fun _ _ => rfl))) rfl)), ?_⟩
    have few := o.few
    have big : 1000 ≤ sizeLine := by decide
    refine ⟨_, rfl, q, t, rfl, hq, o, fun H1 s1 => ?_⟩
    have hq1 := s1 _ _ hq
    refine ⟨_, rfl, q, prs t, t.map Prod.fst, rfl, .inl hq1, prs_keys t, by rw [List.length_map]; omega, fun ys p perm srt np => ⟨p, rfl, ⟨_, SqL.of upd_same⟩, fun D nD => ?_⟩⟩
    obtain ⟨H2, e2⟩ : ∃ X, X = upd H1 p (.lst (ys.map V.str)) := ⟨_, rfl⟩
    have s2 : Same H H2 := s1.trans (e2 ▸ same_new np)
    have at2 : H2 p = some (.lst (ys.map V.str)) := by rw [e2]; exact upd_same
    rw [← e2] at nD ⊢
    have ndy : ys.Nodup := perm.nodup_iff.mpr o.nd
    have ly := perm.length_eq
    rw [List.length_map] at ly
    refine dc_it walk_list (fun i H' => Same H2 H' ∧ ∃ ts : List (Str × Str), H' D = some (.dK (prs ts)) ∧ ts.map Prod.fst = ys.take i ∧ ∀ p ∈ ts, p ∈ t) ⟨same_new nD, [], upd_same, by rw [List.take_zero] <;> rfl, fun p h => by cases h⟩ (fun i H' _ z => SqL.of (z.1 _ _ at2)) ?_ ?_
    · intro i y Ha Hb hi ⟨q1, ts, hD, ets, hts⟩ ⟨eb, ex⟩
      subst eb
      rw [List.getElem?_map] at ex
      obtain ⟨a, ha, rfl⟩ := Option.map_eq_some_iff.mp ex
      have ma : a ∈ t.map Prod.fst := perm.mem_iff.mp (List.mem_of_getElem? ha)
      obtain ⟨pa, hv⟩ := par_some o.nd ma
      have hqa := q1 _ _ (s2 _ _ hq)
      have fresh : a ∉ ts.map Prod.fst := by
        rw [ets]
        intro hm
        obtain ⟨j, hj⟩ := List.mem_iff_getElem?.mp hm
        have jl := (List.getElem?_eq_some_iff.mp hj).1
        have il := (List.getElem?_eq_some_iff.mp ha).1
        rw [List.length_take] at jl
        rw [List.getElem?_take, if_pos (by omega)] at hj
        have := (List.getElem?_inj (by omega) ndy).mp (hj.trans ha.symm)
        omega
      have lt := congrArg List.length ets
      rw [List.length_map, List.length_take] at lt
      refine ⟨rfl, ?_⟩
      refine ⟨_, rfl, _, rfl, _, rfl, q, V.str pa, rfl, by have z := DGet.k (k := Sum.inr a) hqa; rw [val_prs, hv] at z; exact z, prs ts, Sum.inr a, rfl, hD, by rw [prs_len]; omega, ?_, ts ++ [(a, pa)], ?_, ?_, fun z hz => ?_⟩
      · intro b u e
        rw [upd_ne (ne_of_none e nD)]
        exact q1 b u e
      · rw [upd_same, put_new fresh]
      · rw [List.map_append, ets, take_more ha] <;> rfl
      · rcases List.mem_append.mp hz with h | h
        · exact hts z h
        · rw [List.mem_singleton.mp h]
          exact par_mem hv
    · intro H3 ⟨q1, ts, hD, ets, hts⟩
      rw [List.length_map, List.take_length] at ets
      have s3 : Same H H3 := s2.trans q1
      refine ⟨_, rfl, x, CF, dx, [], rfl, s3 _ _ hx, O.cl, O.nA, by show 0 < 1000; decide, ?_⟩
      have xD : D ≠ x := (ne_of_none (s2 _ _ hx) nD).symm
      refine k _ ts (perm_pairs o.nd (by rw [ets]; exact perm) hts) (by unfold Asc; rw [ets]; exact srt) ⟨dx, D, upd_same, by rw [upd_ne xD]; exact hD⟩ fun b u bx e => ?_
      rw [upd_ne bx]
      exact s3 b u e
theorem scFFlags : FnScope ["self"] ["self"] (defScope s_Forest_flags) := ⟨rfl, rfl, rfl, by decide +kernel, rfl, by decide +kernel, by decide +kernel⟩
theorem ok_fflags {f CF : Addr} {fd : FuncData} (F : Fun K "flags" "Forest.flags" s_Forest_flags f fd) (T : Nm mg) (O : FoC K CF) : FnOk P w K mg base CX0 1 f fd ["self"] (spFFlags CF) := by
  refine F.ok scFFlags (fun vs H Q E h => ?_) (fun cdv A outer s H vs Q E hr h => ?_)
  · obtain ⟨x, ts, rfl, _⟩ := h
    rfl
  · obtain ⟨x, ts, rfl, ⟨dx, dq, hx, hd⟩, k⟩ := h
    refine ⟨_, pss_one (ps_ret (pe_callTy (call_listD rfl) (by rfl) T.lst (by decide +kernel) (pa_cons (pe_fld (pv 0) rfl) pa_nil))), ?_⟩
    refine ⟨_, rfl, x, CF, dx, _, .ref dq, rfl, hx, O.cl, O.nA, rfl, dq, prs ts, rfl, .inl hd, fun p np => ?_⟩
    rw [keys_prs]
    exact k p np
theorem scFParents : FnScope ["self"] ["self"] (defScope s_Forest_parents) := ⟨rfl, rfl, rfl, by decide +kernel, rfl, by decide +kernel, by decide +kernel⟩
theorem ok_fparents {f CF : Addr} {fd : FuncData} (F : Fun K "parents" "Forest.parents" s_Forest_parents f fd) (T : Nm mg) (O : FoC K CF) : FnOk P w K mg base CX0 1 f fd ["self"] (spFParents CF) := by
  refine F.ok scFParents (fun vs H Q E h => ?_) (fun cdv A outer s H vs Q E hr h => ?_)
  · obtain ⟨x, ts, rfl, _⟩ := h
    rfl
  · obtain ⟨x, ts, rfl, ⟨dx, dq, hx, hd⟩, k⟩ := h
    refine ⟨_, pss_one (ps_ret (pe_callTy call_dictD (by rfl) T.dct (by decide +kernel) (pa_cons (pe_fld (pv 0) rfl) pa_nil))), ?_⟩
    exact ⟨_, rfl, x, CF, dx, _, .ref dq, rfl, hx, O.cl, O.nA, rfl, dq, prs ts, rfl, .inl hd, fun p np => k p np⟩
/-- a property of a class -/
structure Pr1 (P : Program) (w : World) (K : PySem.W.Frag) (mg : Str → Option Value) (base : Heap) (CF : Addr) (x : Str) (sp : Sp) (p g : Addr) (fd : FuncData) : Prop where
  pr : PropOf K CF x p g
  fn : FnOk P w K mg base CX0 1 g fd ["self"] sp
  bn : Binds K fd ["self"] []
def spPlacesOf (CF : Addr) : Sp := fun vs H Q _ => ∃ (x : Addr) (ts : List (Str × Str)), vs = [.ref x] ∧ FAt CF H x ts ∧ ts.length ≤ 12 ∧ ∀ p H', Same H H' → H p = none → H' p = some (.lst ((("" : Str) :: ts.map Prod.fst).map V.str)) → Q (.ref p) H'
end
end FT


/-! the package's errors: their __init__, how they are raised. -/
namespace FT
open PySem L2 TL ClX
/-- what the top has written of an error class at C, its __init__ at I; f its attribute, or the empty text -/
structure Er (K : PySem.W.Frag) (mg : Str → Option Value) (nm f : Str) (C I : Addr) : Prop where
  g : mg nm = some (.ref C)
  x : XCls K C
  ini : PySem.W.findIn K (.ref C) "__init__" = some (some (.ref I))
  ity : PySem.W.typeIn K (.ref I) = some (.type "function")
  no : PySem.W.findIn K (.ref C) f = some none
/-- the base class -/
structure Rt (K : PySem.W.Frag) (mg : Str → Option Value) (R : Addr) : Prop where
  g : mg "RolloutError" = some (.ref R)
  ini : XIni K R
def spInit1 (C : Addr) (f : Str) : Sp := fun vs H Q _ => ∃ (a : Addr) (v : V), vs = [.ref a, v] ∧ H a = some (exo a C none) ∧ ∀ d, H d = none → d ≠ a → Q .non (upd (upd H d (exd d [(f, v)])) a (exo a C (some d)))
def spInit0 (C : Addr) : Sp := fun vs H Q _ => ∃ (a : Addr), vs = [.ref a] ∧ H a = some (exo a C none) ∧ Q .non H
/-- C(v): what is asked -/
theorem raise1 {C : Addr} {f : Str} {H1 : Hp} {Q : XK} {v : V} (k : ∀ d, H1 d = none → Q (.ref C) (some d) (upd H1 d (.xd [(f, v)]))) :
    [v].length ≤ 1000 ∧ ∀ a, H1 a = none → spInit1 C f (.ref a :: ([v] ++ [])) (upd H1 a (exo a C none))
      (fun w H2 => w = .non ∧ ∃ (d : Addr) (fs : List (Str × V)), H2 a = some (exo a C (some d)) ∧ H2 d = some (exd d fs) ∧ H1 d = none ∧ Q (.ref C) (some d) (upd (del H2 a) d (.xd fs))) (fun _ _ _ => False) := by
  refine ⟨by show 1 ≤ 1000; omega, fun a na => ⟨a, v, rfl, upd_same, fun d nd nda => ⟨rfl, d, [(f, v)], upd_same, by rw [upd_ne nda, upd_same], ?_, ?_⟩⟩⟩
  · rw [upd_ne nda] at nd
    exact nd
  · rw [upd_ne nda] at nd
    have e : upd (del (upd (upd (upd H1 a (exo a C none)) d (exd d [(f, v)])) a (exo a C (some d))) a) d (.xd [(f, v)]) = upd H1 d (.xd [(f, v)]) := by
      funext b
      by_cases h1 : b = d
      · subst h1
        rw [upd_same, upd_same]
      · rw [upd_ne h1, upd_ne h1]
        by_cases h2 : b = a
        · subst h2
          rw [del_same, na]
        · rw [del_ne h2, upd_ne h2, upd_ne h1, upd_ne h2]
    rw [e]
    exact k d nd
/-- C(): what is asked -/
theorem raise0 {C : Addr} {H1 : Hp} {Q : XK} (k : Q (.ref C) none H1) :
    ([] : List V).length ≤ 1000 ∧ ∀ a, H1 a = none → spInit0 C (.ref a :: ([] ++ [])) (upd H1 a (exo a C none)) (fun v H2 => v = .non ∧ H2 a = some (exo a C none) ∧ Q (.ref C) none (del H2 a)) (fun _ _ _ => False) := by
  refine ⟨Nat.zero_le _, fun a na => ⟨a, rfl, upd_same, rfl, upd_same, ?_⟩⟩
  have e : del (upd H1 a (exo a C none)) a = H1 := by
    funext b
    by_cases h : b = a
    · subst h
      rw [del_same, na]
    · rw [del_ne h, upd_ne h]
  rw [e]
  exact k
/-- an error class with its __init__, as a whole: with one value -/
structure Er1 (P : Program) (w : World) (K : PySem.W.Frag) (mg : Str → Option Value) (base : Heap) (nm f : Str) (C I : Addr) (fd : FuncData) : Prop where
  e : Er K mg nm f C I
  fn : FnOk P w K mg base CX0 1 I fd ["self", f] (spInit1 C f)
  bn : Binds K fd ["self", f] []
structure Er0 (P : Program) (w : World) (K : PySem.W.Frag) (mg : Str → Option Value) (base : Heap) (nm : Str) (C I : Addr) (fd : FuncData) : Prop where
  e : Er K mg nm "" C I
  fn : FnOk P w K mg base CX0 1 I fd ["self"] (spInit0 C)
  bn : Binds K fd ["self"] []
section
variable {X : Cx} {W : WX} {nm f : Str} {C I : Addr} {fd : FuncData} {ex : Expr} {te : TE} {p pos pos2 : Pos}
/-- raise C(e) -/
theorem ps_err1 (L : Er1 X.prog X.w X.K X.mg X.base nm f C I fd) (hc : X.calm = true) (tk : Takes X W) (hr : Room 2 X.A) (hg : Gl X nm) (he : PE X ex te) (hdb : (nm == ("__debug__" : Str)) = false := by decide)
    (hse : starEach (ex :: []) X.env = (false, eval ex X.env) :: starEach [] X.env := by rfl) (hpl : (backTo pos (starEach [] X.env)).any (·.1) = false := by rfl) :
    PS X (.Raise (some (.Call (.Name nm p) [ex] [] pos)) none pos2) (fun _ σ H => tMkO C (spInit1 C f) [] (tCons te tNil) σ H fun cls d H' => W cls d σ H') :=
  ps_raise hc tk (pmk_oex L.e.x.oex L.e.ini L.e.ity L.fn hr L.bn .nil (fun _ _ _ _ _ _ _ h => h.elim) hg L.e.g (pa_cons (hs := hse) he pa_nil) hdb hse hpl)
/-- raise C() -/
theorem ps_err0 (L : Er0 X.prog X.w X.K X.mg X.base nm C I fd) (hc : X.calm = true) (tk : Takes X W) (hr : Room 2 X.A) (hg : Gl X nm) (hdb : (nm == ("__debug__" : Str)) = false := by decide) :
    PS X (.Raise (some (.Call (.Name nm p) [] [] pos)) none pos2) (fun _ σ H => tMkO0 C (spInit0 C) [] tNil σ H fun cls d H' => W cls d σ H') :=
  ps_raise hc tk (pmk_none L.e.x.oex L.e.ini L.e.ity L.fn hr L.bn .nil (fun _ _ _ _ _ _ _ h => h.elim) hg L.e.g hdb)
end
end FT


namespace FT
open PySem L2 TL ClX
section
variable {P : Program} {w : World} {K : PySem.W.Frag} {mg : Str → Option Value} {base : Heap}
theorem sc_InvalidUsers : FnScope ["self"] ["self"] (defScope s_InvalidUsers___init__) := ⟨rfl, rfl, rfl, by decide +kernel, rfl, by decide +kernel, by decide +kernel⟩
theorem ok_InvalidUsers {f R C I : Addr} {fd : FuncData} (F : Fun K "__init__" "InvalidUsers.__init__" s_InvalidUsers___init__ f fd) (T : Rt K mg R) (L : Er K mg "InvalidUsers" "" C I) : FnOk P w K mg base CX0 1 f fd ["self"] (spInit0 C) := by
  refine F.ok sc_InvalidUsers (fun vs H Q E h => ?_) (fun cdv A outer s H vs Q E hr h => ?_)
  · obtain ⟨a, rfl, _⟩ := h
    rfl
  · obtain ⟨a, rfl, ha, k⟩ := h
    refine ⟨_, pss_one (ps_expr (pe_clsinit T.ini rfl T.g (pa_cons (pv 0) (pa_cons pe_str pa_nil)))), ?_⟩
    exact ⟨_, rfl, a, C, _, rfl, by show 1 ≤ 1000; omega, L.x.oex, ha, k⟩
theorem sc_InvalidSizes : FnScope ["self", "place"] ["self", "place"] (defScope s_InvalidSizes___init__) := ⟨rfl, rfl, rfl, by decide +kernel, rfl, by decide +kernel, by decide +kernel⟩
theorem ok_InvalidSizes {f R C I : Addr} {fd : FuncData} (F : Fun K "__init__" "InvalidSizes.__init__" s_InvalidSizes___init__ f fd) (T : Rt K mg R) (L : Er K mg "InvalidSizes" "place" C I) : FnOk P w K mg base CX0 1 f fd ["self", "place"] (spInit1 C "place") := by
  refine F.ok sc_InvalidSizes (fun vs H Q E h => ?_) (fun cdv A outer s H vs Q E hr h => ?_)
  · obtain ⟨a, v, rfl, _⟩ := h
    rfl
  · obtain ⟨a, v, rfl, ha, k⟩ := h
    refine ⟨_, pss_cons (ps_expr (pe_clsinit T.ini rfl T.g (pa_cons (pv 0) (pa_cons pe_str pa_nil)))) (pss_one (ps_ost (pv 0) (pv 1))), ?_⟩
    refine ⟨_, rfl, a, C, _, rfl, by show 1 ≤ 1000; omega, L.x.oex, ha, ?_⟩
    exact ⟨_, rfl, _, rfl, a, C, rfl, L.x.oex, L.no, .inl ⟨ha, fun d nd nda => k d nd nda⟩⟩
theorem sc_NeedsMemory : FnScope ["self"] ["self"] (defScope s_NeedsMemory___init__) := ⟨rfl, rfl, rfl, by decide +kernel, rfl, by decide +kernel, by decide +kernel⟩
theorem ok_NeedsMemory {f R C I : Addr} {fd : FuncData} (F : Fun K "__init__" "NeedsMemory.__init__" s_NeedsMemory___init__ f fd) (T : Rt K mg R) (L : Er K mg "NeedsMemory" "" C I) : FnOk P w K mg base CX0 1 f fd ["self"] (spInit0 C) := by
  refine F.ok sc_NeedsMemory (fun vs H Q E h => ?_) (fun cdv A outer s H vs Q E hr h => ?_)
  · obtain ⟨a, rfl, _⟩ := h
    rfl
  · obtain ⟨a, rfl, ha, k⟩ := h
    refine ⟨_, pss_one (ps_expr (pe_clsinit T.ini rfl T.g (pa_cons (pv 0) (pa_cons pe_str pa_nil)))), ?_⟩
    exact ⟨_, rfl, a, C, _, rfl, by show 1 ≤ 1000; omega, L.x.oex, ha, k⟩
end
end FT


/-! data of any kind; what is raised; numbers by places -/
namespace FT
open PySem L2 TL ClX
/-! ### data of any kind -/
inductive Dat (K : PySem.W.Frag) (H : Hp) : V → String → Prop where
  | non : Dat K H .non "NoneType"
  | bl (b : Bool) : Dat K H (.bl b) "bool"
  | int (i : Int) : Dat K H (.int i) "int"
  | str (z : Str) : Dat K H (.str z) "str"
  | lst {a : Addr} {xs : List V} (h : H a = some (.lst xs)) : Dat K H (.ref a) "list"
  | tup {a : Addr} {xs : List V} (h : H a = some (.tup xs)) : Dat K H (.ref a) "tuple"
  | dct {a : Addr} {kvs : List (Key × V)} (h : H a = some (.dK kvs)) : Dat K H (.ref a) "dict"
theorem Dat.ty {K : PySem.W.Frag} {H : Hp} {v : V} {T : String} (d : Dat K H v T) : TyX K H v (.type T) := by
  cases d with
  | non => exact .base .non
  | bl b => exact .base (.bl b)
  | int i => exact .base (.int i)
  | str z => exact .base (.str z)
  | lst h => exact .base (.lst h)
  | tup h => exact .base (.tup h)
  | dct h => exact .base (.dK h)
theorem Dat.mono {K : PySem.W.Frag} {H H' : Hp} {v : V} {T : String} (s : Same H H') (d : Dat K H v T) : Dat K H' v T := by
  cases d with
  | non => exact .non
  | bl b => exact .bl b
  | int i => exact .int i
  | str z => exact .str z
  | lst h => exact .lst (s _ _ h)
  | tup h => exact .tup (s _ _ h)
  | dct h => exact .dct (s _ _ h)
def IsDat (K : PySem.W.Frag) (H : Hp) (v : V) : Prop := ∃ T, Dat K H v T
theorem IsDat.mono {K : PySem.W.Frag} {H H' : Hp} {v : V} (s : Same H H') (d : IsDat K H v) : IsDat K H' v := let ⟨T, d⟩ := d; ⟨T, d.mono s⟩
/-- isinstance(v, int) -/
def isIntV : V → Bool
  | .int _ => true
  | .bl _ => true
  | _ => false
def isBlV : V → Bool
  | .bl _ => true
  | _ => false
def isDictV (H : Hp) (v : V) : Bool := match v with
  | .ref a => match H a with
    | some (.dK _) => true
    | _ => false
  | _ => false
theorem Dat.int_ {K : PySem.W.Frag} {H : Hp} {v : V} {T : String} (d : Dat K H v T) : PySem.W.kitOne K (.type T) (.type "int") = some (isIntV v) := by
  cases d with
  | non => exact kit_ty (r := false) (by decide +kernel)
  | bl b => exact kit_ty (r := true) (by decide +kernel)
  | int i => exact kit_ty (r := true) (by decide +kernel)
  | str z => exact kit_ty (r := false) (by decide +kernel)
  | lst h => exact kit_ty (r := false) (by decide +kernel)
  | tup h => exact kit_ty (r := false) (by decide +kernel)
  | dct h => exact kit_ty (r := false) (by decide +kernel)
theorem Dat.bool_ {K : PySem.W.Frag} {H : Hp} {v : V} {T : String} (d : Dat K H v T) : PySem.W.kitOne K (.type T) (.type "bool") = some (isBlV v) := by
  cases d with
  | non => exact kit_ty (r := false) (by decide +kernel)
  | bl b => exact kit_ty (r := true) (by decide +kernel)
  | int i => exact kit_ty (r := false) (by decide +kernel)
  | str z => exact kit_ty (r := false) (by decide +kernel)
  | lst h => exact kit_ty (r := false) (by decide +kernel)
  | tup h => exact kit_ty (r := false) (by decide +kernel)
  | dct h => exact kit_ty (r := false) (by decide +kernel)
theorem Dat.dict_ {K : PySem.W.Frag} {H : Hp} {v : V} {T : String} (d : Dat K H v T) : PySem.W.kitOne K (.type T) (.type "dict") = some (decide (T = "dict")) := by
  cases d with
  | non => exact kit_ty (r := false) (by decide +kernel)
  | bl b => exact kit_ty (r := false) (by decide +kernel)
  | int i => exact kit_ty (r := false) (by decide +kernel)
  | str z => exact kit_ty (r := false) (by decide +kernel)
  | lst h => exact kit_ty (r := false) (by decide +kernel)
  | tup h => exact kit_ty (r := false) (by decide +kernel)
  | dct h => exact kit_ty (r := true) (by decide +kernel)
/-- an integer, no bool, of at least l -/
def isGe (v : V) (l : Int) : Bool := match v with
  | .int i => decide (l ≤ i)
  | _ => false
/-! ### what is raised -/
inductive Err where
  | e0 (C : Addr)
  | e1 (C : Addr) (f : Str) (v : V)
/-- the way out of such an error, from the heap H -/
def Out (H : Hp) (E : XK) : Err → Prop
  | .e0 C => ∀ H', Same H H' → E (.ref C) none H'
  | .e1 C f v => ∀ d H', Same H H' → H d = none → H' d = some (.xd [(f, v)]) → E (.ref C) (some d) H'
theorem Out.mono {H H1 : Hp} {E : XK} {e : Err} (s : Same H H1) (o : Out H E e) : Out H1 E e := by
  cases e with
  | e0 C => exact fun H' s' => o H' (s.trans s')
  | e1 C f v => exact fun d H' s' n => o d H' (s.trans s') (s.free n)
/-- raise C(v) in a def that lets it out -/
theorem out1 {C : Addr} {f : Str} {v : V} {H H1 : Hp} {E : XK} (o : Out H E (.e1 C f v)) (s : Same H H1) :
    [v].length ≤ 1000 ∧ ∀ a, H1 a = none → spInit1 C f (.ref a :: ([v] ++ [])) (upd H1 a (exo a C none))
      (fun w H2 => w = .non ∧ ∃ (d : Addr) (fs : List (Str × V)), H2 a = some (exo a C (some d)) ∧ H2 d = some (exd d fs) ∧ H1 d = none ∧ E (.ref C) (some d) (upd (del H2 a) d (.xd fs))) (fun _ _ _ => False) :=
  raise1 (Q := fun cls d H' => E cls d H') fun d nd => o d _ (s.trans (same_new nd)) (s.free nd) upd_same
theorem out0 {C : Addr} {H H1 : Hp} {E : XK} (o : Out H E (.e0 C)) (s : Same H H1) :
    ([] : List V).length ≤ 1000 ∧ ∀ a, H1 a = none → spInit0 C (.ref a :: ([] ++ [])) (upd H1 a (exo a C none)) (fun v H2 => v = .non ∧ H2 a = some (exo a C none) ∧ E (.ref C) none (del H2 a)) (fun _ _ _ => False) :=
  raise0 (Q := fun cls d H' => E cls d H') (o _ s)
/-! ### numbers by places -/
def tblI (l : List Str) (g : Str → Int) : List (Key × V) := kvT (l.map fun a => (a, V.int (g a)))
theorem tblI_len (l : List Str) (g : Str → Int) : (tblI l g).length = l.length := by unfold tblI; rw [kvT_len, List.length_map]
theorem tblI_fst (l : List Str) (g : Str → Int) : (l.map fun a => (a, V.int (g a))).map Prod.fst = l := by rw [List.map_map]; exact List.map_id _
theorem tblI_keys (l : List Str) (g : Str → Int) : (tblI l g).map (·.1) = l.map Sum.inr := by unfold tblI kvT; rw [List.map_map, List.map_map] <;> rfl
theorem tblI_at {l : List Str} {g : Str → Int} {i : Nat} {k : Key} {v : V} (h : (tblI l g)[i]? = some (k, v)) : ∃ a, l[i]? = some a ∧ k = Sum.inr a ∧ v = .int (g a) := by
  unfold tblI kvT at h
  rw [List.map_map, List.getElem?_map] at h
  obtain ⟨a, ha, e⟩ := Option.map_eq_some_iff.mp h
  cases e
  exact ⟨a, ha, rfl, rfl⟩
theorem tblI_val {l : List Str} {g : Str → Int} {a : Str} (h : a ∈ l) : valV (tblI l g) (Sum.inr a) = some (.int (g a)) := by
  unfold tblI
  rw [kvT_val]
  induction l with
  | nil => cases h
  | cons b l ih =>
    rw [List.map_cons, look_cons]
    by_cases e : b = a
    · subst e
      exact if_pos rfl
    · rw [if_neg e]
      exact ih ((List.mem_cons.mp h).resolve_left fun z => e z.symm)
theorem tblI_put {l : List Str} {g : Str → Int} {a : Str} {z : Int} (h : a ∈ l) : putK (tblI l g) (Sum.inr a) (.int z) = tblI l (fun p => if p = a then z else g p) := by
  unfold tblI
  rw [kvT_putT]
  unfold putT
  rw [if_pos (by rw [tblI_fst]; exact h), List.map_map]
  congr 1
  refine List.map_congr_left fun p _ => ?_
  show (if p = a then (p, V.int z) else (p, V.int (g p))) = (p, V.int (if p = a then z else g p))
  by_cases e : p = a
  · rw [if_pos e, if_pos e]
  · rw [if_neg e, if_neg e]
theorem tblI_snoc {l : List Str} {g : Str → Int} {a : Str} {z : Int} (h : a ∉ l) (e : z = g a) : putK (tblI l g) (Sum.inr a) (.int z) = tblI (l ++ [a]) g := by
  unfold tblI
  rw [kvT_put (by rw [tblI_fst]; exact h), List.map_append, e] <;> rfl
theorem tblI_congr {l : List Str} {g g' : Str → Int} (h : ∀ a ∈ l, g a = g' a) : tblI l g = tblI l g' := by
  unfold tblI
  rw [List.map_congr_left fun a ha => by rw [h a ha]]
/-! ### feasible sizes -/
/-- sizes: a dict, its pairs told, or another value -/
def SzV (K : PySem.W.Frag) (H : Hp) (sv : V) : Option (List (Key × V)) → Prop
  | some kvs => ∃ q, sv = .ref q ∧ H q = some (.dK kvs) ∧ ∀ p ∈ kvs, IsDat K H p.2
  | none => ∃ T, Dat K H sv T ∧ T ≠ "dict"
theorem SzV.mono {K : PySem.W.Frag} {H H' : Hp} {sv : V} {o : Option (List (Key × V))} (s : Same H H') (h : SzV K H sv o) : SzV K H' sv o := by
  cases o with
  | none => exact let ⟨T, d, n⟩ := h; ⟨T, d.mono s, n⟩
  | some kvs => exact let ⟨q, e, h, a⟩ := h; ⟨q, e, s _ _ h, fun p hp => (a p hp).mono s⟩
def szOf (kvs : List (Key × V)) (a : Str) : Int := match valV kvs (Sum.inr a) with
  | some (.int i) => i
  | _ => 0
def badKey (kvs : List (Key × V)) (a : Str) : Bool := !isGe ((valV kvs (Sum.inr a)).getD .non) 0
/-- the place of the first fault, as the error tells it -/
def feas (ts : List (Str × Str)) (n : Int) : Option (List (Key × V)) → Option V
  | none => some .non
  | some kvs => if kvs.length ≠ ts.length then some .non else if (ts.map Prod.fst).all (fun a => (valV kvs (Sum.inr a)).isSome) = false then some .non else
    match (ts.map Prod.fst).find? (badKey kvs) with
    | some a => some (.str a)
    | none => ((("" : Str) :: ts.map Prod.fst).find? fun p => decide (resid ts n (szOf kvs) p < 0)).map V.str
def usersOk (v : V) (m : Int) : Bool := match v with
  | .int i => decide (1 ≤ i) && decide (i ≤ m)
  | _ => false
def feE (CS : Addr) (ts : List (Str × Str)) (n : Int) (o : Option (List (Key × V))) : Option Err := (feas ts n o).map fun v => .e1 CS "place" v
def szE (CU CS : Addr) (ts : List (Str × Str)) (uv : V) (o : Option (List (Key × V))) : Option Err := if usersOk uv (10 ^ 30) = true then feE CS ts (match uv with | .int n => n | _ => 0) o else some (.e0 CU)
/-- a def that hands back None, or raises -/
def Res (H : Hp) (Q : VK) (E : XK) : Option Err → Prop
  | none => ∀ H', Same H H' → Q .non H'
  | some e => Out H E e
theorem Res.mono {H H1 : Hp} {Q : VK} {E : XK} {o : Option Err} (s : Same H H1) (r : Res H Q E o) : Res H1 Q E o := by
  cases o with
  | none => exact fun H' s' => r H' (s.trans s')
  | some e => exact Out.mono s r
def spIsInt (K : PySem.W.Frag) : Sp := fun vs H Q _ => ∃ (v : V) (l : Int), vs = [v, .int l] ∧ IsDat K H v ∧ Q (.bl (isGe v l)) H
def spUsers (K : PySem.W.Frag) (CU : Addr) : Sp := fun vs H Q E => ∃ (v : V) (m : Int), vs = [v, .int m] ∧ IsDat K H v ∧ Res H Q E (if usersOk v m = true then none else some (.e0 CU))
def spResid (CF : Addr) : Sp := fun vs H Q _ => ∃ (x q : Addr) (n : Int) (ts : List (Str × Str)) (kvs : List (Key × V)), vs = [.ref x, .int n, .ref q] ∧ FAt CF H x ts ∧ TreeOk ts ∧ H q = some (.dK kvs) ∧ (∀ a ∈ ts.map Prod.fst, valV kvs (Sum.inr a) = some (.int (szOf kvs a))) ∧
  ∀ p H', Same H H' → H p = none → H' p = some (.dK (tblI ("" :: ts.map Prod.fst) (resid ts n (szOf kvs)))) → Q (.ref p) H'
def spFeas (K : PySem.W.Frag) (CF CS : Addr) : Sp := fun vs H Q E => ∃ (x : Addr) (n : Int) (sv : V) (ts : List (Str × Str)) (o : Option (List (Key × V))), vs = [.ref x, .int n, sv] ∧ FAt CF H x ts ∧ TreeOk ts ∧ SzV K H sv o ∧ Res H Q E (feE CS ts n o)
def spNSizes (K : PySem.W.Frag) (CF CU CS : Addr) : Sp := fun vs H Q E => ∃ (x : Addr) (uv sv : V) (ts : List (Str × Str)) (o : Option (List (Key × V))), vs = [.ref x, uv, sv] ∧ FAt CF H x ts ∧ TreeOk ts ∧ IsDat K H uv ∧ SzV K H sv o ∧ Res H Q E (szE CU CS ts uv o)
end FT


namespace FT
open PySem L2 TL ClX
theorem valV_mem {kvs : List (Key × V)} {k : Key} {v : V} (h : valV kvs k = some v) : (k, v) ∈ kvs := by
  unfold valV at h
  obtain ⟨p, hp, e⟩ := Option.map_eq_some_iff.mp h
  have m := List.mem_of_find?_eq_some hp
  have q : p.1 = k := of_decide_eq_true (List.find?_some (p := fun kv : Key × V => decide (kv.1 = k)) hp)
  obtain ⟨k', v'⟩ := p
  cases e
  cases (show k' = k from q)
  exact m
theorem feas_some (ts : List (Str × Str)) (n : Int) (kvs : List (Key × V)) : feas ts n (some kvs) = if kvs.length ≠ ts.length then some .non else if (ts.map Prod.fst).all (fun a => (valV kvs (Sum.inr a)).isSome) = false then some .non else
    match (ts.map Prod.fst).find? (badKey kvs) with
    | some a => some (.str a)
    | none => ((("" : Str) :: ts.map Prod.fst).find? fun p => decide (resid ts n (szOf kvs) p < 0)).map V.str := rfl
theorem find_at {α : Type} {p : α → Bool} : ∀ {l : List α} {j : Nat} {a : α}, l[j]? = some a → (l.take j).find? p = none → p a = true → l.find? p = some a
  | [], j, a, h, _, _ => by simp at h
  | x :: l, 0, a, h, _, hp => by
    have e : x = a := Option.some.inj h
    subst e
    rw [List.find?_cons, hp]
  | x :: l, j + 1, a, h, hn, hp => by
    have hn' : (x :: l.take j).find? p = none := hn
    rw [List.find?_cons] at hn' ⊢
    cases e : p x with
    | true =>
      rw [e] at hn'
      cases hn'
    | false =>
      rw [e] at hn'
      exact find_at h hn' hp
theorem find_more {α : Type} {p : α → Bool} {l : List α} {j : Nat} {a : α} (h : l[j]? = some a) (hn : (l.take j).find? p = none) (hp : p a = false) : (l.take (j + 1)).find? p = none := by
  rw [take_more h, List.find?_append, hn]
  show [a].find? p = none
  rw [List.find?_cons, hp] <;> rfl
theorem len_int {a b : Nat} : decide (V.int (a : Int) = V.int (b : Int)) = decide (a = b) := by
  rw [Bool.eq_iff_iff, decide_eq_true_eq, decide_eq_true_eq]
  constructor
  · intro h
    have := V.int.inj h
    omega
  · intro h
    rw [h]
end FT


namespace FT
open PySem L2 TL ClX
theorem feE_none {CS : Addr} {ts : List (Str × Str)} {n : Int} : feE CS ts n none ≠ none := fun h => nomatch h
theorem feE_ok {CS : Addr} {ts : List (Str × Str)} {n : Int} {kvs : List (Key × V)} (h : feE CS ts n (some kvs) = none) : kvs.length = ts.length ∧ (∀ a ∈ ts.map Prod.fst, valV kvs (Sum.inr a) = some (.int (szOf kvs a)) ∧ 0 ≤ szOf kvs a) ∧ ∀ p ∈ (("" : Str) :: ts.map Prod.fst), 0 ≤ resid ts n (szOf kvs) p := by
  unfold feE at h
  rw [feas_some] at h
  by_cases el : kvs.length = ts.length
  · rw [if_neg (fun z => z el)] at h
    cases ea : (ts.map Prod.fst).all fun a => (valV kvs (Sum.inr a)).isSome with
    | false =>
      rw [if_pos ea] at h
      cases h
    | true =>
      rw [if_neg (by rw [ea]; decide)] at h
      cases eb : (ts.map Prod.fst).find? (badKey kvs) with
      | some a =>
        rw [eb] at h
        cases h
      | none =>
        rw [eb] at h
        refine ⟨el, fun a ha => ?_, fun p hp => ?_⟩
        · obtain ⟨v, hv⟩ := Option.isSome_iff_exists.mp (List.all_eq_true.mp ea a ha)
          have g := List.find?_eq_none.mp eb a ha
          unfold badKey at g
          rw [hv] at g
          unfold szOf
          rw [hv]
          cases v with
          | int i =>
            refine ⟨rfl, ?_⟩
            show 0 ≤ i
            have g' : ¬ (!decide ((0 : Int) ≤ i)) = true := g
            by_cases z : (0 : Int) ≤ i
            · exact z
            · rw [decide_eq_false z] at g'
              exact absurd rfl g'
          | _ => exact absurd rfl g
        · cases ef : ((("" : Str) :: ts.map Prod.fst).find? fun p => decide (resid ts n (szOf kvs) p < 0)) with
          | some p =>
            rw [ef] at h
            cases h
          | none =>
            have z := List.find?_eq_none.mp ef p hp
            have z' : ¬ resid ts n (szOf kvs) p < 0 := fun q => z (decide_eq_true q)
            omega
  · rw [if_pos el] at h
    cases h
def kvsOf (o : Option (List (Key × V))) : List (Key × V) := o.getD []
def numV (v : V) : Int := match v with
  | .int n => n
  | _ => 0
/-- what amounts raises -/
def amE (CU CS : Addr) (ts : List (Str × Str)) (uv : V) (o1 o2 : Option (List (Key × V))) : Option Err := (szE CU CS ts uv o1).or (feE CS ts (numV uv) o2)
def amt (o1 o2 : Option (List (Key × V))) (a : Str) : Int := szOf (kvsOf o2) a - szOf (kvsOf o1) a
def absI (z : Int) : Int := if z < 0 then -z else z
def spAmtOf (CF : Addr) : Sp := fun vs H Q _ => ∃ (x q1 q2 : Addr) (ts : List (Str × Str)) (k1 k2 : List (Key × V)), vs = [.ref x, .ref q1, .ref q2] ∧ FAt CF H x ts ∧ TreeOk ts ∧ H q1 = some (.dK k1) ∧ H q2 = some (.dK k2) ∧
  (∀ a ∈ ts.map Prod.fst, valV k1 (Sum.inr a) = some (.int (szOf k1 a))) ∧ (∀ a ∈ ts.map Prod.fst, valV k2 (Sum.inr a) = some (.int (szOf k2 a))) ∧
  ∀ p H', Same H H' → H p = none → H' p = some (.dK (tblI (ts.map Prod.fst) fun a => szOf k2 a - szOf k1 a)) → Q (.ref p) H'
def spAmounts (K : PySem.W.Frag) (CF CU CS : Addr) : Sp := fun vs H Q E => ∃ (x : Addr) (uv sv nv : V) (ts : List (Str × Str)) (o1 o2 : Option (List (Key × V))), vs = [.ref x, uv, sv, nv] ∧ FAt CF H x ts ∧ TreeOk ts ∧ IsDat K H uv ∧ SzV K H sv o1 ∧ SzV K H nv o2 ∧
  match amE CU CS ts uv o1 o2 with
  | none => ∀ p H', Same H H' → H p = none → H' p = some (.dK (tblI (ts.map Prod.fst) (amt o1 o2))) → Q (.ref p) H'
  | some e => Out H E e
def spLeast (K : PySem.W.Frag) (CF CU CS : Addr) : Sp := fun vs H Q E => ∃ (x : Addr) (uv sv nv : V) (ts : List (Str × Str)) (o1 o2 : Option (List (Key × V))), vs = [.ref x, uv, sv, nv] ∧ FAt CF H x ts ∧ TreeOk ts ∧ IsDat K H uv ∧ SzV K H sv o1 ∧ SzV K H nv o2 ∧
  match amE CU CS ts uv o1 o2 with
  | none => ∀ H', Same H H' → Q (.int ((ts.map Prod.fst).map fun a => absI (amt o1 o2 a)).sum) H'
  | some e => Out H E e
end FT


namespace FT
open PySem L2 TL ClX LiI
/-! ### crossings -/
def crs (g : Str → Int) (ts : List (Str × Str)) : List (Str × Str × Int) := ts.flatMap fun p => if 0 < g p.1 then [(p.2, p.1, g p.1)] else if g p.1 < 0 then [(p.1, p.2, - g p.1)] else []
def EdG (H : Hp) (rs : List Addr) (es : List (Str × Str × Int)) : Prop := Paired (fun (r : Addr) (e : Str × Str × Int) => H r = some (.tup [.str e.1, .str e.2.1, .int e.2.2])) rs es
theorem EdG.mono {H H' : Hp} (s : Same H H') : ∀ {rs : List Addr} {es : List (Str × Str × Int)}, EdG H rs es → EdG H' rs es
  | _, _, .nil => .nil
  | _, _, .cons h t => .cons (s _ _ h) (EdG.mono s t)
theorem EdG.push {H : Hp} {D : Addr} {xs : List V} {o : HO} (e : H D = some (.lst xs)) : ∀ {rs : List Addr} {es : List (Str × Str × Int)}, EdG H rs es → EdG (upd H D o) rs es
  | _, _, .nil => .nil
  | _, _, .cons h t => .cons (by rw [upd_ne (ne_of h e (by intro z; cases z))]; exact h) (EdG.push e t)
theorem EdG.snoc {H : Hp} {r : Addr} {e : Str × Str × Int} (h : H r = some (.tup [.str e.1, .str e.2.1, .int e.2.2])) : ∀ {rs : List Addr} {es : List (Str × Str × Int)}, EdG H rs es → EdG H (rs ++ [r]) (es ++ [e])
  | _, _, .nil => .cons h .nil
  | _, _, .cons q t => .cons q (EdG.snoc h t)
theorem EdG.len {H : Hp} : ∀ {rs : List Addr} {es : List (Str × Str × Int)}, EdG H rs es → rs.length = es.length
  | _, _, .nil => rfl
  | _, _, .cons _ t => congrArg (· + 1) (EdG.len t)
theorem EdG.at_ {H : Hp} {rs : List Addr} {es : List (Str × Str × Int)} (p : EdG H rs es) {i : Nat} {r : Addr} (h : rs[i]? = some r) : ∃ e, es[i]? = some e ∧ H r = some (.tup [.str e.1, .str e.2.1, .int e.2.2]) := LiI.paired_get p h
def spCross (CF : Addr) : Sp := fun vs H Q _ => ∃ (x q : Addr) (ts : List (Str × Str)) (g : Str → Int), vs = [.ref x, .ref q] ∧ FAt CF H x ts ∧ TreeOk ts ∧ H q = some (.dK (tblI (ts.map Prod.fst) g)) ∧
  ∀ p rs H', Same H H' → H p = none → H' p = some (.lst (rs.map V.ref)) → EdG H' rs (crs g ts) → Q (.ref p) H'
end FT


/-! plain: lists of users by place, how a change of sizes moves them, that the way back restores them. No program here. -/
namespace FT
open PySem L2 TL
/-! ### sums -/
theorem sum_map_add {α : Type} (f g : α → Int) : ∀ l : List α, (l.map fun x => f x + g x).sum = (l.map f).sum + (l.map g).sum
  | [] => rfl
  | a :: l => by
    rw [List.map_cons, List.map_cons, List.map_cons, List.sum_cons, List.sum_cons, List.sum_cons, sum_map_add f g l]
    omega
theorem sum_map_sub {α : Type} (f g : α → Int) : ∀ l : List α, (l.map fun x => f x - g x).sum = (l.map f).sum - (l.map g).sum
  | [] => rfl
  | a :: l => by
    rw [List.map_cons, List.map_cons, List.map_cons, List.sum_cons, List.sum_cons, List.sum_cons, sum_map_sub f g l]
    omega
theorem sum_map_mul {α : Type} (f : α → Int) (c : Int) : ∀ l : List α, (l.map fun x => c * f x).sum = c * (l.map f).sum
  | [] => by simp
  | a :: l => by
    rw [List.map_cons, List.map_cons, List.sum_cons, List.sum_cons, sum_map_mul f c l, Int.mul_add]
theorem sum_map_zero {α : Type} {f : α → Int} : ∀ {l : List α}, (∀ x ∈ l, f x = 0) → (l.map f).sum = 0
  | [], _ => rfl
  | a :: l, h => by
    rw [List.map_cons, List.sum_cons, h a (List.mem_cons_self ..), sum_map_zero fun x hx => h x (List.mem_cons_of_mem _ hx)]
    rfl
theorem sum_swap {α β : Type} (f : α → β → Int) (m : List β) : ∀ l : List α, (l.map fun x => (m.map fun y => f x y).sum).sum = (m.map fun y => (l.map fun x => f x y).sum).sum
  | [] => by
    rw [sum_map_zero (l := m) (f := fun y => (([] : List α).map fun x => f x y).sum) fun _ _ => rfl] <;> rfl
  | a :: l => by
    rw [List.map_cons, List.sum_cons, sum_swap f m l, ← sum_map_add] <;> rfl
theorem sum_one {α : Type} [DecidableEq α] {f : α → Int} {a : α} : ∀ {l : List α}, l.Nodup → (l.map fun x => if x = a then f x else 0).sum = if a ∈ l then f a else 0
  | [], _ => rfl
  | b :: l, nd => by
    obtain ⟨n1, n2⟩ := List.nodup_cons.mp nd
    rw [List.map_cons, List.sum_cons, sum_one n2]
    by_cases e : b = a
    · subst e
      rw [if_pos rfl, if_neg n1, if_pos (List.mem_cons_self ..)]
      omega
    · rw [if_neg e, Int.zero_add]
      by_cases m : a ∈ l
      · rw [if_pos m, if_pos (List.mem_cons_of_mem _ m)]
      · rw [if_neg m, if_neg fun z => (List.mem_cons.mp z).elim (fun z => e z.symm) m]
/-! ### places, neighbours -/
def pls (ts : List (Str × Str)) : List Str := "" :: ts.map Prod.fst
theorem pls_nd {ts : List (Str × Str)} (o : TreeOk ts) : (pls ts).Nodup := List.nodup_cons.mpr ⟨o.root, o.nd⟩
theorem mem_pls {ts : List (Str × Str)} {a : Str} : a ∈ pls ts ↔ Pl ts a := List.mem_cons
theorem mem_kids {ts : List (Str × Str)} {k p : Str} : k ∈ kids ts p ↔ (k, p) ∈ ts := by
  unfold kids
  constructor
  · intro h
    obtain ⟨q, hq, e⟩ := List.mem_map.mp h
    obtain ⟨h1, h2⟩ := List.mem_filter.mp hq
    rw [← e, ← of_decide_eq_true h2]
    exact h1
  · exact fun h => List.mem_map.mpr ⟨_, List.mem_filter.mpr ⟨h, decide_eq_true rfl⟩, rfl⟩
theorem kid_par {ts : List (Str × Str)} (o : TreeOk ts) {k p : Str} : k ∈ kids ts p ↔ par ts k = some p := ⟨fun h => par_of o.nd (mem_kids.mp h), fun h => mem_kids.mpr (par_mem h)⟩
theorem kids_nd {ts : List (Str × Str)} (o : TreeOk ts) (p : Str) : (kids ts p).Nodup := o.nd.sublist ((List.filter_sublist (p := fun q : Str × Str => decide (q.2 = p)) (l := ts)).map Prod.fst)
theorem par_flag {ts : List (Str × Str)} {a z : Str} (h : par ts a = some z) : a ∈ ts.map Prod.fst := List.mem_map.mpr ⟨_, par_mem h, rfl⟩
theorem par_pl {ts : List (Str × Str)} (o : TreeOk ts) {a z : Str} (h : par ts a = some z) : Pl ts z := by
  obtain ⟨rk, r⟩ := o.up
  exact (r _ (par_mem h)).2.imp id And.left
theorem par_root {ts : List (Str × Str)} (o : TreeOk ts) : par ts "" = none := par_none o.root
/-- no flag is above its parent -/
theorem par_once {ts : List (Str × Str)} (o : TreeOk ts) {a b : Str} (h : par ts a = some b) (h2 : par ts b = some a) : False := by
  obtain ⟨rk, r⟩ := o.up
  have h3 := (r _ (par_mem h)).2
  have h4 := (r _ (par_mem h2)).2
  rcases h3 with e | ⟨_, h3⟩
  · have e : b = "" := e
    rw [e, par_root o] at h2
    cases h2
  · rcases h4 with e | ⟨_, h4⟩
    · have e : a = "" := e
      rw [e, par_root o] at h
      cases h
    · have h3 : rk b < rk a := h3
      have h4 : rk a < rk b := h4
      omega
/-- the other ends of the edges of a place -/
def adj (ts : List (Str × Str)) (p : Str) : List Str := (if p = "" then [] else [(par ts p).getD ""]) ++ kids ts p
/-! ### how many users cross an edge -/
def lv (ts : List (Str × Str)) (c : Str → Int) (p o : Str) : Nat := if par ts o = some p ∧ 0 < c o then (c o).toNat else if par ts p = some o ∧ c p < 0 then (- c p).toNat else 0
/-! ### an order of the places that all moves follow -/
def sg (z : Int) : Int := if 0 < z then 1 else if z < 0 then -1 else 0
def phi (ts : List (Str × Str)) (c : Str → Int) (p : Str) : Int := ((pathOf ts p).map fun x => sg (c x)).sum
def lvl (ts : List (Str × Str)) (c : Str → Int) (p : Str) : Nat := (phi ts c p + 12).toNat
/-! ### a change moves the lists -/
/-- groups that come to a place, in the order in which they are put behind its list -/
def ins (ts : List (Str × Str)) (G : Str → Str → List Int) (p : Str) : List Int := ((adj ts p).reverse.map fun o => G o p).flatten
/-- groups that leave a place -/
def outs (ts : List (Str × Str)) (G : Str → Str → List Int) (p : Str) : List Int := ((adj ts p).reverse.map fun o => G p o).flatten
def Moved (ts : List (Str × Str)) (c : Str → Int) (L L' : Str → List Int) : Prop := ∃ G : Str → Str → List Int, (∀ p, Pl ts p → ∀ o ∈ adj ts p, (G p o).length = lv ts c p o) ∧ ∀ p, Pl ts p → L p ++ ins ts G p = L' p ++ outs ts G p
theorem int_sum (l : List Nat) : ((l.sum : Nat) : Int) = (l.map fun x : Nat => (x : Int)).sum := by
  induction l with
  | nil => rfl
  | cons a l ih =>
    rw [List.sum_cons, List.map_cons, List.sum_cons, ← ih]
    omega
/-- the lengths are the residents -/
def Lens (ts : List (Str × Str)) (n : Int) (sz : Str → Int) (L : Str → List Int) : Prop := ∀ p, Pl ts p → ((L p).length : Int) = resid ts n sz p
end FT


/-! plain: sizes of lists; every user at one place; a user's way through the tree. -/
namespace FT
open PySem L2 TL
/-! ### sizes and lengths -/
def under (ts : List (Str × Str)) (a : Str) : List Str := (ts.map Prod.fst).filter fun b => decide (a ∈ pathOf ts b)
def lsz (ts : List (Str × Str)) (L : Str → List Int) (a : Str) : Int := ((under ts a).map fun b => ((L b).length : Int)).sum
theorem sum_filter {α : Type} (c : α → Bool) (f : α → Int) : ∀ l : List α, ((l.filter c).map f).sum = (l.map fun x => if c x = true then f x else 0).sum
  | [] => rfl
  | a :: l => by
    rw [List.filter_cons, List.map_cons, List.sum_cons, ← sum_filter c f l]
    by_cases e : c a = true
    · rw [if_pos e, if_pos e, List.map_cons, List.sum_cons]
    · rw [if_neg e, if_neg e, Int.zero_add]
/-- the paths' flags rank no higher -/
theorem path_rank {ts : List (Str × Str)} (o : TreeOk ts) {rk : Str → Nat} (r : Rk ts rk) : ∀ (n : Nat) (a : Str), Pl ts a → (a ≠ "" → rk a < n) → ∀ z ∈ pathOf ts a, rk z ≤ rk a := by
  intro n
  induction n with
  | zero =>
    intro a ha h z hz
    by_cases e : a = ""
    · subst e
      rw [path_root] at hz
      cases hz
    · exact absurd (h e) (Nat.not_lt_zero _)
  | succ n ih =>
    intro a ha h z hz
    by_cases e : a = ""
    · subst e
      rw [path_root] at hz
      cases hz
    · obtain ⟨p, ep, hp, _⟩ := o.step r (ha.resolve_left e)
      rw [path_step o (ha.resolve_left e) ep] at hz
      rcases List.mem_append.mp hz with hz | hz
      · have hh := h e
        rcases hp with e0 | ⟨hp, lt⟩
        · subst e0
          rw [path_root] at hz
          cases hz
        · have := ih p (.inr hp) (fun _ => by omega) z hz
          omega
      · rw [List.mem_singleton.mp hz]
        exact Nat.le_refl _
theorem not_above {ts : List (Str × Str)} (o : TreeOk ts) {a p : Str} (h : par ts a = some p) : a ∉ pathOf ts p := fun hm => by
  obtain ⟨rk, r⟩ := o.up
  have lt := (r _ (par_mem h)).2
  rcases lt with e | ⟨hp, lt⟩
  · have e : p = "" := e
    rw [e, path_root] at hm
    cases hm
  · have lt : rk p < rk a := lt
    have := path_rank o r (rk p + 1) p (.inr hp) (fun _ => Nat.lt_succ_self _) a hm
    omega
theorem path_nd {ts : List (Str × Str)} (o : TreeOk ts) {a : Str} (h : Pl ts a) : (pathOf ts a).Nodup := by
  obtain ⟨rk, r⟩ := o.up
  have key : ∀ (n : Nat) (a : Str), Pl ts a → (a ≠ "" → rk a < n) → (pathOf ts a).Nodup := by
    intro n
    induction n with
    | zero =>
      intro a ha h
      by_cases e : a = ""
      · subst e
        rw [path_root]
        exact List.nodup_nil
      · exact absurd (h e) (Nat.not_lt_zero _)
    | succ n ih =>
      intro a ha h
      by_cases e : a = ""
      · subst e
        rw [path_root]
        exact List.nodup_nil
      · obtain ⟨p, ep, hp, _⟩ := o.step r (ha.resolve_left e)
        rw [path_step o (ha.resolve_left e) ep]
        refine List.nodup_append.mpr ⟨ih p (hp.imp id And.left) (fun z => ?_), by simp, fun x hx y hy e => ?_⟩
        · have := (hp.resolve_left z).2
          have := h e
          omega
        · rw [List.mem_singleton.mp hy] at e
          subst e
          exact not_above o ep hx
  exact key (rk a + 1) a h fun _ => Nat.lt_succ_self _
def inP (ts : List (Str × Str)) (a x : Str) : Int := if a ∈ pathOf ts x then 1 else 0
theorem inP_step {ts : List (Str × Str)} (o : TreeOk ts) {x p : Str} (h : par ts x = some p) (a : Str) : inP ts a x = inP ts a p + if a = x then 1 else 0 := by
  unfold inP
  rw [path_step o (par_flag h) h]
  by_cases e : a = x
  · subst e
    rw [if_pos (List.mem_append_right _ (List.mem_singleton.mpr rfl)), if_neg (not_above o h), if_pos rfl] <;> rfl
  · rw [if_neg e]
    by_cases m : a ∈ pathOf ts p
    · rw [if_pos (List.mem_append_left _ m), if_pos m] <;> rfl
    · rw [if_neg (fun z => (List.mem_append.mp z).elim m fun z => e (List.mem_singleton.mp z)), if_neg m] <;> rfl
theorem inP_root (ts : List (Str × Str)) (a : Str) : inP ts a "" = 0 := by
  unfold inP
  rw [path_root]
  exact if_neg (by simp)
theorem lsz_inP (ts : List (Str × Str)) (L : Str → List Int) (a : Str) : lsz ts L a = ((ts.map Prod.fst).map fun b => inP ts a b * ((L b).length : Int)).sum := by
  unfold lsz under
  rw [sum_filter]
  congr 1
  refine List.map_congr_left fun b _ => ?_
  unfold inP
  by_cases m : a ∈ pathOf ts b
  · rw [if_pos (decide_eq_true m), if_pos m, Int.one_mul]
  · rw [if_neg (by rw [decide_eq_false m]; decide), if_neg m, Int.zero_mul]
/-- from sizes to lengths -/
theorem lsz_lens {ts : List (Str × Str)} (o : TreeOk ts) {n : Int} {L : Str → List Int} (h : ((pls ts).map fun p => ((L p).length : Int)).sum = n) : Lens ts n (lsz ts L) L := by
  intro p hp
  have co : ∀ (m : Nat) (rk : Str → Nat), Rk ts rk → ∀ x, Pl ts x → (x ≠ "" → rk x < m) → (if p = "" then 1 else inP ts p x) - ((kids ts p).map fun k => inP ts k x).sum = if x = p then 1 else 0 := by
    intro m rk r
    induction m with
    | zero =>
      intro x hx hm
      by_cases e : x = ""
      · subst e
        rw [sum_map_zero fun k _ => inP_root ts k, inP_root]
        by_cases z : p = ""
        · rw [if_pos z, if_pos z.symm] <;> rfl
        · rw [if_neg z, if_neg fun w => z w.symm] <;> rfl
      · exact absurd (hm e) (Nat.not_lt_zero _)
    | succ m ih =>
      intro x hx hm
      by_cases e : x = ""
      · subst e
        rw [sum_map_zero fun k _ => inP_root ts k, inP_root]
        by_cases z : p = ""
        · rw [if_pos z, if_pos z.symm] <;> rfl
        · rw [if_neg z, if_neg fun w => z w.symm] <;> rfl
      · obtain ⟨q, eq, hq, _⟩ := o.step r (hx.resolve_left e)
        have hh := hm e
        have i := ih q (hq.imp id And.left) fun z => by
          have := (hq.resolve_left z).2
          omega
        have ks : ((kids ts p).map fun k => inP ts k x).sum = ((kids ts p).map fun k => inP ts k q).sum + if q = p then 1 else 0 := by
          rw [List.map_congr_left (g := fun k => inP ts k q + if k = x then 1 else 0) fun k _ => inP_step o eq k, sum_map_add, sum_one (f := fun _ => 1) (kids_nd o p)]
          congr 1
          by_cases w : q = p
          · rw [if_pos w, if_pos ((kid_par o).mpr (by rw [← w]; exact eq))]
          · rw [if_neg w, if_neg fun z => w (Option.some.inj (eq.symm.trans ((kid_par o).mp z)))]
        rw [ks]
        by_cases z : p = ""
        · rw [if_pos z] at i ⊢
          have nx : ¬ x = p := fun w => e (w.trans z)
          rw [if_neg nx]
          omega
        · rw [if_neg z] at i ⊢
          rw [inP_step o eq p]
          by_cases w : x = p
          · rw [if_pos w, if_pos w.symm]
            omega
          · rw [if_neg w, if_neg fun v => w v.symm]
            omega
  obtain ⟨rk, r⟩ := o.up
  have co' : ∀ x ∈ pls ts, (if p = "" then 1 else inP ts p x) - ((kids ts p).map fun k => inP ts k x).sum = if x = p then 1 else 0 := fun x hx => co (rk x + 1) rk r x (mem_pls.mp hx) fun _ => Nat.lt_succ_self _
  -- sizes as sums over all places
  have sz_pls : ∀ a, lsz ts L a = ((pls ts).map fun x => inP ts a x * ((L x).length : Int)).sum := fun a => by
    rw [lsz_inP]
    unfold pls
    rw [List.map_cons, List.sum_cons, inP_root, Int.zero_mul, Int.zero_add]
  have u : (if p = "" then n else lsz ts L p) = ((pls ts).map fun x => (if p = "" then 1 else inP ts p x) * ((L x).length : Int)).sum := by
    by_cases z : p = ""
    · rw [if_pos z, ← h]
      congr 1
      refine List.map_congr_left fun x _ => ?_
      rw [if_pos z, Int.one_mul]
    · rw [if_neg z, sz_pls]
      congr 1
      refine List.map_congr_left fun x _ => ?_
      rw [if_neg z]
  unfold resid
  rw [u, List.map_congr_left (f := lsz ts L) (fun k _ => sz_pls k), sum_swap, ← sum_map_sub]
  have fin : ((pls ts).map fun x => (if p = "" then 1 else inP ts p x) * ((L x).length : Int) - ((kids ts p).map fun k => inP ts k x * ((L x).length : Int)).sum) = (pls ts).map fun x => if x = p then ((L x).length : Int) else 0 := List.map_congr_left fun x hx => by
    have c := co' x hx
    have mul : ((kids ts p).map fun k => inP ts k x * ((L x).length : Int)).sum = ((L x).length : Int) * ((kids ts p).map fun k => inP ts k x).sum := by
      rw [← sum_map_mul]
      congr 1
      exact List.map_congr_left fun k _ => Int.mul_comm _ _
    rw [mul, Int.mul_comm _ ((L x).length : Int), ← Int.mul_sub, c]
    by_cases w : x = p
    · rw [if_pos w, if_pos w, Int.mul_one]
    · rw [if_neg w, if_neg w, Int.mul_zero]
  rw [fin, sum_one (f := fun x => ((L x).length : Int)) (pls_nd o), if_pos (mem_pls.mpr hp)]
/-! ### every user at one place -/
def usr (n : Nat) : List Int := (List.range n).map fun k : Nat => (k : Int)
theorem usr_nd (n : Nat) : (usr n).Nodup := by
  unfold usr
  refine List.nodup_iff_pairwise_ne.mpr (List.pairwise_map.mpr ((List.nodup_iff_pairwise_ne.mp List.nodup_range).imp fun h e => h ?_))
  omega
theorem mem_usr {n : Nat} {u : Int} : u ∈ usr n ↔ 0 ≤ u ∧ u < n := by
  unfold usr
  rw [List.mem_map]
  constructor
  · rintro ⟨k, hk, rfl⟩
    have := List.mem_range.mp hk
    omega
  · rintro ⟨h1, h2⟩
    exact ⟨u.toNat, List.mem_range.mpr (by omega), by omega⟩
def Val (ts : List (Str × Str)) (n : Nat) (L : Str → List Int) : Prop := ((pls ts).flatMap L).Perm (usr n)
theorem val_len {ts : List (Str × Str)} {n : Nat} {L : Str → List Int} (h : Val ts n L) : ((pls ts).map fun p => ((L p).length : Int)).sum = n := by
  have e := h.length_eq
  rw [List.length_flatMap] at e
  unfold usr at e
  rw [List.length_map, List.length_range] at e
  rw [← e, int_sum, List.map_map] <;> rfl
/-- the place of a user -/
def plOf (ts : List (Str × Str)) (L : Str → List Int) (u : Int) : Str := ((pls ts).find? fun p => decide (u ∈ L p)).getD ""
/-! ### a user's way -/
inductive Rc (ts : List (Str × Str)) (c : Str → Int) (p : Str) : Str → Prop where
  | refl : Rc ts c p p
  | step {q x : Str} : Rc ts c p q → 0 < lv ts c q x → Rc ts c p x
end FT


/-! lists of pairs of a text and a value; dict(..) of them. -/
namespace FT
open PySem L2 TL ClX
/-- pairs (a, g a) at the addresses rs -/
def PrG (g : Str → V) (H : Hp) (rs : List Addr) (l : List Str) : Prop := Paired (fun (r : Addr) (a : Str) => H r = some (.tup [.str a, g a])) rs l
theorem PrG.imp {g : Str → V} {H H' : Hp} (m : ∀ r (a : Str), H r = some (.tup [.str a, g a]) → H' r = some (.tup [.str a, g a])) : ∀ {rs : List Addr} {l : List Str}, PrG g H rs l → PrG g H' rs l
  | _, _, .nil => .nil
  | _, _, .cons h t => .cons (m _ _ h) (PrG.imp m t)
theorem PrG.mono {g : Str → V} {H H' : Hp} {rs : List Addr} {l : List Str} (s : Same H H') (p : PrG g H rs l) : PrG g H' rs l := p.imp fun r a e => s _ _ e
theorem PrG.push {g : Str → V} {H : Hp} {rs : List Addr} {l : List Str} {D : Addr} {xs : List V} {o : HO} (e : H D = some (.lst xs)) (p : PrG g H rs l) : PrG g (upd H D o) rs l := p.imp fun r a q => by
  rw [upd_ne (ne_of q e (by intro z; cases z))]
  exact q
theorem PrG.snoc {g : Str → V} {H : Hp} {r : Addr} {a : Str} (h : H r = some (.tup [.str a, g a])) : ∀ {rs : List Addr} {l : List Str}, PrG g H rs l → PrG g H (rs ++ [r]) (l ++ [a])
  | _, _, .nil => .cons h .nil
  | _, _, .cons q t => .cons q (PrG.snoc h t)
theorem PrG.len {g : Str → V} {H : Hp} : ∀ {rs : List Addr} {l : List Str}, PrG g H rs l → rs.length = l.length
  | _, _, .nil => rfl
  | _, _, .cons _ t => congrArg (· + 1) (PrG.len t)
theorem PrG.at_ {g : Str → V} {H : Hp} {rs : List Addr} {l : List Str} (p : PrG g H rs l) {i : Nat} {r : Addr} (h : rs[i]? = some r) : ∃ a, l[i]? = some a ∧ H r = some (.tup [.str a, g a]) := LiI.paired_get p h
/-- as dict(..) asks it -/
theorem PrG.kvs {K : PySem.W.Frag} {g : Str → V} {H : Hp} : ∀ {rs : List Addr} {l : List Str}, PrG g H rs l → Paired (fun (p : Addr) (kv : Key × V) => SqT K H p [kV kv.1, kv.2]) rs (kvT (l.map fun a => (a, g a)))
  | _, _, .nil => .nil
  | _, _, .cons h t => .cons (.inl (.inl h)) (PrG.kvs t)
theorem merge_app : ∀ (more : List (Str × V)) (acc : List (Str × V)), ((acc ++ more).map Prod.fst).Nodup → mergeK (kvT acc) (kvT more) = kvT (acc ++ more)
  | [], acc, _ => by rw [List.append_nil] <;> rfl
  | p :: more, acc, nd => by
    have e : acc ++ p :: more = (acc ++ [p]) ++ more := by rw [List.append_assoc] <;> rfl
    have fresh : p.1 ∉ acc.map Prod.fst := fun h => by
      rw [List.map_append] at nd
      obtain ⟨_, _, d⟩ := List.nodup_append.mp nd
      exact d _ h _ (List.mem_cons_self ..) rfl
    show mergeK (putK (kvT acc) (Sum.inr p.1) p.2) (kvT more) = _
    rw [kvT_put fresh, e]
    rw [e] at nd
    exact merge_app more _ nd
theorem merge_nd {l : List (Str × V)} (nd : (l.map Prod.fst).Nodup) : mergeK [] (kvT l) = kvT l := merge_app l [] nd
theorem map_fst (l : List Str) (g : Str → V) : (l.map fun a => (a, g a)).map Prod.fst = l := by rw [List.map_map]; exact List.map_id _
/-- the place of an item -/
theorem idx_at {l : List Str} {i : Nat} {a : Str} (nd : l.Nodup) (h : l[i]? = some a) : l.idxOf a = i := by
  have m : a ∈ l := List.mem_of_getElem? h
  have lt := List.idxOf_lt_length_of_mem m
  have e : l[l.idxOf a]? = some a := by rw [List.getElem?_eq_getElem lt, List.getElem_idxOf lt]
  exact (List.getElem?_inj lt nd).mp (e.trans h.symm)
/-- a tree from the order of its making -/
theorem tree_of {t : List (Str × Str)} (h1 : 1 ≤ t.length) (h2 : t.length ≤ 12) (nd : (t.map Prod.fst).Nodup) (nm : ∀ z ∈ t.map Prod.fst, NameL z) (up : ∀ (i : Nat) (p : Str × Str), t[i]? = some p → p.2 = "" ∨ p.2 ∈ (t.map Prod.fst).take i) : TreeOk t := by
  refine ⟨h1, h2, nd, nm, fun a => (t.map Prod.fst).idxOf a, fun p hp => ?_⟩
  obtain ⟨i, hi⟩ := List.mem_iff_getElem?.mp hp
  have il := (List.getElem?_eq_some_iff.mp hi).1
  have hk : (t.map Prod.fst)[i]? = some p.1 := by rw [List.getElem?_map, hi] <;> rfl
  refine ⟨by show (t.map Prod.fst).idxOf p.1 < _; rw [idx_at nd hk]; exact il, (up i p hi).imp id fun m => ⟨List.mem_of_mem_take m, ?_⟩⟩
  show (t.map Prod.fst).idxOf p.2 < (t.map Prod.fst).idxOf p.1
  rw [idx_at nd hk]
  obtain ⟨j, hj⟩ := List.mem_iff_getElem?.mp m
  have jl := (List.getElem?_eq_some_iff.mp hj).1
  rw [List.length_take] at jl
  rw [List.getElem?_take, if_pos (by omega)] at hj
  rw [idx_at nd hj]
  omega
end FT


/-! dicts from texts to any values; lists by place in the heap. -/
namespace FT
open PySem L2 TL ClX
def tblV (l : List Str) (g : Str → V) : List (Key × V) := kvT (l.map fun a => (a, g a))
theorem tblV_val {l : List Str} {g : Str → V} {a : Str} (h : a ∈ l) : valV (tblV l g) (Sum.inr a) = some (g a) := by
  unfold tblV
  rw [kvT_val]
  induction l with
  | nil => cases h
  | cons b l ih =>
    rw [List.map_cons, look_cons]
    by_cases e : b = a
    · subst e
      exact if_pos rfl
    · rw [if_neg e]
      exact ih ((List.mem_cons.mp h).resolve_left fun z => e z.symm)
theorem nat_fresh {l : List Str} {i : Nat} {a : Str} (nd : l.Nodup) (h : l[i]? = some a) : a ∉ l.take i := fun hm => by
  obtain ⟨j, hj⟩ := List.mem_iff_getElem?.mp hm
  have jl := (List.getElem?_eq_some_iff.mp hj).1
  rw [List.length_take] at jl
  rw [List.getElem?_take, if_pos (by omega)] at hj
  have := (List.getElem?_inj (by omega) nd).mp (hj.trans h.symm)
  omega
/-- lists by place: the dict at q, the list of p at r p -/
def LsAt (H : Hp) (q : Addr) (l : List Str) (r : Str → Addr) (L : Str → List Int) : Prop := H q = some (.dK (tblV l fun p => .ref (r p))) ∧ ∀ p ∈ l, H (r p) = some (.lst ((L p).map V.int))
theorem LsAt.mono {H H' : Hp} {q : Addr} {l : List Str} {r : Str → Addr} {L : Str → List Int} (s : Same H H') (h : LsAt H q l r L) : LsAt H' q l r L := ⟨s _ _ h.1, fun p hp => s _ _ (h.2 p hp)⟩
theorem LsAt.congr {H : Hp} {q : Addr} {l : List Str} {r : Str → Addr} {L L' : Str → List Int} (h : LsAt H q l r L) (e : ∀ p ∈ l, L p = L' p) : LsAt H q l r L' := ⟨h.1, fun p hp => by rw [h.2 p hp, e p hp]⟩
theorem LsAt.get {H : Hp} {q : Addr} {l : List Str} {r : Str → Addr} {L : Str → List Int} (h : LsAt H q l r L) {p : Str} (hp : p ∈ l) : DGet H q (.str p) (some (.ref (r p))) := by
  have z := DGet.k (k := Sum.inr p) h.1
  rw [tblV_val hp] at z
  exact z
end FT


/-! sums -/
namespace FT
open PySem
theorem pair_lenZ {α β : Type} {F : α → β → Prop} : ∀ {xs : List α} {ys : List β}, Paired F xs ys → xs.length = ys.length
  | _, _, .nil => rfl
  | _, _, .cons _ t => congrArg (· + 1) (pair_lenZ t)
end FT


/-! a parent read from a forest's dict -/
namespace FT
open PySem L2 TL ClX
theorem Rd.same {H H' : Hp} {a : Addr} {u : HO} (s : Same H H') (h : Rd H a u) : Rd H' a u := h.imp (fun e => s _ _ e) fun ⟨o, e⟩ => ⟨o, s _ _ e⟩
theorem dget_prs {H : Hp} {q : Addr} {ts : List (Str × Str)} {a p : Str} (h : Rd H q (.dK (prs ts))) (e : par ts a = some p) : DGet H q (.str a) (some (.str p)) := .inl ⟨prs ts, Sum.inr a, h, rfl, by rw [val_prs, e] <;> rfl⟩
end FT


/-! path_in, need_place, Forest.under, edges_at -/
namespace FT
open PySem L2 TL ClX
def spPathIn : Sp := fun vs H Q _ => ∃ (q : Addr) (ts : List (Str × Str)) (a : Str), vs = [.ref q, .str a] ∧ Rd H q (.dK (prs ts)) ∧ TreeOk ts ∧ Pl ts a ∧ ∀ p H', Same H H' → H p = none → H' p = some (.tup ((pathOf ts a).map V.str)) → Q (.ref p) H'
def spNeedPl (CF : Addr) : Sp := fun vs H Q _ => ∃ (x : Addr) (ts : List (Str × Str)) (a : Str), vs = [.ref x, .str a] ∧ FAt CF H x ts ∧ TreeOk ts ∧ Pl ts a ∧ Q .non H
def spEdgesAt (CF : Addr) : Sp := fun vs H Q _ => ∃ (x : Addr) (ts : List (Str × Str)) (a : Str), vs = [.ref x, .str a] ∧ FAt CF H x ts ∧ TreeOk ts ∧ Pl ts a ∧ ∀ p H', Same H H' → H p = none → H' p = some (.lst ((adj ts a).map V.str)) → Q (.ref p) H'
def pathLen (ts : List (Str × Str)) (σ : St) : Nat := match σ[1]? with
  | some (some (V.str a)) => (pathOf ts a).length
  | _ => 0
section
variable {P : Program} {w : World} {K : PySem.W.Frag} {mg : Str → Option Value} {base : Heap}
abbrev NPi : List Str := ["above", "place", "path"]
theorem scPi : FnScope NPi ["above", "place"] (defScope s_path_in) := ⟨rfl, rfl, rfl, by decide +kernel, rfl, by decide +kernel, by decide +kernel⟩
theorem ok_pathIn {f : Addr} {fd : FuncData} (F : Fun K "path_in" "path_in" s_path_in f fd) (T : Nm mg) : FnOk P w K mg base CX0 1 f fd ["above", "place"] spPathIn := by
  refine F.ok scPi (fun vs H Q E h => ?_) (fun cdv A outer s H vs Q E hr h => ?_)
  · obtain ⟨q, ts, a, rfl, _⟩ := h
    rfl
  · obtain ⟨q, ts, a0, rfl, hq, o, pl0, k⟩ := h
    have hu := hu_of hr
    have nd := scPi.nd
    have big : 1000 ≤ sizeLine := by decide
    have few := o.few
    refine ⟨_, pss_cons (ps_set (i := 2) nd rfl (.inl rfl) (pe_lst pa_nil))
      (pss_cons (ps_while PassesOwn.never (pt_cmpR op_ne (pv 1) pe_str (nomark _))
        (pss_cons (ps_expr (pe_bm PySem.F.plainAttrs_list PySem.F.slot_list_append PySem.F.type_list_append mt_append (pv 2) (pa_cons (pv 1) pa_nil)))
        (pss_one (ps_set (i := 1) nd rfl (.inl rfl) (pe_dget hu (pv 0) (pv 1) (fun _ _ => rfl))))))
      (pss_one (ps_ret (pe_tupleOf (by rfl) T.tup (pe_revL (pv 2)))))), ?_⟩
    refine ⟨by show 0 ≤ sizeLine; omega, fun l nl => ?_⟩
    refine while_by (fun σ H' => ∃ (a : Str) (ws : List Str), σ = [some (.ref q), some (.str a), some (.ref l)] ∧ H' l = some (.lst (ws.map V.str)) ∧ Same H H' ∧ Pl ts a ∧ pathOf ts a0 = pathOf ts a ++ ws.reverse) (fun σ _ => pathLen ts σ)
      ⟨a0, [], rfl, upd_same, same_new nl, pl0, by rw [List.reverse_nil, List.append_nil]⟩ ?_ ?_
    · rintro σ Hx ⟨a, ws, rfl, hl, sm, pl, ep⟩
      have len := congrArg List.length ep
      have le := path_len ts a0
      rw [List.length_append, List.length_reverse] at len
      refine ⟨_, rfl, rfl, _, rfl, ?_⟩
      by_cases e : a = ""
      · rw [decide_eq_true (show V.str a = V.str "" by rw [e])]
        refine iteF ?_
        rw [e, path_root, List.nil_append] at ep
        refine ⟨_, rfl, l, _, rfl, SqL.of hl, fun p1 n1 => .inl ⟨p1, _, rfl, SqL.of upd_same, fun p2 n2 => ?_⟩⟩
        refine k p2 _ ((sm.trans (same_new n1)).trans (same_new n2)) ((sm.trans (same_new n1)).free n2) ?_
        rw [upd_same, ep, List.map_reverse]
      · rw [decide_eq_false (show ¬ V.str a = V.str "" from fun z => e (V.str.inj z))]
        show if true = true then _ else _
        rw [if_pos rfl]
        have fl := pl.resolve_left e
        obtain ⟨pa, hp⟩ := par_some o.nd fl
        have st := path_step o fl hp
        refine ⟨_, rfl, .inl ⟨rfl, _, SqL.of hl⟩, _, rfl, l, _, _, rfl, rfl, hl, by rw [List.length_map]; omega, ?_⟩
        refine ⟨_, rfl, _, rfl, q, V.str pa, rfl, dget_prs ?_ hp, ?_⟩
        · have ql : q ≠ l := by
            intro z
            rcases hq with hq | ⟨oo, hq⟩ <;> (rw [z, nl] at hq; cases hq)
          have hq' := Rd.same sm hq
          rcases hq' with h | ⟨oo, h⟩
          · exact .inl (by rw [upd_ne ql]; exact h)
          · exact .inr ⟨oo, by rw [upd_ne ql]; exact h⟩
        · refine ⟨⟨pa, ws ++ [a], rfl, by rw [upd_same, List.map_append] <;> rfl, sm.put nl, par_pl o hp, ?_⟩, ?_⟩
          · rw [ep, st, List.reverse_append, List.append_assoc] <;> rfl
          · show (pathOf ts pa).length < (pathOf ts a).length
            rw [st, List.length_append]
            exact Nat.lt_succ_self _
    · exact fun σ H Q Q' hm ⟨v, e, e2, b, eb, z⟩ => ⟨v, e, e2, b, eb, hm _ _ z⟩
abbrev NNp : List Str := ["forest", "place"]
theorem scNp : FnScope NNp ["forest", "place"] (defScope s_need_place) := ⟨rfl, rfl, rfl, by decide +kernel, rfl, by decide +kernel, by decide +kernel⟩
theorem ok_needPl {f CF : Addr} {mc : Value} {fd : FuncData} (F : Fun K "need_place" "need_place" s_need_place f fd) (T : Nm mg) (O : FoC K CF) (Z : Fc K mg CF mc) : FnOk P w K mg base CX0 1 f fd ["forest", "place"] (spNeedPl CF) := by
  obtain ⟨ur, cr⟩ := Z.root
  refine F.ok scNp (fun vs H Q E h => ?_) (fun cdv A outer s H vs Q E hr h => ?_)
  · obtain ⟨x, ts, a, rfl, _⟩ := h
    rfl
  · obtain ⟨x, ts, a, rfl, fa, o, pl, k⟩ := h
    have hu := hu_of hr
    refine ⟨_, pss_one (ps_if (PW.pt (pw_or (pt_not (pt_val (pe_callB call_isi (by rfl) T.isi (by decide +kernel) (pa_cons (pv 1) (pa_cons (pe_bltn (v := .ty "str") (u := .type "str") (by rfl) T.str (by decide +kernel) rfl) pa_nil)))))
          (pw_or1 (PW.pt (pw_and (pt_cmpR op_ne (pv 1) (pe_cval (pe_glob (v := .ref CF) (by rfl) Z.gF rfl)) (nomark _)) (pw_and1 (pt_cmp (pc_dnotin hu (pv 1) (pe_fld (pv 0) rfl))))))))) pss_never pss_nil), ?_⟩
    obtain ⟨dx, dq, hx, hd⟩ := id fa
    refine ⟨_, rfl, .str a, _, _, _, true, rfl, .ty _, .base (.str a), kit_ty (by decide +kernel), true, rfl, ?_⟩
    refine iteF ?_
    refine ⟨_, rfl, CF, mc, _, ur, rfl, Z.rd, cr, rfl, _, rfl, ?_⟩
    by_cases e : a = ""
    · rw [decide_eq_true (show V.str a = V.str "" by rw [e])]
      refine iteF ?_
      exact iteF k
    · rw [decide_eq_false (show ¬ V.str a = V.str "" from fun z => e (V.str.inj z))]
      show if true = true then _ else _
      rw [if_pos rfl]
      obtain ⟨pa, hp⟩ := par_some o.nd (pl.resolve_left e)
      refine ⟨_, rfl, _, rfl, x, CF, dx, _, .ref dq, rfl, hx, O.cl, O.nA, rfl, dq, _, rfl, dget_prs (.inl hd) hp, _, rfl, ?_⟩
      exact iteF k
end
end FT


/-! the law's own paths as lists, upwards -/
namespace FT
open PySem L2 TL ClX LiI
def rankL (t : List (Str × Str)) (rk : Str → Nat) (σ : St) : Nat := match σ[1]? with
  | some (some (V.str a)) => if a ∈ t.map Prod.fst then rk a + 1 else 0
  | _ => 0
def spPathL : Sp := fun vs H Q _ => ∃ (q : Addr) (a : Str) (t : List (Str × Str)), vs = [.ref q, .str a] ∧ Rd H q (.dK (prs t)) ∧ TreeOk t ∧ Pl t a ∧ ∀ p H', Same H H' → H p = none → H' p = some (.lst ((pathOf t a).reverse.map V.str)) → Q (.ref p) H'
section
variable {P : Program} {w : World} {K : PySem.W.Frag} {mg : Str → Option Value} {base : Heap}
abbrev NPl : List Str := ["_law_parents", "_law_place", "_law_found"]
theorem scPl : FnScope NPl ["_law_parents", "_law_place"] (defScope s__law_path) := ⟨rfl, rfl, rfl, by decide +kernel, rfl, by decide +kernel, by decide +kernel⟩
theorem ok_pathL {f : Addr} {fd : FuncData} (F : Fun K "_law_path" "_law_path" s__law_path f fd) : FnOk P w K mg base CX0 1 f fd ["_law_parents", "_law_place"] spPathL := by
  refine F.ok scPl (fun vs H Q E h => ?_) (fun cdv A outer s H vs Q E hr h => ?_)
  · obtain ⟨q, a, t, rfl, _⟩ := h
    rfl
  · obtain ⟨q, a, t, rfl, hq, o, pl, k⟩ := h
    have hu := hu_of hr
    obtain ⟨rk, r⟩ := o.up
    refine ⟨_, pss_cons (ps_set (i := 2) scPl.nd rfl (.inl rfl) (pe_lst pa_nil))
      (pss_cons (ps_while PassesOwn.never (pt_cmpR op_ne (pv 1) pe_str (nomark _))
        (pss_cons (ps_expr (pe_bm PySem.F.plainAttrs_list PySem.F.slot_list_append PySem.F.type_list_append mt_append (pv 2) (pa_cons (pv 1) pa_nil)))
        (pss_one (ps_set (i := 1) scPl.nd rfl (.inl rfl) (pe_dget hu (pv 0) (pv 1) (fun _ _ => rfl))))))
      (pss_one (ps_ret (pv 2)))), ?_⟩
    have big : 1000 ≤ sizeLine := by decide
    have few := o.few
    have rdm : ∀ {H'}, Same H H' → Rd H' q (.dK (prs t)) := fun s => hq.imp (s _ _) fun ⟨ob, e⟩ => ⟨ob, s _ _ e⟩
    refine ⟨by show 0 ≤ sizeLine; omega, fun p0 n0 => ?_⟩
    refine while_by (fun σ H' => ∃ (x : Str) (ws : List Str), σ = [some (.ref q), some (.str x), some (.ref p0)] ∧ Same H H' ∧ H' p0 = some (.lst (ws.map V.str)) ∧ Pl t x ∧ pathOf t a = pathOf t x ++ ws.reverse)
      (fun σ _ => rankL t rk σ) ⟨a, [], rfl, same_new n0, upd_same, pl, by rw [List.reverse_nil, List.append_nil]⟩ ?_ ?_
    · rintro σ H1 ⟨x, ws, rfl, s1, aw, px, epath⟩
      refine ⟨_, rfl, rfl, _, rfl, ?_⟩
      have lws : ws.length ≤ 12 := by
        have z := congrArg List.length epath
        rw [List.length_append, List.length_reverse] at z
        have := path_len t a
        omega
      by_cases e : x = ""
      · rw [decide_eq_true (show V.str x = V.str "" by rw [e])]
        refine iteF ?_
        rw [e, path_root, List.nil_append] at epath
        exact ⟨_, rfl, k p0 H1 s1 n0 (by rw [epath, List.reverse_reverse]; exact aw)⟩
      · rw [decide_eq_false (show ¬ V.str x = V.str "" from fun z => e (V.str.inj z))]
        show if true = true then _ else _
        rw [if_pos rfl]
        have mx := px.resolve_left e
        obtain ⟨pa, ep, hpa, lx⟩ := o.step r mx
        refine ⟨_, rfl, .inl ⟨rfl, _, SqL.of aw⟩, _, rfl, p0, _, _, rfl, rfl, aw, by rw [List.length_map]; omega, ?_⟩
        obtain ⟨H2, e2⟩ : ∃ X, X = upd H1 p0 (.lst (ws.map V.str ++ [V.str x])) := ⟨_, rfl⟩
        have s2 : Same H H2 := e2 ▸ s1.put n0
        rw [← e2]
        have dg : DGet H2 q (.str x) (some (.str pa)) := .inl ⟨_, Sum.inr x, rdm s2, rfl, by rw [val_prs, ep] <;> rfl⟩
        refine ⟨_, rfl, _, rfl, q, .str pa, rfl, dg, ⟨pa, ws ++ [x], rfl, s2, by rw [e2, upd_same, List.map_append] <;> rfl, hpa.imp id And.left, by rw [epath, path_step o mx ep, List.reverse_append, List.append_assoc] <;> rfl⟩, ?_⟩
        show (if pa ∈ t.map Prod.fst then rk pa + 1 else 0) < (if x ∈ t.map Prod.fst then rk x + 1 else 0)
        rw [if_pos mx]
        split
        · rename_i m
          have := (hpa.resolve_left fun z => o.root (by rw [← z]; exact m)).2
          omega
        · omega
    · exact fun σ H Q Q' hm ⟨v, e, z, b, eb, q⟩ => ⟨v, e, z, b, eb, hm _ _ q⟩
end
end FT


/-! methods and properties, as a whole -/
namespace FT
open PySem L2 TL ClX
/-- a method of a class, as a whole -/
structure Mt (P : Program) (w : World) (K : PySem.W.Frag) (mg : Str → Option Value) (base : Heap) (CX : CXT) (k : Nat) (C : Addr) (m : Str) (ps : List Str) (sp : Sp) (f : Addr) (fd : FuncData) : Prop where
  mt : Meth K C m f
  fn : FnOk P w K mg base CX k f fd ps sp
  bn : Binds K fd ps []
/-- a property, at any level -/
structure PrN (P : Program) (w : World) (K : PySem.W.Frag) (mg : Str → Option Value) (base : Heap) (k : Nat) (C : Addr) (x : Str) (sp : Sp) (p g : Addr) (fd : FuncData) : Prop where
  pr : PropOf K C x p g
  fn : FnOk P w K mg base CX0 k g fd ["self"] sp
  bn : Binds K fd ["self"] []
end FT


/-! Assignment: made of valid places; its places -/
namespace FT
open PySem L2 TL ClX
/-- the class Assignment -/
structure Ac (K : PySem.W.Frag) (mg : Str → Option Value) (CA : Addr) (mc : Value) : Prop where
  gA : mg "Assignment" = some (.ref CA)
  rd : CRead K CA mc
  most : ∃ u, CVal K CA mc "MOST" (.int 60) u
  cl : Cls K CA
  nF : NoAttr K CA "own_forest"
  nP : NoAttr K CA "own_places"
/-- an assignment at y: its forest, its places -/
def AAt (CA : Addr) (H : Hp) (y x : Addr) (zs : List Str) : Prop := ∃ dy p, H y = some (.ins CA dy [("own_forest", .ref x), ("own_places", .ref p)]) ∧ H p = some (.lst (zs.map V.str))
theorem AAt.mono {CA y x : Addr} {H H' : Hp} {zs : List Str} (s : Same H H') (h : AAt CA H y x zs) : AAt CA H' y x zs := let ⟨dy, p, e1, e2⟩ := h; ⟨dy, p, s _ _ e1, s _ _ e2⟩
theorem put2a {u v : V} : putF "own_places" v [(("own_forest" : Str), u)] = [(("own_forest" : Str), u), (("own_places" : Str), v)] := by
  unfold putF
  rw [if_neg (by decide +kernel)] <;> rfl
def spAInit (CF CA : Addr) : Sp := fun vs H Q _ => ∃ (y x l dy : Addr) (ts : List (Str × Str)) (zs : List Str), vs = [.ref y, .ref x, .ref l] ∧ H y = some (.ins CA dy []) ∧ FAt CF H x ts ∧ TreeOk ts ∧ H l = some (.lst (zs.map V.str)) ∧ 1 ≤ zs.length ∧ zs.length ≤ 60 ∧ (∀ z ∈ zs, Pl ts z) ∧
  ∀ H', AAt CA H' y x zs → (∀ b o, b ≠ y → H b = some o → H' b = some o) → Q .non H'
def spAPlaces (CA : Addr) : Sp := fun vs H Q _ => ∃ (y x : Addr) (zs : List Str), vs = [.ref y] ∧ AAt CA H y x zs ∧ ∀ p, H p = none → Q (.ref p) (upd H p (.lst (zs.map V.str)))
section
variable {P : Program} {w : World} {K : PySem.W.Frag} {mg : Str → Option Value} {base : Heap}
theorem scAInit : FnScope ["self", "forest", "places", "user", "place"] ["self", "forest", "places"] (defScope s_Assignment___init__) := ⟨rfl, rfl, rfl, by decide +kernel, rfl, by decide +kernel, by decide +kernel⟩
theorem ok_ainit {f CF CA : Addr} {mc mcA : Value} {fd : FuncData} (F : Fun K "__init__" "Assignment.__init__" s_Assignment___init__ f fd) (T : Nm mg) (O : FoC K CF) (Z : Fc K mg CF mc) (B : Ac K mg CA mcA) : FnOk P w K mg base CX0 1 f fd ["self", "forest", "places"] (spAInit CF CA) := by
  obtain ⟨um, cm⟩ := B.most
  obtain ⟨ur, cr⟩ := Z.root
  refine F.ok scAInit (fun vs H Q E h => ?_) (fun cdv A outer s H vs Q E hr h => ?_)
  · obtain ⟨y, x, l, dy, ts, zs, rfl, _⟩ := h
    rfl
  · obtain ⟨y, x, l, dy, ts, zs, rfl, hy, fa, o, hl, one, few, mem, k⟩ := h
    have hu := hu_of hr
    refine ⟨_, pss_cons (ps_if (PW.pt (pw_or (pt_not (pt_val (pe_callB call_isiT (by rfl) T.isi (by decide +kernel) (pa_cons (pv 2) (pa_cons (pe_tup (pa_cons (pe_bltn (v := .ty "list") (u := .type "list") (by rfl) T.lst (by decide +kernel) rfl) (pa_cons (pe_bltn (v := .ty "tuple") (u := .type "tuple") (by rfl) T.tup (by decide +kernel) rfl) pa_nil))) pa_nil)))))
        (pw_or1 (pt_not (pt_chain op_le op_le pe_int (pe_callB call_len_seq (by rfl) T.len PySem.boot_len (pa_cons (pv 2) pa_nil)) (pe_cval (pe_glob (v := .ref CA) (by rfl) B.gA rfl))))))) pss_never pss_nil)
      (pss_cons (ps_for PassesOwn.never rfl (pi_enum rfl T.enu (pa_cons (pv 2) pa_nil)) (pg_tup rfl (pgs_cons (pg_name (i := 3) scAInit.nd rfl (.inl rfl)) (pgs_cons (pg_name (i := 4) scAInit.nd rfl (.inl rfl)) pgs_nil)))
        (pss_one (ps_if (PW.pt (pw_or (pt_not (pt_val (pe_callB call_isi (by rfl) T.isi (by decide +kernel) (pa_cons (pv 4) (pa_cons (pe_bltn (v := .ty "str") (u := .type "str") (by rfl) T.str (by decide +kernel) rfl) pa_nil)))))
          (pw_or1 (PW.pt (pw_and (pt_cmpR op_ne (pv 4) (pe_cval (pe_glob (v := .ref CF) (by rfl) Z.gF rfl)) (nomark _)) (pw_and1 (pt_cmp (pc_dnotin hu (pv 4) (pe_fld (pv 1) rfl))))))))) pss_never pss_nil)))
      (pss_cons (ps_fld (pv 0) (pv 1) rfl)
      (pss_one (ps_fld (pv 0) (pe_callTy call_list_of (by rfl) T.lst (by decide +kernel) (pa_cons (pv 2) pa_nil)) rfl)))), ?_⟩
    have big : 1000 ≤ sizeLine := by decide
    obtain ⟨dx, dq, hx, hd⟩ := fa
    refine ⟨_, rfl, by show 2 ≤ sizeLine; omega, fun tp ntp => ?_⟩
    have s1 := same_new (o := .tup [.ty "list", .ty "tuple"]) ntp
    refine ⟨.ref l, tp, [.ty "list", .ty "tuple"], _, [.type "list", .type "tuple"], true, rfl, upd_same, .cons (.ty _) (.cons (.ty _) .nil), .base (.lst (s1 _ _ hl)), kitAny_cons (b := true) (kit_ty (by decide +kernel)) (fun z => nomatch z) (fun _ => rfl), true, rfl, ?_⟩
    refine iteF ?_
    obtain ⟨H1, e1⟩ : ∃ X, X = upd H tp (.tup [.ty "list", .ty "tuple"]) := ⟨_, rfl⟩
    rw [← e1] at s1 ⊢
    have hl1 := s1 _ _ hl
    refine ⟨_, rfl, l, _, rfl, .inl (SqL.of hl1), _, _, rfl, rfl, _, rfl, ?_⟩
    have ll : (zs.map V.str).length = zs.length := List.length_map ..
    rw [if_pos (decide_eq_true (by omega))]
    refine ⟨CA, mcA, _, um, rfl, B.rd, cm, _, _, rfl, rfl, _, rfl, ?_⟩
    rw [decide_eq_true (show ((zs.map V.str).length : Int) ≤ 60 by omega)]
    refine iteF ?_
    refine ⟨_, rfl, l, _, rfl, SqL.of hl1, ?_⟩
    refine for_it walk_enum (fun j σ' H' => (∃ u3 u4, σ' = [some (.ref y), some (.ref x), some (.ref l), u3, u4]) ∧ Same H1 H') ⟨⟨_, _, rfl⟩, fun _ _ e => e⟩ (fun j σ' H' _ z => SqL.of (z.2 _ _ hl1)) ?_ ?_
    · intro j T' σ' Ha Hb hj ⟨⟨u3, u4, e⟩, sa⟩ ⟨Tp, i, z, eT, nT, eH, ey, ez⟩
      subst e
      subst eT
      subst eH
      cases ey
      obtain ⟨a, ha, rfl⟩ := map_of (show (zs.map V.str)[j]? = some z from ez)
      have ma := mem a (List.mem_of_getElem? ha)
      have sT := same_new (o := .tup [.int (j : Int), .str a]) nT
      have hx2 := sT _ _ (sa _ _ (s1 _ _ hx))
      have hd2 := sT _ _ (sa _ _ (s1 _ _ hd))
      refine ⟨Tp, _, rfl, .inl (.inl upd_same), rfl, ?_⟩
      refine ⟨_, _, rfl, _, _, rfl, rfl, ?_⟩
      refine ⟨_, rfl, .str a, _, _, _, true, rfl, .ty _, .base (.str a), kit_ty (by decide +kernel), true, rfl, ?_⟩
      refine iteF ?_
      refine ⟨_, rfl, CF, mc, _, ur, rfl, Z.rd, cr, rfl, _, rfl, ?_⟩
      by_cases e0 : a = ""
      · rw [decide_eq_true (show V.str a = V.str "" by rw [e0])]
        refine iteF ?_
        exact iteF ⟨⟨_, _, rfl⟩, sa.trans sT⟩
      · rw [decide_eq_false (show ¬ V.str a = V.str "" from fun z => e0 (V.str.inj z))]
        show if true = true then _ else _
        rw [if_pos rfl]
        obtain ⟨pa, hp⟩ := par_some o.nd (ma.resolve_left e0)
        refine ⟨_, rfl, _, rfl, x, CF, dx, _, .ref dq, rfl, hx2, O.cl, O.nA, rfl, dq, _, rfl, dget_prs (.inl hd2) hp, _, rfl, ?_⟩
        exact iteF ⟨⟨_, _, rfl⟩, sa.trans sT⟩
    · intro σ' H2 ⟨⟨u3, u4, e⟩, sa⟩
      subst e
      have s2 : Same H H2 := s1.trans sa
      have hy2 := s2 _ _ hy
      have hl2 := s2 _ _ hl
      have yl : l ≠ y := ne_of hl2 hy2 (by intro z; cases z)
      refine ⟨_, rfl, _, rfl, y, CA, dy, [], rfl, hy2, B.cl, B.nF, by show 0 < 1000; decide, ?_⟩
      refine ⟨_, rfl, l, _, rfl, .inl (SqL.of (by rw [upd_ne yl]; exact hl2)), fun p np => ?_⟩
      have yp : y ≠ p := ne_of_none upd_same np
      refine ⟨_, rfl, y, CA, dy, [("own_forest", .ref x)], rfl, by rw [upd_ne yp, upd_same] <;> rfl, B.cl, B.nP, by show 1 < 1000; decide, ?_⟩
      rw [put2a]
      refine k _ ⟨dy, p, upd_same, by rw [upd_ne yp.symm, upd_same]⟩ fun b o by_ e => ?_
      have np2 : H2 p = none := by
        rw [upd_ne yp.symm] at np
        exact np
      rw [upd_ne by_, upd_ne (ne_of_none (s2 _ _ e) np2), upd_ne by_]
      exact s2 _ _ e
theorem scAPlaces : FnScope ["self"] ["self"] (defScope s_Assignment_places) := ⟨rfl, rfl, rfl, by decide +kernel, rfl, by decide +kernel, by decide +kernel⟩
theorem ok_aplaces {f CA : Addr} {mcA : Value} {fd : FuncData} (F : Fun K "places" "Assignment.places" s_Assignment_places f fd) (T : Nm mg) (B : Ac K mg CA mcA) : FnOk P w K mg base CX0 1 f fd ["self"] (spAPlaces CA) := by
  refine F.ok scAPlaces (fun vs H Q E h => ?_) (fun cdv A outer s H vs Q E hr h => ?_)
  · obtain ⟨y, x, zs, rfl, _⟩ := h
    rfl
  · obtain ⟨y, x, zs, rfl, ⟨dy, p, hy, hp⟩, k⟩ := h
    refine ⟨_, pss_one (ps_ret (pe_callTy call_list_of (by rfl) T.lst (by decide +kernel) (pa_cons (pe_fld (pv 0) rfl) pa_nil))), ?_⟩
    exact ⟨_, rfl, y, CA, dy, _, .ref p, rfl, hy, B.cl, B.nP, rfl, p, _, rfl, .inl (SqL.of hp), fun q nq => k q nq⟩
end
end FT


/-! Assignment: forest, total, sizes, users_of, at -/
namespace FT
open PySem L2 TL ClX LiI
/-- the numbers below n with a mark -/
def selU (n : Nat) (c : Nat → Bool) : List Int := ((List.range n).filter c).map fun i : Nat => (i : Int)
theorem selU_zero (c : Nat → Bool) : selU 0 c = [] := rfl
theorem selU_more (n : Nat) (c : Nat → Bool) : selU (n + 1) c = selU n c ++ if c n = true then [(n : Int)] else [] := by
  unfold selU
  rw [List.range_succ, List.filter_append, List.map_append]
  by_cases h : c n = true
  · rw [if_pos h, List.filter_cons, if_pos h] <;> rfl
  · rw [if_neg h, List.filter_cons, if_neg h] <;> rfl
theorem selU_len (n : Nat) (c : Nat → Bool) : (selU n c).length ≤ n := by
  unfold selU
  rw [List.length_map]
  have := List.length_filter_le c (List.range n)
  rw [List.length_range] at this
  exact this
theorem mem_selU {n : Nat} {c : Nat → Bool} {u : Int} : u ∈ selU n c ↔ ∃ i : Nat, u = i ∧ i < n ∧ c i = true := by
  unfold selU
  rw [List.mem_map]
  constructor
  · rintro ⟨i, hi, rfl⟩
    obtain ⟨h1, h2⟩ := List.mem_filter.mp hi
    exact ⟨i, rfl, List.mem_range.mp h1, h2⟩
  · rintro ⟨i, rfl, h1, h2⟩
    exact ⟨i, List.mem_filter.mpr ⟨List.mem_range.mpr h1, h2⟩, rfl⟩
def atC (zs : List Str) (p : Str) (i : Nat) : Bool := decide (zs[i]? = some p)
def hasC (ts : List (Str × Str)) (zs : List Str) (a : Str) (i : Nat) : Bool := match zs[i]? with
  | some z => decide (a ∈ pathOf ts z)
  | none => false
/-- the users at a place; those that have a flag; how many -/
def atU (zs : List Str) (p : Str) : List Int := selU zs.length (atC zs p)
def hasU (ts : List (Str × Str)) (zs : List Str) (a : Str) : List Int := selU zs.length (hasC ts zs a)
def szZ (ts : List (Str × Str)) (zs : List Str) (a : Str) : Int := ((zs.filter fun z => decide (a ∈ pathOf ts z)).length : Int)
theorem szZ_more {ts : List (Str × Str)} {zs : List Str} {z a : Str} {j : Nat} (h : zs[j]? = some z) : szZ ts (zs.take (j + 1)) a = szZ ts (zs.take j) a + if a ∈ pathOf ts z then 1 else 0 := by
  unfold szZ
  rw [take_more h, List.filter_append, List.length_append]
  by_cases m : a ∈ pathOf ts z
  · rw [if_pos m, List.filter_cons, if_pos (decide_eq_true m)] <;> rfl
  · rw [if_neg m, List.filter_cons, if_neg (by rw [decide_eq_false m]; decide)] <;> rfl
def spAForest (CA : Addr) : Sp := fun vs H Q _ => ∃ (y x : Addr) (zs : List Str), vs = [.ref y] ∧ AAt CA H y x zs ∧ Q (.ref x) H
def spATotal (CA : Addr) : Sp := fun vs H Q _ => ∃ (y x : Addr) (zs : List Str), vs = [.ref y] ∧ AAt CA H y x zs ∧ Q (.int (zs.length : Int)) H
def spSizesOf (CF : Addr) : Sp := fun vs H Q _ => ∃ (x l : Addr) (ts : List (Str × Str)) (zs : List Str), vs = [.ref x, .ref l] ∧ FAt CF H x ts ∧ TreeOk ts ∧ H l = some (.lst (zs.map V.str)) ∧ (∀ z ∈ zs, Pl ts z) ∧
  ∀ (p : Addr) (H' : Hp), Same H H' → H p = none → H' p = some (.dK (tblI (ts.map Prod.fst) (szZ ts zs))) → Q (.ref p) H'
def spASizes (CF CA : Addr) : Sp := fun vs H Q _ => ∃ (y x : Addr) (ts : List (Str × Str)) (zs : List Str), vs = [.ref y] ∧ AAt CA H y x zs ∧ FAt CF H x ts ∧ TreeOk ts ∧ (∀ z ∈ zs, Pl ts z) ∧
  ∀ (p : Addr) (H' : Hp), Same H H' → H p = none → H' p = some (.dK (tblI (ts.map Prod.fst) (szZ ts zs))) → Q (.ref p) H'
def spAAt (CF CA : Addr) : Sp := fun vs H Q _ => ∃ (y x : Addr) (ts : List (Str × Str)) (zs : List Str) (a : Str), vs = [.ref y, .str a] ∧ AAt CA H y x zs ∧ FAt CF H x ts ∧ TreeOk ts ∧ zs.length ≤ 1000 ∧ Pl ts a ∧
  ∀ (p : Addr) (H' : Hp), Same H H' → H p = none → H' p = some (.lst ((atU zs a).map V.int)) → Q (.ref p) H'
def spAUsers (CF CA : Addr) : Sp := fun vs H Q _ => ∃ (y x : Addr) (ts : List (Str × Str)) (zs : List Str) (a : Str), vs = [.ref y, .str a] ∧ AAt CA H y x zs ∧ FAt CF H x ts ∧ TreeOk ts ∧ (∀ z ∈ zs, Pl ts z) ∧ zs.length ≤ 1000 ∧ a ∈ ts.map Prod.fst ∧
  ∀ (p : Addr) (H' : Hp), Same H H' → H p = none → H' p = some (.lst ((hasU ts zs a).map V.int)) → Q (.ref p) H'
def spNeedFl (CF : Addr) : Sp := fun vs H Q _ => ∃ (x : Addr) (ts : List (Str × Str)) (a : Str), vs = [.ref x, .str a] ∧ FAt CF H x ts ∧ TreeOk ts ∧ a ∈ ts.map Prod.fst ∧ Q .non H
section
variable {P : Program} {w : World} {K : PySem.W.Frag} {mg : Str → Option Value} {base : Heap}
theorem scATo : FnScope ["self"] ["self"] (defScope s_Assignment_total) := ⟨rfl, rfl, rfl, by decide +kernel, rfl, by decide +kernel, by decide +kernel⟩
theorem ok_atotal {f CA : Addr} {mcA : Value} {fd : FuncData} (F : Fun K "total" "Assignment.total" s_Assignment_total f fd) (T : Nm mg) (B : Ac K mg CA mcA) : FnOk P w K mg base CX0 1 f fd ["self"] (spATotal CA) := by
  refine F.ok scATo (fun vs H Q E h => ?_) (fun cdv A outer s H vs Q E hr h => ?_)
  · obtain ⟨y, x, zs, rfl, _⟩ := h
    rfl
  · obtain ⟨y, x, zs, rfl, ⟨dy, p, hy, hp⟩, k⟩ := h
    refine ⟨_, pss_one (ps_ret (pe_callB call_len_seq (by rfl) T.len PySem.boot_len (pa_cons (pe_fld (pv 0) rfl) pa_nil))), ?_⟩
    refine ⟨_, rfl, y, CA, dy, _, .ref p, rfl, hy, B.cl, B.nP, rfl, p, _, rfl, .inl (SqL.of hp), ?_⟩
    rw [List.length_map]
    exact k
abbrev NSo : List Str := ["forest", "places", "name", "found", "place"]
theorem scSo : FnScope NSo ["forest", "places"] (defScope s_sizes_of) := ⟨rfl, rfl, rfl, by decide +kernel, rfl, by decide +kernel, by decide +kernel⟩
theorem ok_sizesOf {f fP CF p1 g1 : Addr} {fd fdP fd1 : FuncData} (F : Fun K "sizes_of" "sizes_of" s_sizes_of f fd) (T : Nm mg) (O : FoC K CF) (L1 : Pr1 P w K mg base CF "flags" (spFFlags CF) p1 g1 fd1) (DP : Dn P w K mg base CX0 1 "path_in" ["above", "place"] spPathIn fP fdP) : FnOk P w K mg base CX0 3 f fd ["forest", "places"] (spSizesOf CF) := by
  refine F.ok scSo (fun vs H Q E h => ?_) (fun cdv A outer s H vs Q E hr h => ?_)
  · obtain ⟨x, l, ts, zs, rfl, _⟩ := h
    rfl
  · obtain ⟨x, l, ts, zs, rfl, fa, o, hl, pl, k⟩ := h
    have hu := hu_of hr
    have nd := scSo.nd
    have hr1 : Room 1 _ := hr.mono (by decide)
    have hr2 : Room 2 _ := hr.mono (by decide)
    have big : 1000 ≤ sizeLine := by decide
    have few := o.few
    refine ⟨_, pss_cons (ps_set (i := 3) nd rfl (.inl rfl) (pe_callTy (call_dictP rfl) (by rfl) T.dct (by decide +kernel) (pa_cons (pe_lc (own := [("name", 2)]) (g := gName 2) (tt := tYes) rfl nd (pi_list (pe_prop (pv 0) O.cl L1.pr L1.fn hr2 L1.bn .nil pass0 (by rfl)))
          (blkOk_by (N := NSo) (sc := defScope s_sizes_of) (by decide +kernel)) (fun _ _ _ _ _ => pg_name (i := 2) nd rfl (Or.inl rfl)) (fun _ _ _ _ _ => pts_nil) (fun _ _ _ _ _ => pe_tup (pa_cons (pv 2) (pa_cons pe_int pa_nil)))) pa_nil)))
      (pss_cons (ps_for PassesOwn.never rfl (pi_list (pv 1)) (pg_name (i := 4) nd rfl (.inl rfl))
        (pss_one (ps_for PassesOwn.never rfl (pi_tup (pe_call DP.ok hr1 rfl DP.mgn DP.kp DP.bn .nil pass0 (pa_cons (pe_fld (pv 0) rfl) (pa_cons (pv 4) pa_nil)))) (pg_name (i := 2) nd rfl (.inl rfl))
          (pss_one (ps_dput hu (pv 3) (pv 2) (pe_op op_add (pe_dget hu (pv 3) (pv 2) (fun _ _ => rfl)) pe_int) rfl)))))
      (pss_one (ps_ret (pv 3)))), ?_⟩
    obtain ⟨dx, dq, hx, hd⟩ := id fa
    refine ⟨_, rfl, x, dx, _, rfl, hx, x, ts, rfl, fa, fun pf nf => ⟨pf, rfl, ⟨_, SqL.of upd_same⟩, fun D nD => ?_⟩⟩
    obtain ⟨H1, e1⟩ : ∃ X, X = upd H pf (.lst ((ts.map Prod.fst).map V.str)) := ⟨_, rfl⟩
    have s1 : Same H H1 := e1 ▸ same_new nf
    have a1 : H1 pf = some (.lst ((ts.map Prod.fst).map V.str)) := by rw [e1]; exact upd_same
    rw [← e1] at nD ⊢
    refine lc_it walk_list (fun i H' => Same H1 H' ∧ ∃ rs : List Addr, H' D = some (.lst (rs.map V.ref)) ∧ PrG (fun _ => .int 0) H' rs ((ts.map Prod.fst).take i)) ⟨same_new nD, [], upd_same, .nil⟩ (fun i H' _ z => SqL.of (z.1 _ _ a1)) ?_ ?_
    · intro i y Hz Ha hi ⟨z1, rs, hD, pr⟩ ⟨eb, ex⟩
      subst eb
      obtain ⟨a, ha, rfl⟩ := map_of ex
      have lr := pr.len
      rw [List.length_take, List.length_map] at lr
      refine ⟨rfl, ?_⟩
      refine ⟨_, rfl, by show 2 ≤ sizeLine; omega, fun tq ntq => ?_⟩
      have sq : Same Ha (upd Ha tq (.tup [.str a, .int 0])) := same_new ntq
      refine ⟨_, sq _ _ hD, by rw [List.length_map]; omega, (z1.trans sq).put nD, rs ++ [tq], by rw [upd_same, List.map_append] <;> rfl, ?_⟩
      rw [take_more ha]
      exact PrG.push (sq _ _ hD) (PrG.snoc upd_same (pr.mono sq))
    intro H2 ⟨z1, rs, hD, pr⟩
    rw [List.length_map, List.take_length] at pr
    refine ⟨D, rs, _, rfl, SqL.of hD, pr.kvs, fun pd npd => ?_⟩
    rw [merge_nd (by rw [map_fst]; exact o.nd)]
    have s02 : Same H H2 := s1.trans z1
    have np0 : H pd = none := s02.free npd
    obtain ⟨H3, e3⟩ : ∃ X, X = upd H2 pd (.dK (kvT ((ts.map Prod.fst).map fun a => (a, V.int 0)))) := ⟨_, rfl⟩
    have s03 : Same H H3 := e3 ▸ s02.trans (same_new npd)
    have hp3 : H3 pd = some (.dK (tblI (ts.map Prod.fst) (szZ ts []))) := by rw [e3, upd_same] <;> rfl
    rw [← e3]
    refine ⟨_, rfl, l, rfl, ⟨_, SqL.of (s03 _ _ hl)⟩, ?_⟩
    refine for_it walk_list (fun j σ' H' => (∃ u2 u4, σ' = [some (.ref x), some (.ref l), u2, some (.ref pd), u4]) ∧ Same H H' ∧ H' pd = some (.dK (tblI (ts.map Prod.fst) (szZ ts (zs.take j))))) ⟨⟨_, _, rfl⟩, s03, by rw [List.take_zero]; exact hp3⟩ (fun j σ' H' _ z => SqL.of (z.2.1 _ _ hl)) ?_ ?_
    · intro j y σ' Hz Ha hj ⟨⟨u2, u4, e⟩, sa, hpd⟩ ⟨eb, ex⟩
      subst e
      subst eb
      obtain ⟨z, hz, rfl⟩ := map_of ex
      have mz := pl z (List.mem_of_getElem? hz)
      refine ⟨_, rfl, x, CF, dx, _, .ref dq, rfl, sa _ _ hx, O.cl, O.nA, rfl, _, rfl, dq, ts, z, rfl, .inl (sa _ _ hd), o, mz, fun pt H4 s4 npt hpt => ?_⟩
      have pdt : pd ≠ pt := ne_of_none hpd npt
      have nt0 : H pt = none := sa.free npt
      refine ⟨pt, rfl, ⟨_, .inl (.inl hpt)⟩, ?_⟩
      have nodup := path_nd o mz
      refine for_it walk_tup (fun i σ' H' => (∃ u2, σ' = [some (.ref x), some (.ref l), u2, some (.ref pd), some (.str z)]) ∧ Same H H' ∧ H' pt = some (.tup ((pathOf ts z).map V.str)) ∧ H' pd = some (.dK (tblI (ts.map Prod.fst) fun a => szZ ts (zs.take j) a + if a ∈ (pathOf ts z).take i then 1 else 0)))
        ⟨⟨_, rfl⟩, sa.trans s4, hpt, by rw [s4 _ _ hpd]; congr 2⟩ (fun i σ' H' _ w => .inl (.inl w.2.2.1)) ?_ ?_
      · intro i y2 σ2 Hy Hb hi ⟨⟨u2', e⟩, sb, hpt', hpd'⟩ ⟨eb, ex⟩
        subst e
        subst eb
        obtain ⟨b, hb, rfl⟩ := map_of ex
        have mb := path_all o mz b (List.mem_of_getElem? hb)
        have nb := nat_fresh nodup hb
        have dg : DGet Hb pd (.str b) (some (.int (szZ ts (zs.take j) b + 0))) := by
          have w := DGet.k (k := Sum.inr b) hpd'
          rw [tblI_val mb, if_neg nb] at w
          exact w
        refine ⟨_, rfl, _, rfl, pd, _, rfl, dg, _, _, rfl, rfl, _, rfl, _, rfl, pd, _, rfl, DPut.k (k := Sum.inr b) hpd' (by rw [tblI_len, List.length_map]; omega), ?_⟩
        rw [tblI_put mb]
        refine ⟨⟨_, rfl⟩, sb.put np0, by rw [upd_ne pdt.symm]; exact hpt', ?_⟩
        rw [upd_same, take_more hb]
        congr 2
        refine tblI_congr fun a _ => ?_
        by_cases w : a = b
        · rw [if_pos w, w, if_pos (List.mem_append_right _ (List.mem_singleton_self _)), Int.add_zero]
        · rw [if_neg w]
          by_cases m : a ∈ (pathOf ts z).take i
          · rw [if_pos m, if_pos (List.mem_append_left _ m)]
          · rw [if_neg m, if_neg fun h => (List.mem_append.mp h).elim m fun h => w (List.mem_singleton.mp h)]
      · intro σ2 Hb ⟨⟨u2', e⟩, sb, hpt', hpd'⟩
        subst e
        rw [List.length_map, List.take_length] at hpd'
        refine ⟨⟨_, _, rfl⟩, sb, ?_⟩
        rw [hpd']
        congr 2
        exact tblI_congr fun a _ => (szZ_more hz).symm
    · intro σ' H4 ⟨⟨u2, u4, e⟩, sa, hpd⟩
      subst e
      rw [List.length_map, List.take_length] at hpd
      exact ⟨_, rfl, k pd H4 sa np0 hpd⟩
theorem scASz : FnScope ["self"] ["self"] (defScope s_Assignment_sizes) := ⟨rfl, rfl, rfl, by decide +kernel, rfl, by decide +kernel, by decide +kernel⟩
theorem ok_asizes {f fS CF CA : Addr} {mcA : Value} {fd fdS : FuncData} (F : Fun K "sizes" "Assignment.sizes" s_Assignment_sizes f fd) (B : Ac K mg CA mcA) (DS : Dn P w K mg base CX0 3 "sizes_of" ["forest", "places"] (spSizesOf CF) fS fdS) : FnOk P w K mg base CX0 4 f fd ["self"] (spASizes CF CA) := by
  refine F.ok scASz (fun vs H Q E h => ?_) (fun cdv A outer s H vs Q E hr h => ?_)
  · obtain ⟨y, x, ts, zs, rfl, _⟩ := h
    rfl
  · obtain ⟨y, x, ts, zs, rfl, ⟨dy, p, hy, hp⟩, fa, o, pl, k⟩ := h
    refine ⟨_, pss_one (ps_ret (pe_call DS.ok hr rfl DS.mgn DS.kp DS.bn .nil pass0 (pa_cons (pe_fld (pv 0) rfl) (pa_cons (pe_fld (pv 0) rfl) pa_nil)))), ?_⟩
    exact ⟨_, rfl, y, CA, dy, _, .ref x, rfl, hy, B.cl, B.nF, rfl, _, rfl, y, CA, dy, _, .ref p, rfl, hy, B.cl, B.nP, rfl, x, p, ts, zs, rfl, fa, o, hp, pl, k⟩
end
end FT


/-! paired lists -/
namespace FT
open PySem L2 TL ClX LiI
theorem pair_impW {α β : Type} {F G : α → β → Prop} (m : ∀ x y, F x y → G x y) : ∀ {xs : List α} {ys : List β}, Paired F xs ys → Paired G xs ys
  | _, _, .nil => .nil
  | _, _, .cons h t => .cons (m _ _ h) (pair_impW m t)
theorem pair_appW {α β : Type} {F : α → β → Prop} : ∀ {xs xs' : List α} {ys ys' : List β}, Paired F xs ys → Paired F xs' ys' → Paired F (xs ++ xs') (ys ++ ys')
  | _, _, _, _, .nil, q => q
  | _, _, _, _, .cons h t, q => .cons h (pair_appW t q)
theorem keys_walkW {t : List (Str × Str)} {i : Nat} {k : Key} {v : V} (h : (prs t)[i]? = some (k, v)) : ∃ a p : Str, k = Sum.inr a ∧ v = .str p ∧ t[i]? = some (a, p) := by
  unfold prs kvT at h
  rw [List.map_map, List.getElem?_map] at h
  obtain ⟨⟨a, p⟩, hp, e⟩ := Option.map_eq_some_iff.mp h
  cases e
  exact ⟨a, p, rfl, rfl, hp⟩
end FT


/-! all objects but some are as they were -/
namespace FT
open PySem L2 TL ClX
/-- all but Ex is as it was -/
def KeepX (Ex : List Addr) (H H' : Hp) : Prop := ∀ b u, b ∉ Ex → H b = some u → H' b = some u
theorem KeepX.of_same {Ex : List Addr} {H H' : Hp} (s : Same H H') : KeepX Ex H H' := fun b u _ e => s b u e
theorem KeepX.trans {Ex : List Addr} {H H1 H2 : Hp} (a : KeepX Ex H H1) (b : KeepX Ex H1 H2) : KeepX Ex H H2 := fun x u n e => b x u n (a x u n e)
end FT


/-! _law_held -/
namespace FT
open PySem L2 TL ClX LiI
/-- who has a flag -/
def hlU (t : List (Str × Str)) (zs : List Str) (a : Str) : List Int := selU zs.length (hasC t zs a)
def hdK (xs : List (Str × Addr)) : List (Key × V) := kvT (xs.map fun z => (z.1, V.ref z.2))
/-- a dict from the flags to lists of users -/
def HeldAt (t : List (Str × Str)) (zs : List Str) (H : Hp) (p : Addr) : Prop := ∃ xs : List (Str × Addr), H p = some (.dK (hdK xs)) ∧ xs.map Prod.fst = t.map Prod.fst ∧ ∀ z ∈ xs, H z.2 = some (.lst ((hlU t zs z.1).map V.int))
theorem HeldAt.mono {t : List (Str × Str)} {zs : List Str} {H H' : Hp} {p : Addr} (s : Same H H') (h : HeldAt t zs H p) : HeldAt t zs H' p := let ⟨xs, h1, h2, h3⟩ := h; ⟨xs, s _ _ h1, h2, fun z hz => s _ _ (h3 z hz)⟩
/-- .. all of it new -/
def HeldN (t : List (Str × Str)) (zs : List Str) (H H' : Hp) (p : Addr) : Prop := H p = none ∧ ∃ xs : List (Str × Addr), H' p = some (.dK (hdK xs)) ∧ xs.map Prod.fst = t.map Prod.fst ∧ ∀ z ∈ xs, H z.2 = none ∧ H' z.2 = some (.lst ((hlU t zs z.1).map V.int))
theorem HeldN.at {t : List (Str × Str)} {zs : List Str} {H H' : Hp} {p : Addr} (h : HeldN t zs H H' p) : HeldAt t zs H' p := let ⟨_, xs, h1, h2, h3⟩ := h; ⟨xs, h1, h2, fun z hz => (h3 z hz).2⟩
/-- what was there may change -/
theorem HeldN.keepX {t : List (Str × Str)} {zs : List Str} {H H' H'' : Hp} {p R : Addr} {u : HO} (h : HeldN t zs H H' p) (hR : H R = some u) (k : KeepX [R] H' H'') : HeldN t zs H H'' p := by
  obtain ⟨h0, xs, h1, h2, h3⟩ := h
  have ne : ∀ {b : Addr}, H b = none → b ∉ [R] := fun hb m => by
    rw [List.mem_singleton.mp m, hR] at hb
    cases hb
  exact ⟨h0, xs, k p _ (ne h0) h1, h2, fun z hz => ⟨(h3 z hz).1, k _ _ (ne (h3 z hz).1) (h3 z hz).2⟩⟩
def spHeld : Sp := fun vs H Q _ => ∃ (q l : Addr) (t : List (Str × Str)) (zs : List Str), vs = [.ref q, .ref l] ∧ H q = some (.dK (prs t)) ∧ TreeOk t ∧ H l = some (.lst (zs.map V.str)) ∧ (∀ z ∈ zs, Pl t z) ∧ zs.length ≤ 1000 ∧ ∀ p H', Same H H' → HeldN t zs H H' p → Q (.ref p) H'
theorem val_hd : ∀ {xs : List (Str × Addr)} {a : Str} {x : Addr}, (xs.map Prod.fst).Nodup → (a, x) ∈ xs → valV (hdK xs) (Sum.inr a) = some (.ref x)
  | (b, y) :: xs, a, x, nd, h => by
    have ih := val_hd (xs := xs) (a := a) (x := x) (List.nodup_cons.mp nd).2
    unfold valV at ih ⊢
    show Option.map _ (List.find? _ ((Sum.inr b, V.ref y) :: hdK xs)) = _
    rw [List.find?_cons]
    rcases List.mem_cons.mp h with e | h
    · cases e
      rw [show decide ((Sum.inr b, V.ref y).1 = (Sum.inr b : Key)) = true from decide_eq_true rfl] <;> rfl
    · have n := (List.nodup_cons.mp nd).1
      rw [show decide ((Sum.inr b, V.ref y).1 = (Sum.inr a : Key)) = false from decide_eq_false fun e => n (by rw [Sum.inr.inj e]; exact List.mem_map.mpr ⟨_, h, rfl⟩)]
      exact ih h
theorem mem_snd {xs : List (Str × Addr)} (nd : (xs.map Prod.snd).Nodup) {z z' : Str × Addr} (h : z ∈ xs) (h' : z' ∈ xs) (e : z.2 = z'.2) : z = z' := by
  obtain ⟨i, hi⟩ := List.mem_iff_getElem?.mp h
  obtain ⟨j, hj⟩ := List.mem_iff_getElem?.mp h'
  have li := (List.getElem?_eq_some_iff.mp hi).1
  have hi' : (xs.map Prod.snd)[i]? = some z.2 := by rw [List.getElem?_map, hi] <;> rfl
  have hj' : (xs.map Prod.snd)[j]? = some z.2 := by rw [List.getElem?_map, hj, e] <;> rfl
  have := (List.getElem?_inj (by rw [List.length_map]; exact li) nd).mp (hi'.trans hj'.symm)
  rw [this] at hi
  rw [hi] at hj
  exact Option.some.inj hj
theorem pair_kv {H : Hp} {K : PySem.W.Frag} : ∀ {rs : List Addr} {xs : List (Str × Addr)}, Paired (fun p (z : Str × Addr) => H p = some (.tup [.str z.1, .ref z.2])) rs xs → Paired (fun p (kv : Key × V) => SqT K H p [kV kv.1, kv.2]) rs (hdK xs)
  | _, _, .nil => .nil
  | _, _, .cons h r => .cons (SqT.of h) (pair_kv r)
abbrev NHe : List Str := ["_law_parents", "_law_places", "_law_name", "_law_found", "_law_user", "_law_place"]
section
variable {P : Program} {w : World} {K : PySem.W.Frag} {mg : Str → Option Value} {base : Heap}
theorem scHe : FnScope NHe ["_law_parents", "_law_places"] (defScope s__law_held) := ⟨rfl, rfl, rfl, by decide +kernel, rfl, by decide +kernel, by decide +kernel⟩
theorem ok_held {f0 fP : Addr} {fd fdP : FuncData} (F : Fun K "_law_held" "_law_held" s__law_held f0 fd) (T : Nm mg) (DP : Dn P w K mg base CX0 1 "_law_path" ["_law_parents", "_law_place"] spPathL fP fdP) : FnOk P w K mg base CX0 2 f0 fd ["_law_parents", "_law_places"] spHeld := by
  refine F.ok scHe (fun vs H Q E h => ?_) (fun cdv A outer s H vs Q E hr h => ?_)
  · obtain ⟨q, l, t, zs, rfl, _⟩ := h
    rfl
  · obtain ⟨q, l, t, zs, rfl, hq, o, hl, pl, fz, k⟩ := h
    have hu := hu_of hr
    have nd := scHe.nd
    have hr1 : Room 1 _ := hr.mono (by decide)
    have big : 5000 ≤ sizeLine := by decide
    have few := o.few
    refine ⟨_, pss_cons (ps_set (i := 3) nd rfl (.inl rfl) (pe_callTy (call_dictP rfl) (by rfl) T.dct (by decide +kernel) (pa_cons (pe_lock (pe_lc (own := [("_law_name", 2)]) (g := gName 2) (tt := tYes) (te := tTup (tCons (tVar 2) (tCons (tLst tNil) tNil))) rfl nd (pi_keys (pv 0)) (blkOk_by (N := NHe) (sc := defScope s__law_held) (by decide +kernel)) (fun _ _ _ _ _ => pg_name (i := 2) nd rfl (Or.inl rfl)) (fun _ _ _ _ _ => pts_nil)
          (fun _ _ _ _ _ => pe_tup (pa_cons (pv 2) (pa_cons (pe_lst pa_nil) pa_nil))))) pa_nil)))
      (pss_cons (ps_for PassesOwn.never rfl (pi_enum rfl T.enu (pa_cons (pv 1) pa_nil)) (pg_tup rfl (pgs_cons (pg_name (i := 4) nd rfl (.inl rfl)) (pgs_cons (pg_name (i := 5) nd rfl (.inl rfl)) pgs_nil)))
        (pss_one (ps_for PassesOwn.never rfl (pi_list (pe_call DP.ok hr1 rfl DP.mgn DP.kp DP.bn .nil pass0 (pa_cons (pv 0) (pa_cons (pv 5) pa_nil)))) (pg_name (i := 2) nd rfl (.inl rfl))
          (pss_one (ps_expr (pe_bm PySem.F.plainAttrs_list PySem.F.slot_list_append PySem.F.type_list_append mt_append (pe_dget hu (pv 3) (pv 2) (fun _ _ => rfl)) (pa_cons (pv 4) pa_nil)))))))
      (pss_one (ps_ret (pv 3)))), ?_⟩
    refine ⟨q, _, hq, trivial, fun od => ⟨_, rfl, q, od, rfl, .inl ⟨_, upd_same, fun D nD => ?_⟩⟩⟩
    have Dq : D ≠ q := (ne_of_none upd_same nD).symm
    refine lc_it walk_keys (fun i H' => Same (upd H q (.frz od (.dK (prs t)))) H' ∧ ∃ (rs : List Addr) (xs : List (Str × Addr)), H' D = some (.lst (rs.map V.ref)) ∧ xs.map Prod.fst = (t.map Prod.fst).take i ∧ (xs.map Prod.snd).Nodup ∧ (∀ z ∈ xs, H z.2 = none ∧ H' z.2 = some (.lst []) ∧ z.2 ≠ D) ∧ Paired (fun p (z : Str × Addr) => H' p = some (.tup [.str z.1, .ref z.2])) rs xs)
      ⟨same_new nD, [], [], upd_same, rfl, List.nodup_nil, fun z hz => (by cases hz), .nil⟩ (fun i H' _ z => z.1 _ _ upd_same) ?_ ?_
    · intro i y Hz Ha hi ⟨q1, rs, xs, hD, efs, nds, hxs, pr⟩ ⟨eb, kk, vv, hk, ey⟩
      subst eb
      subst ey
      obtain ⟨a, pa, rfl, rfl, hp⟩ := keys_walkW hk
      rw [show kV (Sum.inr a) = V.str a from rfl]
      have ha : (t.map Prod.fst)[i]? = some a := by rw [List.getElem?_map, hp] <;> rfl
      have il := (List.getElem?_eq_some_iff.mp hp).1
      have lx : rs.length ≤ 12 := by
        have z1 := pair_lenZ pr
        have z2 := congrArg List.length efs
        rw [List.length_map, List.length_take, List.length_map] at z2
        omega
      refine ⟨rfl, ?_⟩
      refine ⟨_, rfl, by show 0 ≤ sizeLine; omega, fun x nx => ⟨by show 2 ≤ sizeLine; omega, fun p np => ?_⟩⟩
      have c1 := same_new (o := .lst ([] : List V)) nx
      have c2 := same_new (o := .tup [.str a, .ref x]) np
      have sF := c1.trans c2
      have Dx : D ≠ x := ne_of_none hD nx
      have Dp : D ≠ p := ne_of_none (c1 _ _ hD) np
      have nxH : H x = none := by
        have z := q1.free nx
        by_cases e : x = q
        · rw [e, upd_same] at z; cases z
        · rw [upd_ne e] at z; exact z
      refine ⟨_, sF _ _ hD, by rw [List.length_map]; omega, (q1.trans sF).put nD, rs ++ [p], xs ++ [(a, x)], by rw [upd_same, List.map_append] <;> rfl, by rw [List.map_append, efs, take_more ha] <;> rfl, ?_, fun z hz => ?_, ?_⟩
      · rw [List.map_append]
        refine List.nodup_append.mpr ⟨nds, by simp, fun u hu' v hv e => ?_⟩
        obtain ⟨z, hz, rfl⟩ := List.mem_map.mp hu'
        have hv := List.mem_singleton.mp hv
        exact ne_of_none (hxs z hz).2.1 nx (e.trans hv)
      · rcases List.mem_append.mp hz with h | h
        · obtain ⟨g1, g2, g3⟩ := hxs z h
          exact ⟨g1, by rw [upd_ne g3]; exact sF _ _ g2, g3⟩
        · rw [List.mem_singleton.mp h]
          exact ⟨nxH, by rw [upd_ne Dx.symm]; exact c2 _ _ upd_same, Dx.symm⟩
      · refine pair_appW (pair_impW (fun r z e => ?_) pr) (.cons ?_ .nil)
        · rw [upd_ne (ne_of (sF _ _ e) (sF _ _ hD) (by intro z; cases z))]
          exact sF _ _ e
        · rw [upd_ne Dp.symm, upd_same]
    intro H4 ⟨q1, rs, xs, hD, efs, nds, hxs, pr⟩
    rw [prs_len, ← List.length_map (f := Prod.fst) (as := t), List.take_length] at efs
    have hq4 : H4 q = some (.frz od (.dK (prs t))) := q1 _ _ upd_same
    refine ⟨hq4, ?_⟩
    have su := unlock_same hq q1
    obtain ⟨H5, e5⟩ : ∃ X, X = upd H4 q (.dK (prs t)) := ⟨_, rfl⟩
    have hD5 : H5 D = some (.lst (rs.map V.ref)) := by rw [e5, upd_ne Dq]; exact hD
    have hx5 : ∀ z ∈ xs, H5 z.2 = some (.lst ([] : List V)) := fun z hz => by
      obtain ⟨g1, g2, g3⟩ := hxs z hz
      rw [e5, upd_ne (ne_of g2 hq4 (by intro z; cases z))]
      exact g2
    have pr5 : Paired (fun p (z : Str × Addr) => H5 p = some (.tup [.str z.1, .ref z.2])) rs xs := pair_impW (fun r z e => by
      rw [e5, upd_ne (ne_of e hq4 (by intro z; cases z))]
      exact e) pr
    rw [← e5] at su ⊢
    clear e5
    refine ⟨D, rs, hdK xs, rfl, SqL.of hD5, pair_kv pr5, fun pd npd => ?_⟩
    have ndf : (xs.map Prod.fst).Nodup := by rw [efs]; exact o.nd
    have em : mergeK [] (hdK xs) = hdK xs := merge_nd (by rw [List.map_map]; exact ndf)
    rw [em]
    obtain ⟨H6, e6⟩ : ∃ X, X = upd H5 pd (.dK (hdK xs)) := ⟨_, rfl⟩
    have s56 : Same H5 H6 := e6 ▸ same_new npd
    have s06 : Same H H6 := su.trans s56
    have hp6 : H6 pd = some (.dK (hdK xs)) := by rw [e6, upd_same]
    have hx6 : ∀ z ∈ xs, H6 z.2 = some (.lst ([] : List V)) := fun z hz => s56 _ _ (hx5 z hz)
    have npd0 : H pd = none := su.free npd
    rw [← e6]
    clear e6
    refine ⟨_, rfl, l, zs.map V.str, rfl, SqL.of (s06 _ _ hl), ?_⟩
    refine for_it walk_enum (fun j σ' H' => (∃ u2 u4 u5, σ' = [some (.ref q), some (.ref l), u2, some (.ref pd), u4, u5]) ∧ Same H H' ∧ H' pd = some (.dK (hdK xs)) ∧ ∀ z ∈ xs, H' z.2 = some (.lst ((selU j (hasC t zs z.1)).map V.int))) ⟨⟨_, _, _, rfl⟩, s06, hp6, fun z hz => hx6 z hz⟩ (fun j σ' H' _ z => SqL.of (z.2.1 _ _ hl)) ?_ ?_
    · intro j T' σ' Ha Hb hj ⟨⟨u2, u4, u5, e⟩, sa, hpd, hxa⟩ ⟨Tp, i, z, eT, nT, eH, ey, ez⟩
      subst e
      subst eT
      subst eH
      cases ey
      obtain ⟨b, hb, rfl⟩ := map_of (show (zs.map V.str)[j]? = some z from ez)
      have pb := pl b (List.mem_of_getElem? hb)
      have jl := (List.getElem?_eq_some_iff.mp hb).1
      have sT := same_new (o := .tup [.int (j : Int), .str b]) nT
      refine ⟨Tp, _, rfl, .inl (.inl upd_same), rfl, _, _, rfl, _, _, rfl, rfl, ?_⟩
      refine ⟨_, rfl, _, rfl, q, b, t, rfl, .inl (sT _ _ (sa _ _ hq)), o, pb, fun pt H7 s7 npt hpt => ⟨pt, rfl, ⟨_, SqL.of hpt⟩, ?_⟩⟩
      have s07 := sa.trans (sT.trans s7)
      have hxb : ∀ z ∈ xs, H7 z.2 = some (.lst ((selU j (hasC t zs z.1)).map V.int)) := fun z hz => s7 _ _ (sT _ _ (hxa z hz))
      have xpt : ∀ z ∈ xs, z.2 ≠ pt := fun z hz => ne_of_none (sT _ _ (hxa z hz)) npt
      have nodup : (pathOf t b).reverse.Nodup := (List.reverse_perm _).nodup_iff.mpr (path_nd o pb)
      refine for_it walk_list (fun i σ' H' => (∃ u2, σ' = [some (.ref q), some (.ref l), u2, some (.ref pd), some (.int (j : Int)), some (.str b)]) ∧ Same H H' ∧ H' pt = some (.lst ((pathOf t b).reverse.map V.str)) ∧ H' pd = some (.dK (hdK xs)) ∧ ∀ z ∈ xs, H' z.2 = some (.lst ((selU j (hasC t zs z.1) ++ if z.1 ∈ (pathOf t b).reverse.take i then [(j : Int)] else []).map V.int)))
        ⟨⟨_, rfl⟩, s07, hpt, s7 _ _ (sT _ _ hpd), fun z hz => by rw [List.take_zero, if_neg (by simp), List.append_nil]; exact hxb z hz⟩ (fun i σ' H' _ w => SqL.of w.2.2.1) ?_ ?_
      · intro i y2 σ2 Hy Hc hi ⟨⟨u2', e⟩, sb, hpt', hpd', hx'⟩ ⟨eb, ex⟩
        subst e
        subst eb
        obtain ⟨a, ha, rfl⟩ := map_of ex
        have ma : a ∈ xs.map Prod.fst := by rw [efs]; exact path_all o pb a (List.mem_reverse.mp (List.mem_of_getElem? ha))
        obtain ⟨⟨a', x⟩, mx, rfl⟩ := List.mem_map.mp ma
        have na := nat_fresh nodup ha
        have dg : DGet Hc pd (.str a') (some (.ref x)) := by
          have w := DGet.k (k := Sum.inr a') hpd'
          rw [val_hd ndf mx] at w
          exact w
        have hxx := hx' _ mx
        rw [if_neg na, List.append_nil] at hxx
        have ls := selU_len j (hasC t zs a')
        have pdx : pd ≠ x := ne_of hpd' hxx (by intro z; cases z)
        have ptx : pt ≠ x := (xpt _ mx).symm
        refine ⟨_, rfl, _, rfl, pd, _, rfl, dg, .inl ⟨rfl, _, SqL.of hxx⟩, _, rfl, x, _, _, rfl, rfl, hxx, by rw [List.length_map]; exact Nat.lt_of_le_of_lt (selU_len _ _) (by omega), ⟨_, rfl⟩, sb.put (hxs _ mx).1, by rw [upd_ne ptx]; exact hpt', by rw [upd_ne pdx]; exact hpd', fun z hz => ?_⟩
        by_cases e : z.2 = x
        · have ez : z = (a', x) := mem_snd nds hz mx e
          subst ez
          rw [upd_same, take_more ha, if_pos (List.mem_append_right _ (List.mem_singleton_self _)), List.map_append] <;> rfl
        · rw [upd_ne e, hx' z hz, take_more ha]
          have n1 : z.1 ≠ a' := fun e1 => e (by
            have h1 := val_hd ndf hz
            have h2 := val_hd ndf mx
            rw [e1, h2] at h1
            exact (V.ref.inj (Option.some.inj h1)).symm)
          by_cases m : z.1 ∈ (pathOf t b).reverse.take i
          · rw [if_pos m, if_pos (List.mem_append_left _ m)]
          · rw [if_neg m, if_neg fun h => (List.mem_append.mp h).elim m fun h => n1 (List.mem_singleton.mp h)]
      · intro σ2 Hc ⟨⟨u2', e⟩, sb, hpt', hpd', hx'⟩
        subst e
        rw [List.length_map, List.take_length] at hx'
        refine ⟨⟨_, _, _, rfl⟩, sb, hpd', fun z hz => ?_⟩
        rw [hx' z hz, selU_more]
        have eh : hasC t zs z.1 j = decide (z.1 ∈ pathOf t b) := by
          unfold hasC
          rw [hb]
        by_cases m : z.1 ∈ pathOf t b
        · rw [if_pos (List.mem_reverse.mpr m), eh, decide_eq_true m, if_pos rfl]
        · rw [if_neg fun h => m (List.mem_reverse.mp h), eh, decide_eq_false m, if_neg (by decide)]
    · intro σ' H7 ⟨⟨u2, u4, u5, e⟩, sa, hpd, hxa⟩
      subst e
      rw [List.length_map] at hxa
      exact ⟨_, rfl, k pd H7 sa ⟨npd0, xs, hpd, efs, fun z hz => ⟨(hxs z hz).1, hxa z hz⟩⟩⟩
end
end FT


/-! == of two lists of other lengths -/
namespace L2
open PySem PySem.Spec PyProof.Rows
section
variable {X : Cx}
def rEqLen : R2 := fun x y H Q => ∃ a b xs ys, x = .ref a ∧ y = .ref b ∧ H a = some (.lst xs) ∧ H b = some (.lst ys) ∧ xs.length ≠ ys.length ∧ Q (.bl false) H
end
end L2


/-! xs == [] and xs != [], whatever the items -/
namespace L2
open PySem PySem.Spec PyProof.Rows
section
variable {X : Cx}
def rNeLen : R2 := fun x y H Q => ∃ a b xs ys, x = .ref a ∧ y = .ref b ∧ H a = some (.lst xs) ∧ H b = some (.lst ys) ∧ xs.length ≠ ys.length ∧ Q (.bl true) H
theorem op_neLen (hu : X.A.units < cLine) : OpR X (compareOp .NotEq) rNeLen := by
  intro pins s σ H x y v u Q I rx ry h
  obtain ⟨a, b, xs, ys, rfl, rfl, ea, eb, ne, q⟩ := h
  obtain rfl : v = Value.ref a := rx
  obtain rfl : u = Value.ref b := ry
  obtain ⟨za, ia, na, ra, la, da⟩ := I.lstM ea
  obtain ⟨zb, ib, nb, rb, lb, db⟩ := I.lstM eb
  refine PySem.SeqAt.RcNeAt.lists_lengths (items := ia.toArray) (items2 := ib.toArray) ⟨_, da, rfl, _, rfl⟩ ⟨_, db, rfl, _, rfl⟩ ?_ hu _ _ _ _ ⟨.bl _, H, I, rfl, q⟩
  rw [List.size_toArray, List.size_toArray, bne_iff_ne]
  have h1 : xs.length = ia.length := by first | exact la | exact ra.length | exact la.symm
  have h2 : ys.length = ib.length := by first | exact lb | exact rb.length | exact lb.symm
  omega
def rEqNil : R2 := fun x y H Q => ∃ a b xs, x = .ref a ∧ y = .ref b ∧ H a = some (.lst xs) ∧ H b = some (.lst []) ∧ Q (.bl (decide (xs.length = 0))) H
def rNeNil : R2 := fun x y H Q => ∃ a b xs, x = .ref a ∧ y = .ref b ∧ H a = some (.lst xs) ∧ H b = some (.lst []) ∧ Q (.bl (!decide (xs.length = 0))) H
theorem op_neNil (hu : X.A.units + 64 < cLine) : OpR X (compareOp .NotEq) rNeNil := by
  intro pins s σ H x y v u Q I rx ry h
  obtain ⟨a, b, xs, rfl, rfl, ea, eb, q⟩ := h
  cases xs with
  | nil => exact op_neD hu pins s σ H _ _ v u Q I rx ry ⟨.list [], .list [], .lst (SqL.of ea) .nil, .lst (SqL.of eb) .nil, rfl, rfl, q⟩
  | cons x xs => exact op_neLen (by omega) pins s σ H _ _ v u Q I rx ry ⟨a, b, _, _, rfl, rfl, ea, eb, Nat.succ_ne_zero _, q⟩
end
end L2


/-! _law_are_best -/
namespace FT
open PySem L2 TL ClX LiI
def lessU (l m : List Int) : List Int := l.filter fun u => !decide (u ∈ m)
def oneB (t : List (Str × Str)) (z1 z2 : List Str) (a : Str) : Bool := decide ((lessU (hlU t z2 a) (hlU t z1 a)).length = 0) || decide ((lessU (hlU t z1 a) (hlU t z2 a)).length = 0)
def arB (t : List (Str × Str)) (z1 z2 : List Str) : Bool := (t.map Prod.fst).all (oneB t z1 z2)
def spAreB : Sp := fun vs H Q _ => ∃ (p1 p2 : Addr) (t : List (Str × Str)) (z1 z2 : List Str), vs = [.ref p1, .ref p2] ∧ HeldAt t z1 H p1 ∧ HeldAt t z2 H p2 ∧ TreeOk t ∧ z1.length ≤ 1000 ∧ z2.length ≤ 1000 ∧ ∀ H', Same H H' → Q (.bl (arB t z1 z2)) H'
theorem inV_intA (x : Int) : ∀ fs : List Int, inV (.int x) (fs.map V.int) = decide (x ∈ fs)
  | [] => by simp [inV]
  | y :: fs => by
    have ih := inV_intA x fs
    unfold inV at ih ⊢
    rw [List.map_cons, List.any_cons, ih]
    show ((y == x) || decide (x ∈ fs)) = decide (x ∈ y :: fs)
    by_cases e : y = x
    · subst e
      simp
    · have e' : x ≠ y := fun z => e z.symm
      simp [e, e']
theorem filt_more {α : Type} {l : List α} {i : Nat} {a : α} {c : α → Bool} (h : l[i]? = some a) : (l.take (i + 1)).filter c = (l.take i).filter c ++ if c a = true then [a] else [] := by
  rw [take_more h, List.filter_append]
  congr 1
  rw [List.filter_cons]
  split <;> rfl
theorem hd_at {xs : List (Str × Addr)} {i : Nat} {k : Key} {v : V} (h : (hdK xs)[i]? = some (k, v)) : ∃ a x, k = Sum.inr a ∧ v = .ref x ∧ xs[i]? = some (a, x) := by
  unfold hdK kvT at h
  rw [List.map_map, List.getElem?_map] at h
  obtain ⟨⟨a, x⟩, hp, e⟩ := Option.map_eq_some_iff.mp h
  cases e
  exact ⟨a, x, rfl, rfl, hp⟩
theorem hlU_few (t : List (Str × Str)) (zs : List Str) (a : Str) : (hlU t zs a).length ≤ zs.length := selU_len _ _
abbrev NAr : List Str := ["_law_one", "_law_other", "_law_name", "_law_gained", "_law_user"]
section
variable {P : Program} {w : World} {K : PySem.W.Frag} {mg : Str → Option Value} {base : Heap}
theorem scAr : FnScope NAr ["_law_one", "_law_other"] (defScope s__law_are_best) := ⟨rfl, rfl, rfl, by decide +kernel, rfl, by decide +kernel, by decide +kernel⟩
theorem ok_areB {f0 : Addr} {fd : FuncData} (F : Fun K "_law_are_best" "_law_are_best" s__law_are_best f0 fd) (T : Nm mg) : FnOk P w K mg base CX0 1 f0 fd ["_law_one", "_law_other"] spAreB := by
  refine F.ok scAr (fun vs H Q E h => ?_) (fun cdv A outer s H vs Q E hr h => ?_)
  · obtain ⟨p1, p2, t, z1, z2, rfl, _⟩ := h
    rfl
  · obtain ⟨p1, p2, t, z1, z2, rfl, ⟨xs, hp1, ef1, hx1⟩, ⟨ys, hp2, ef2, hx2⟩, o, f1, f2, k⟩ := h
    have hu := hu_of hr
    have nd := scAr.nd
    have big : 5000 ≤ sizeLine := by decide
    have few := o.few
    refine ⟨_, pss_cons (ps_lock (ps_for PassesOwn.never rfl (pi_keys (pv 0)) (pg_name (i := 2) nd rfl (.inr rfl))
        (pss_cons (ps_setLc (i := 3) (own := [("_law_user", 4)]) (g := gName 4) (tt := tTest (tOp (rIn K true) (tVar 4) (tDGet (tVar 0) (tVar 2)))) (te := tVar 4) rfl nd rfl rfl (sw_true rfl rfl rfl (by decide +kernel)) (pi_list (pe_dget hu (pv 1) (pv 2) (fun _ _ => rfl)))
          (blkOk_by (N := NAr) (sc := defScope s__law_are_best) (by decide +kernel)) (fun _ _ _ _ _ => pg_name (i := 4) nd rfl (Or.inl rfl)) (fun _ _ _ _ _ => pts_one (pt_cmpR op_notIn_seq (pv 4) (pe_dget hu (pv 0) (pv 2) (fun _ _ => rfl)) rfl)) (fun _ _ _ _ _ => pv 4))
        (pss_one (ps_if (PW.pt (pw_and (pt_cmpR (op_neNil hr.units) (pv 3) (pe_lst pa_nil) (nomark _)) (pw_and1 (pt_cmpR (op_neNil hr.units) (pe_lc (own := [("_law_user", 4)]) (g := gName 4) (tt := tTest (tOp (rIn K true) (tVar 4) (tDGet (tVar 1) (tVar 2)))) (te := tVar 4) rfl nd (pi_list (pe_dget hu (pv 0) (pv 2) (fun _ _ => rfl)))
          (blkOk_by (N := NAr) (sc := defScope s__law_are_best) (by decide +kernel)) (fun _ _ _ _ _ => pg_name (i := 4) nd rfl (Or.inl rfl)) (fun _ _ _ _ _ => pts_one (pt_cmpR op_notIn_seq (pv 4) (pe_dget hu (pv 1) (pv 2) (fun _ _ => rfl)) rfl)) (fun _ _ _ _ _ => pv 4)) (pe_lst pa_nil) (nomark _))))) (pss_one (ps_ret pe_bl)) pss_nil)))))
      (pss_one (ps_ret pe_bl)), ?_⟩
    obtain ⟨od0, eod⟩ : ∃ z : Unit, z = () := ⟨_, rfl⟩
    refine ⟨p1, _, hp1, trivial, fun od => ⟨_, rfl, p1, od, rfl, .inl ⟨_, upd_same, ?_⟩⟩⟩
    obtain ⟨Hl, eHl⟩ : ∃ X, X = upd H p1 (.frz od (.dK (hdK xs))) := ⟨_, rfl⟩
    have hl : Hl p1 = some (.frz od (.dK (hdK xs))) := by rw [eHl, upd_same]
    have r2 : Rd Hl p2 (.dK (hdK ys)) := by
      by_cases e : p2 = p1
      · rw [e] at hp2 ⊢
        rw [hp1] at hp2
        rw [← Option.some.inj hp2]
        exact .inr ⟨od, hl⟩
      · exact .inl (by rw [eHl, upd_ne e]; exact hp2)
    have l1 : ∀ z ∈ xs, Hl z.2 = some (.lst ((hlU t z1 z.1).map V.int)) := fun z hz => by
      rw [eHl, upd_ne (ne_of (hx1 z hz) hp1 (by intro z; cases z))]
      exact hx1 z hz
    have l2 : ∀ z ∈ ys, Hl z.2 = some (.lst ((hlU t z2 z.1).map V.int)) := fun z hz => by
      rw [eHl, upd_ne (ne_of (hx2 z hz) hp1 (by intro z; cases z))]
      exact hx2 z hz
    have un : ∀ {H' : Hp}, Same Hl H' → Same H (upd H' p1 (.dK (hdK xs))) := fun s' => unlock_same hp1 (by rw [← eHl]; exact s')
    have nd1 : (xs.map Prod.fst).Nodup := by rw [ef1]; exact o.nd
    have nd2 : (ys.map Prod.fst).Nodup := by rw [ef2]; exact o.nd
    have flat : ∀ us : List Int, (us.map V.int).all flatV = true := fun us => by
      rw [List.all_map]
      exact List.all_eq_true.mpr fun _ _ => rfl
    rw [← eHl]
    refine for_it walk_keys (fun j σ' H' => (∃ u2 u3, σ' = [some (.ref p1), some (.ref p2), u2, u3, none]) ∧ Same Hl H' ∧ ∀ a ∈ (t.map Prod.fst).take j, oneB t z1 z2 a = true) ⟨⟨_, _, rfl⟩, Same.refl, fun a ha => (by cases ha)⟩ (fun j σ' H' _ z => z.2.1 _ _ hl) ?_ ?_
    · intro j y σ' Ha Hb hj ⟨⟨u2, u3, e⟩, sa, done⟩ ⟨eb, kk, vv, hk, ey⟩
      subst e
      subst eb
      subst ey
      obtain ⟨a, x, rfl, rfl, hp⟩ := hd_at hk
      rw [show kV (Sum.inr a) = V.str a from rfl]
      have ha : (t.map Prod.fst)[j]? = some a := by rw [← ef1, List.getElem?_map, hp] <;> rfl
      obtain ⟨⟨a', y⟩, hy, e'⟩ : ∃ z, ys[j]? = some z ∧ z.1 = a := by
        rw [← ef2, List.getElem?_map] at ha
        obtain ⟨z, hz, e⟩ := Option.map_eq_some_iff.mp ha
        exact ⟨z, hz, e⟩
      have e' : a' = a := e'
      subst e'
      have mx := List.mem_of_getElem? hp
      have my := List.mem_of_getElem? hy
      have dg1 : ∀ {Hx : Hp}, Same Hb Hx → DGet Hx p1 (.str a') (some (.ref x)) := fun s' => .inl ⟨hdK xs, Sum.inr a', .inr ⟨od, s' _ _ (sa _ _ hl)⟩, rfl, (val_hd nd1 mx).symm⟩
      have dg2 : ∀ {Hx : Hp}, Same Hb Hx → DGet Hx p2 (.str a') (some (.ref y)) := fun s' => .inl ⟨hdK ys, Sum.inr a', r2.imp (fun z => s' _ _ (sa _ _ z)) (fun ⟨o', z⟩ => ⟨o', s' _ _ (sa _ _ z)⟩), rfl, (val_hd nd2 my).symm⟩
      have hx : Hb x = some (.lst ((hlU t z1 a').map V.int)) := sa _ _ (l1 _ mx)
      have hyy : Hb y = some (.lst ((hlU t z2 a').map V.int)) := sa _ _ (l2 _ my)
      have q1 := hlU_few t z1 a'
      have q2 := hlU_few t z2 a'
      refine ⟨_, rfl, _, rfl, p2, _, rfl, dg2 Same.refl, y, rfl, ⟨_, SqL.of hyy⟩, fun D nD => ?_⟩
      refine lc_it walk_list (fun i H' => Same Hb H' ∧ H' D = some (.lst ((lessU ((hlU t z2 a').take i) (hlU t z1 a')).map V.int))) ⟨same_new nD, upd_same⟩ (fun i H' _ z => SqL.of (z.1 _ _ hyy)) ?_ ?_
      · intro i yv Hx Hy hi ⟨c1, c2⟩ ⟨eb, ex⟩
        subst eb
        obtain ⟨u, hu', rfl⟩ := map_of ex
        have more := filt_more (c := fun u => !decide (u ∈ hlU t z1 a')) hu'
        have lf := List.length_filter_le (fun u => !decide (u ∈ hlU t z1 a')) ((hlU t z2 a').take i)
        rw [List.length_take] at lf
        refine ⟨rfl, ?_⟩
        refine ⟨_, rfl, _, rfl, _, rfl, p1, _, rfl, dg1 c1, x, _, rfl, .inl (SqL.of (c1 _ _ hx)), rfl, flat _, (!decide (u ∈ hlU t z1 a')), congrArg V.bl (by show (!inV _ _) = _; rw [inV_intA]), ?_⟩
        refine ite2 (fun yes => ?_) (fun no => ?_)
        · rw [if_pos yes] at more
          refine ⟨_, rfl, _, c2, by rw [List.length_map]; unfold lessU; omega, c1.put nD, ?_⟩
          rw [upd_same]
          unfold lessU
          rw [more, List.map_append] <;> rfl
        · rw [if_neg no, List.append_nil] at more
          refine ⟨c1, ?_⟩
          unfold lessU at c2 ⊢
          rw [more]
          exact c2
      intro H3 ⟨c1, c2⟩
      rw [List.length_map, List.take_length] at c2
      refine ⟨_, rfl, by show 0 ≤ sizeLine; omega, fun e1 ne1 => ?_⟩
      have d1 := same_new (o := .lst ([] : List V)) ne1
      refine ⟨D, e1, _, rfl, rfl, d1 _ _ c2, upd_same, _, rfl, ?_⟩
      rw [List.length_map]
      have s4 := c1.trans d1
      by_cases g0 : (lessU (hlU t z2 a') (hlU t z1 a')).length = 0
      · rw [decide_eq_true g0]
        refine iteF ⟨⟨_, _, rfl⟩, sa.trans s4, fun b hb => ?_⟩
        rw [take_more ha] at hb
        rcases List.mem_append.mp hb with h | h
        · exact done b h
        · rw [List.mem_singleton.mp h]
          unfold oneB
          rw [decide_eq_true g0, Bool.true_or]
      rw [decide_eq_false g0]
      refine iteT ?_
      refine ⟨_, rfl, _, rfl, p1, _, rfl, dg1 s4, x, rfl, ⟨_, SqL.of (s4 _ _ hx)⟩, fun G nG => ?_⟩
      obtain ⟨H4, eH4⟩ : ∃ X, X = upd H3 e1 (.lst ([] : List V)) := ⟨_, rfl⟩
      rw [← eH4] at s4 nG ⊢
      clear eH4 d1
      refine lc_it walk_list (fun i H' => Same H4 H' ∧ H' G = some (.lst ((lessU ((hlU t z1 a').take i) (hlU t z2 a')).map V.int))) ⟨same_new nG, upd_same⟩ (fun i H' _ z => SqL.of (z.1 _ _ (s4 _ _ hx))) ?_ ?_
      · intro i yv Hx Hy hi ⟨c3, c4⟩ ⟨eb, ex⟩
        subst eb
        obtain ⟨u, hu', rfl⟩ := map_of ex
        have more := filt_more (c := fun u => !decide (u ∈ hlU t z2 a')) hu'
        have lf := List.length_filter_le (fun u => !decide (u ∈ hlU t z2 a')) ((hlU t z1 a').take i)
        rw [List.length_take] at lf
        refine ⟨rfl, ?_⟩
        refine ⟨_, rfl, _, rfl, _, rfl, p2, _, rfl, dg2 (s4.trans c3), y, _, rfl, .inl (SqL.of ((s4.trans c3) _ _ hyy)), rfl, flat _, (!decide (u ∈ hlU t z2 a')), congrArg V.bl (by show (!inV _ _) = _; rw [inV_intA]), ?_⟩
        refine ite2 (fun yes => ?_) (fun no => ?_)
        · rw [if_pos yes] at more
          refine ⟨_, rfl, _, c4, by rw [List.length_map]; unfold lessU; omega, c3.put nG, ?_⟩
          rw [upd_same]
          unfold lessU
          rw [more, List.map_append] <;> rfl
        · rw [if_neg no, List.append_nil] at more
          refine ⟨c3, ?_⟩
          unfold lessU at c4 ⊢
          rw [more]
          exact c4
      intro H5 ⟨c3, c4⟩
      rw [List.length_map, List.take_length] at c4
      refine ⟨by show 0 ≤ sizeLine; omega, fun e2 ne2 => ?_⟩
      have d2 := same_new (o := .lst ([] : List V)) ne2
      refine ⟨G, e2, _, rfl, rfl, d2 _ _ c4, upd_same, _, rfl, ?_⟩
      rw [List.length_map]
      have s6 := sa.trans (s4.trans (c3.trans d2))
      by_cases g1 : (lessU (hlU t z1 a') (hlU t z2 a')).length = 0
      · rw [decide_eq_true g1]
        refine iteF ⟨⟨_, _, rfl⟩, s6, fun b hb => ?_⟩
        rw [take_more ha] at hb
        rcases List.mem_append.mp hb with h | h
        · exact done b h
        · rw [List.mem_singleton.mp h]
          unfold oneB
          rw [decide_eq_true g1, Bool.or_true]
      · rw [decide_eq_false g1]
        refine iteT ?_
        have bad : oneB t z1 z2 a' = false := by
          unfold oneB
          rw [decide_eq_false g0, decide_eq_false g1] <;> rfl
        have ab : arB t z1 z2 = false := by
          cases e : arB t z1 z2 with
          | false => rfl
          | true =>
            unfold arB at e
            have := List.all_eq_true.mp e a' (List.mem_of_getElem? ha)
            rw [bad] at this
            cases this
        rw [ab] at k
        exact ⟨s6 _ _ hl, k _ (un s6)⟩
    · intro σ' H3 ⟨⟨u2, u3, e⟩, sa, done⟩
      subst e
      refine ⟨sa _ _ hl, ?_⟩
      have ab : arB t z1 z2 = true := by
        unfold arB
        refine List.all_eq_true.mpr fun a ha => done a ?_
        have ll := congrArg List.length ef1
        rw [List.length_map, List.length_map] at ll
        have l3 : (hdK xs).length = xs.length := by unfold hdK kvT; rw [List.length_map, List.length_map]
        rw [l3, ll, List.take_of_length_le (by rw [List.length_map]; exact Nat.le_refl _)]
        exact ha
      rw [ab] at k
      exact k _ (un sa)
end
end FT


/-! users move along edges, the order of the lists left open (plain maths) -/
namespace FT
open PySem L2 TL ClX
def MovedP (ts : List (Str × Str)) (c : Str → Int) (L L' : Str → List Int) : Prop := ∃ G : Str → Str → List Int, (∀ p, Pl ts p → ∀ o ∈ adj ts p, (G p o).length = lv ts c p o) ∧ ∀ p, Pl ts p → (L p ++ ins ts G p).Perm (L' p ++ outs ts G p)
theorem Moved.p {ts : List (Str × Str)} {c : Str → Int} {L L' : Str → List Int} (m : Moved ts c L L') : MovedP ts c L L' := by
  obtain ⟨G, g1, g2⟩ := m
  exact ⟨G, g1, fun p hp => by rw [g2 p hp]⟩
end FT


/-! edges of a change, in an order (plain maths) -/
namespace FT
open PySem L2 TL ClX LiI
/-- each place behind all from which users move to it -/
def Topo (ts : List (Str × Str)) (c : Str → Int) (ds : List Str) : Prop := ∀ (i : Nat) (p : Str), ds[i]? = some p → ∀ q, 0 < lv ts c q p → q ∈ ds.take i
def spEdgeOrder (CF : Addr) : Sp := fun vs H Q _ => ∃ (x q : Addr) (ts : List (Str × Str)) (c : Str → Int), vs = [.ref x, .ref q] ∧ FAt CF H x ts ∧ TreeOk ts ∧ H q = some (.dK (tblI (ts.map Prod.fst) c)) ∧
  ∀ (p : Addr) (ds : List Str) (H' : Hp), Same H H' → H p = none → ds.Perm (pls ts) → Topo ts c ds → H' p = some (.lst (ds.map V.str)) → Q (.ref p) H'
/-- goals of the edges from places that are left -/
def waitL (es : List (Str × Str × Int)) (rest : List Str) : List Str := (es.filter fun e => decide (e.1 ∈ rest)).map fun e => e.2.1
end FT


/-! feasible sizes, dealt out name by name (plain maths) -/
namespace FT
open PySem L2 TL ClX
/-! ### sizes that are drawn -/
theorem szOf_tbl {l : List Str} {sz : Str → Int} {a : Str} (h : a ∈ l) : szOf (tblI l sz) a = sz a := by
  unfold szOf
  rw [tblI_val h]
theorem kids_sub {t : List (Str × Str)} {p a : Str} (h : a ∈ kids t p) : a ∈ t.map Prod.fst := by
  obtain ⟨q, hq, rfl⟩ := List.mem_map.mp h
  exact List.mem_map.mpr ⟨q, (List.mem_filter.mp hq).1, rfl⟩
theorem resid_congr {t : List (Str × Str)} {n : Int} {sz sz' : Str → Int} {p : Str} (h : ∀ a ∈ t.map Prod.fst, sz a = sz' a) (hp : p = "" ∨ sz p = sz' p) : resid t n sz p = resid t n sz' p := by
  unfold resid
  rw [List.map_congr_left fun a ha => h a (kids_sub ha)]
  by_cases e : p = ""
  · rw [if_pos e, if_pos e]
  · rw [if_neg e, if_neg e, hp.resolve_left e]
/-- feasible sizes for n users -/
structure Fea (t : List (Str × Str)) (n : Int) (sz : Str → Int) : Prop where
  nn : ∀ a ∈ t.map Prod.fst, 0 ≤ sz a
  res : ∀ p ∈ (("" : Str) :: t.map Prod.fst), 0 ≤ resid t n sz p
theorem Fea.perm {t u : List (Str × Str)} {n : Int} {sz : Str → Int} (p : t.Perm u) (f : Fea t n sz) : Fea u n sz :=
  ⟨fun a ha => f.nn a ((p.map _).mem_iff.mpr ha), fun q hq => by rw [← resid_perm p]; exact f.res q ((List.mem_cons.mp hq).elim (fun e => e ▸ List.mem_cons_self ..) fun m => List.mem_cons_of_mem _ ((p.map Prod.fst).mem_iff.mpr m))⟩
theorem Fea.ok {CS : Addr} {ts : List (Str × Str)} {n : Int} {sz : Str → Int} {l : List Str} (f : Fea ts n sz) (p : l.Perm (ts.map Prod.fst)) : feE CS ts n (some (tblI l sz)) = none := by
  have e1 : ∀ a ∈ ts.map Prod.fst, valV (tblI l sz) (Sum.inr a) = some (.int (sz a)) := fun a ha => tblI_val (p.mem_iff.mpr ha)
  have ll := p.length_eq
  rw [List.length_map] at ll
  unfold feE
  rw [feas_some, if_neg (by rw [tblI_len]; exact fun z => z ll), if_neg]
  · have e2 : (ts.map Prod.fst).find? (badKey (tblI l sz)) = none := List.find?_eq_none.mpr fun a ha z => by
      unfold badKey at z
      rw [e1 a ha] at z
      have z' : (!decide ((0 : Int) ≤ sz a)) = true := z
      rw [decide_eq_true (f.nn a ha)] at z'
      cases z'
    rw [e2]
    have e3 : ((("" : Str) :: ts.map Prod.fst).find? fun p => decide (resid ts n (szOf (tblI l sz)) p < 0)) = none := List.find?_eq_none.mpr fun q hq z => by
      have z' := of_decide_eq_true z
      rw [resid_congr (sz' := sz) (fun a ha => szOf_tbl (p.mem_iff.mpr ha)) ((List.mem_cons.mp hq).imp id fun h => szOf_tbl (p.mem_iff.mpr h))] at z'
      have := f.res q hq
      omega
    show Option.map _ (Option.map V.str (List.find? _ _)) = none
    rw [e3] <;> rfl
  · intro z
    have : ((ts.map Prod.fst).all fun a => (valV (tblI l sz) (Sum.inr a)).isSome) = true := List.all_eq_true.mpr fun a ha => by rw [e1 a ha] <;> rfl
    rw [this] at z
    cases z
/-- what has been dealt out -/
structure Dealt (t : List (Str × Str)) (n : Int) (l : List Str) (t' : List (Str × Str)) (sz : Str → Int) : Prop where
  keys : t'.map Prod.fst = l
  sub : ∀ p ∈ t', p ∈ t
  par_ : ∀ p ∈ t', p.2 = "" ∨ p.2 ∈ l
  nn : ∀ a ∈ l, 0 ≤ sz a
  res : ∀ p ∈ (("" : Str) :: l), 0 ≤ resid t' n sz p
  top_ : ∀ p ∈ (("" : Str) :: l), resid t' n sz p ≤ n
theorem Dealt.nil {t : List (Str × Str)} {n : Int} {sz : Str → Int} (n0 : 0 ≤ n) : Dealt t n [] [] sz := by
  refine ⟨rfl, fun p h => (by cases h), fun p h => (by cases h), fun a h => (by cases h), fun p h => ?_, fun p h => ?_⟩
  · rw [List.mem_singleton.mp h]
    show 0 ≤ n - 0
    omega
  · rw [List.mem_singleton.mp h]
    show n - 0 ≤ n
    omega
theorem Dealt.step {t t' : List (Str × Str)} {n : Int} {l : List Str} {sz : Str → Int} (d : Dealt t n l t' sz) {a pa : Str} {z : Int} (na : a ∉ l) (ne : a ≠ "") (mt : (a, pa) ∈ t) (mp : pa = "" ∨ pa ∈ l) (z0 : 0 ≤ z) (z1 : z ≤ resid t' n sz pa) :
    Dealt t n (l ++ [a]) (t' ++ [(a, pa)]) (fun x => if x = a then z else sz x) ∧
    (∀ p ∈ (("" : Str) :: (l ++ [a])), resid (t' ++ [(a, pa)]) n (fun x => if x = a then z else sz x) p = if p = pa then resid t' n sz pa - z else if p = a then z else resid t' n sz p) := by
  have kid : kids t' a = [] := by
    unfold kids
    rw [List.filter_eq_nil_iff.mpr fun q hq z => ?_] <;> try rfl
    have e := of_decide_eq_true z
    rcases d.par_ q hq with h | h
    · exact ne (e.symm.trans h)
    · exact na (by rw [← e]; exact h)
  have pne : pa ≠ a := fun e => mp.elim (fun h => ne (e.symm.trans h)) fun h => na (by rw [← e]; exact h)
  have old : ∀ p, p ≠ a → resid t' n (fun x => if x = a then z else sz x) p = resid t' n sz p := fun p hp =>
    resid_congr (fun x hx => if_neg fun e => na (by rw [← e, ← d.keys]; exact hx)) (.inr (if_neg hp))
  have eq : ∀ p ∈ (("" : Str) :: (l ++ [a])), resid (t' ++ [(a, pa)]) n (fun x => if x = a then z else sz x) p = if p = pa then resid t' n sz pa - z else if p = a then z else resid t' n sz p := fun p _ => by
    rw [resid_snoc]
    by_cases h1 : p = pa
    · rw [if_pos h1.symm, if_pos h1, old p (by rw [h1]; exact pne), h1]
      show _ - (if a = a then z else sz a) = _
      rw [if_pos rfl]
    · rw [if_neg (fun e => h1 e.symm), if_neg h1]
      by_cases h2 : p = a
      · rw [if_pos h2, h2]
        unfold resid
        rw [kid, if_neg ne]
        show (if a = a then z else sz a) - 0 = z
        rw [if_pos rfl]
        omega
      · rw [if_neg h2, old p h2]
  refine ⟨⟨by rw [List.map_append, d.keys] <;> rfl, fun p hp => ?_, fun p hp => ?_, fun x hx => ?_, fun p hp => ?_, fun p hp => ?_⟩, eq⟩
  · rcases List.mem_append.mp hp with h | h
    · exact d.sub p h
    · rw [List.mem_singleton.mp h]
      exact mt
  · rcases List.mem_append.mp hp with h | h
    · exact (d.par_ p h).imp id fun m => List.mem_append_left _ m
    · rw [List.mem_singleton.mp h]
      exact mp.imp id fun m => List.mem_append_left _ m
  · show 0 ≤ if x = a then z else sz x
    by_cases e : x = a
    · rw [if_pos e]
      exact z0
    · rw [if_neg e]
      exact d.nn x ((List.mem_append.mp hx).resolve_right fun m => e (List.mem_singleton.mp m))
  · rw [eq p hp]
    by_cases h1 : p = pa
    · rw [if_pos h1]
      omega
    · rw [if_neg h1]
      by_cases h2 : p = a
      · rw [if_pos h2]
        exact z0
      · rw [if_neg h2]
        refine d.res p ((List.mem_cons.mp hp).elim (fun e => e ▸ List.mem_cons_self ..) fun m => List.mem_cons_of_mem _ ?_)
        exact (List.mem_append.mp m).resolve_right fun m => h2 (List.mem_singleton.mp m)
  · rw [eq p hp]
    have tp := d.top_ pa (List.mem_cons.mpr mp)
    by_cases h1 : p = pa
    · rw [if_pos h1]
      omega
    · rw [if_neg h1]
      by_cases h2 : p = a
      · rw [if_pos h2]
        omega
      · rw [if_neg h2]
        refine d.top_ p ((List.mem_cons.mp hp).elim (fun e => e ▸ List.mem_cons_self ..) fun m => List.mem_cons_of_mem _ ?_)
        exact (List.mem_append.mp m).resolve_right fun m => h2 (List.mem_singleton.mp m)
end FT


/-! users moved edge by edge (plain maths) -/
namespace FT
open PySem L2 TL ClX LiI
/-- the last ones, the rest -/
def lastN (a : Int) (l : List Int) : List Int := l.drop (l.length - a.toNat)
def butN (a : Int) (l : List Int) : List Int := l.take (l.length - a.toNat)
def mvE (L : Str → List Int) (e : Str × Str × Int) : Str → List Int := fun p => if p = e.1 then butN e.2.2 (L e.1) else if p = e.2.1 then L e.2.1 ++ lastN e.2.2 (L e.1) else L p
def mvP (es : List (Str × Str × Int)) (L : Str → List Int) (p : Str) : Str → List Int := (es.filter fun e => decide (e.1 = p)).foldl mvE L
def mvA (es : List (Str × Str × Int)) (L : Str → List Int) (ds : List Str) : Str → List Int := ds.foldl (mvP es) L
structure Adv (φ : List Int → Int) : Prop where
  nil : φ [] = 0
  app : ∀ a b, φ (a ++ b) = φ a + φ b
def Bal (ts : List (Str × Str)) (L0 L : Str → List Int) (G : Str → Str → List Int) : Prop := ∀ p, Pl ts p → ∀ φ, Adv φ → φ (L0 p) + ((adj ts p).map fun x => φ (G x p)).sum = φ (L p) + ((adj ts p).map fun x => φ (G p x)).sum
/-- after some places: groups out of them are whole, out of others none -/
structure Gone (ts : List (Str × Str)) (c : Str → Int) (L0 L : Str → List Int) (D : List Str) : Prop where
  ex : ∃ G : Str → Str → List Int, Bal ts L0 L G ∧ (∀ p x, p ∉ D → G p x = []) ∧ ∀ p ∈ D, ∀ x ∈ adj ts p, (G p x).length = lv ts c p x
end FT


/-! best -/
namespace FT
open PySem L2 TL ClX LiI
theorem EdG.imp {H H' : Hp} (m : ∀ r xs, H r = some (.tup xs) → H' r = some (.tup xs)) : ∀ {rs : List Addr} {es : List (Str × Str × Int)}, EdG H rs es → EdG H' rs es
  | _, _, .nil => .nil
  | _, _, .cons h t => .cons (m _ _ h) (EdG.imp m t)
/-- a change of places by moves along edges -/
def BestOf (ts : List (Str × Str)) (c : Str → Int) (zs zs' : List Str) : Prop := ∃ L' : Str → List Int, MovedP ts c (atU zs) L' ∧ Val ts zs.length L' ∧ zs' = (usr zs.length).map (plOf ts L')
def spBest (K : PySem.W.Frag) (CF CA CS : Addr) : Sp := fun vs H Q E => ∃ (y x : Addr) (sv : V) (ts : List (Str × Str)) (zs : List Str) (so : Option (List (Key × V))), vs = [.ref y, sv] ∧ AAt CA H y x zs ∧ FAt CF H x ts ∧ TreeOk ts ∧ (∀ z ∈ zs, Pl ts z) ∧ 1 ≤ zs.length ∧ zs.length ≤ 60 ∧ SzV K H sv so ∧
  match feE CS ts (zs.length : Int) so with
  | none => ∀ (y' : Addr) (H' : Hp) (zs' : List Str), Same H H' → H y' = none → AAt CA H' y' x zs' → BestOf ts (fun a => szOf (kvsOf so) a - szZ ts zs a) zs zs' → Q (.ref y') H'
  | some e => Out H E e
theorem atU_val {ts : List (Str × Str)} (o : TreeOk ts) {zs : List Str} (pl : ∀ z ∈ zs, Pl ts z) : Val ts zs.length (atU zs) := by
  unfold Val
  have nd : ((pls ts).flatMap (atU zs)).Nodup := by
    refine List.nodup_iff_pairwise_ne.mpr (List.pairwise_flatMap.mpr ⟨fun p _ => ?_, ?_⟩)
    · unfold atU selU
      refine List.pairwise_map.mpr (((List.nodup_iff_pairwise_ne.mp List.nodup_range).filter _).imp fun h e => h ?_)
      omega
    · refine (List.nodup_iff_pairwise_ne.mp (pls_nd o)).imp fun {p q} ne u hu v hv e => ?_
      obtain ⟨i, e1, i1, i2⟩ := mem_selU.mp hu
      obtain ⟨j, e2, j1, j2⟩ := mem_selU.mp hv
      have ij : i = j := by omega
      subst ij
      exact ne (Option.some.inj ((of_decide_eq_true i2).symm.trans (of_decide_eq_true j2)))
  refine (List.perm_ext_iff_of_nodup nd (usr_nd _)).mpr fun u => ?_
  rw [List.mem_flatMap, mem_usr]
  constructor
  · rintro ⟨p, hp, hu⟩
    obtain ⟨i, rfl, i1, _⟩ := mem_selU.mp hu
    omega
  · rintro ⟨h0, h1⟩
    have lt : u.toNat < zs.length := by omega
    refine ⟨zs[u.toNat], mem_pls.mpr (pl _ (List.getElem_mem lt)), mem_selU.mpr ⟨u.toNat, by omega, lt, ?_⟩⟩
    exact decide_eq_true (List.getElem?_eq_getElem lt)
/-- lists by place as counts of users with a flag -/
theorem atU_lsz {ts : List (Str × Str)} (o : TreeOk ts) {zs : List Str} (pl : ∀ z ∈ zs, Pl ts z) {a : Str} (ha : a ∈ ts.map Prod.fst) : lsz ts (atU zs) a = szZ ts zs a := by
  rw [lsz_inP]
  have key : ∀ j, j ≤ zs.length → ((ts.map Prod.fst).map fun b => inP ts a b * ((selU j (atC zs b)).length : Int)).sum = szZ ts (zs.take j) a := by
    intro j
    induction j with
    | zero =>
      intro _
      rw [List.take_zero, sum_map_zero fun b _ => by rw [selU_zero]; exact Int.mul_zero _] <;> rfl
    | succ j ih =>
      intro hj
      have e : zs[j]? = some zs[j] := List.getElem?_eq_getElem (by omega)
      obtain ⟨z, ez⟩ : ∃ z, z = zs[j] := ⟨_, rfl⟩
      rw [← ez] at e
      rw [szZ_more e, ← ih (by omega)]
      have e1 : ∀ b ∈ ts.map Prod.fst, inP ts a b * ((selU (j + 1) (atC zs b)).length : Int) = inP ts a b * ((selU j (atC zs b)).length : Int) + if b = z then inP ts a b else 0 := fun b _ => by
        rw [selU_more, List.length_append, Int.natCast_add, Int.mul_add]
        congr 1
        have ec : atC zs b j = decide (z = b) := by
          unfold atC
          rw [e]
          by_cases w : z = b
          · rw [decide_eq_true w, decide_eq_true (by rw [w])]
          · rw [decide_eq_false w, decide_eq_false fun h => w (Option.some.inj h)]
        by_cases w : b = z
        · rw [if_pos w, ec, decide_eq_true w.symm, if_pos rfl]
          show inP ts a b * 1 = _
          rw [Int.mul_one]
        · rw [if_neg w, ec, decide_eq_false (fun h => w h.symm), if_neg (by decide)]
          exact Int.mul_zero _
      rw [List.map_congr_left e1, sum_map_add, sum_one (f := fun b => inP ts a b) o.nd]
      congr 1
      by_cases m : z ∈ ts.map Prod.fst
      · rw [if_pos m] <;> rfl
      · have z0 : z = "" := (pl z (List.mem_of_getElem? e)).resolve_right m
        rw [if_neg m, z0, path_root, if_neg (by simp)]
  have z := key zs.length (Nat.le_refl _)
  rw [List.take_length] at z
  exact z
end FT


/-! the sizes of a list of places are feasible (plain maths) -/
namespace FT
open PySem L2 TL ClX
theorem selU_count {zs : List Str} {p : Str} : ∀ k : Nat, k ≤ zs.length → (selU k (atC zs p)).length = (zs.take k).count p
  | 0, _ => by rw [selU_zero, List.take_zero] <;> rfl
  | k + 1, h => by
    have hk : zs[k]? = some zs[k] := List.getElem?_eq_getElem (by omega)
    obtain ⟨z, ez⟩ : ∃ z, z = zs[k] := ⟨_, rfl⟩
    rw [← ez] at hk
    rw [selU_more, List.length_append, selU_count k (by omega), take_more hk, List.count_append]
    congr 1
    unfold atC
    rw [hk]
    by_cases e : z = p
    · rw [e, if_pos (by rw [decide_eq_true_eq])]
      simp
    · rw [if_neg (fun w => e (Option.some.inj (of_decide_eq_true w)))]
      simp [e]
theorem atU_count (zs : List Str) (p : Str) : (atU zs p).length = zs.count p := by
  unfold atU
  rw [selU_count _ (Nat.le_refl _), List.take_length]
section
variable {ts : List (Str × Str)} {zs : List Str} {s : Str → Int}
theorem cnt_resid (o : TreeOk ts) (pl : ∀ z ∈ zs, Pl ts z) (hs : ∀ a ∈ ts.map Prod.fst, szZ ts zs a = s a) {p : Str} (hp : Pl ts p) : (zs.count p : Int) = resid ts (zs.length : Int) s p := by
  have h := lsz_lens o (val_len (atU_val o pl)) p hp
  rw [atU_count] at h
  rw [h]
  have e : ∀ a ∈ ts.map Prod.fst, lsz ts (atU zs) a = s a := fun a ha => by rw [atU_lsz o pl ha, hs a ha]
  exact resid_congr e (hp.imp id fun m => e p m)
end
theorem fea_szZ {ts : List (Str × Str)} {zs : List Str} (o : TreeOk ts) (pl : ∀ z ∈ zs, Pl ts z) : Fea ts (zs.length : Int) (szZ ts zs) :=
  ⟨fun a _ => Int.natCast_nonneg _, fun p hp => by rw [← cnt_resid o pl (fun _ _ => rfl) (mem_pls.mp hp)]; exact Int.natCast_nonneg _⟩
end FT


/-! walked: the flags below a place, each ahead of those below it, with their depths -/
namespace FT
open PySem L2 TL ClX LiI
def walkN (ts : List (Str × Str)) : Nat → Str → Int → List (Str × Int)
  | 0, _, _ => []
  | m + 1, a, d => ts.flatMap fun z => if z.2 = a then (z.1, d) :: walkN ts m z.1 (d + 1) else []
def RowW (H : Hp) (r : Addr) (z : Str × Int) : Prop := H r = some (.tup [.str z.1, .int z.2])
theorem RowW.same {H H' : Hp} {rs : List Addr} {zs : List (Str × Int)} (s : Same H H') (h : Paired (RowW H) rs zs) : Paired (RowW H') rs zs := pair_impW (fun _ _ e => s _ _ e) h
def spWalked (m : Nat) : Sp := fun vs H Q _ => ∃ (q : Addr) (ts : List (Str × Str)) (od : Obj) (a : Str) (d : Int), vs = [.ref q, .str a, .int d] ∧ H q = some (.frz od (.dK (prs ts))) ∧ TreeOk ts ∧ Pl ts a ∧ (pathOf ts a).length + m = ts.length + 1 ∧ (walkN ts m a d).length ≤ 1000 ∧
  ∀ (p : Addr) (rs : List Addr) (H' : Hp), Same H H' → H p = none → H' p = some (.lst (rs.map V.ref)) → Paired (RowW H') rs (walkN ts m a d) → (∀ r ∈ rs, H r = none) → Q (.ref p) H'
section
variable {P : Program} {w : World} {K : PySem.W.Frag} {mg : Str → Option Value} {base : Heap}
abbrev NWd : List Str := ["above", "place", "depth", "found", "name"]
theorem scWd : FnScope NWd ["above", "place", "depth"] (defScope s_walked) := ⟨rfl, rfl, rfl, by decide +kernel, rfl, by decide +kernel, by decide +kernel⟩
theorem ok_walkedS {f : Addr} {fd : FuncData} (F : Fun K "walked" "walked" s_walked f fd) (m : Nat) (D : Dn P w K mg base CX0 (m + 1) "walked" ["above", "place", "depth"] (spWalked m) f fd) : FnOk P w K mg base CX0 (m + 2) f fd ["above", "place", "depth"] (spWalked (m + 1)) := by
  refine F.ok scWd (fun vs H Q E h => ?_) (fun cdv A outer s H vs Q E hr h => ?_)
  · obtain ⟨q, ts, od, a, d, rfl, _⟩ := h
    rfl
  · obtain ⟨q, ts, od, a, d, rfl, hq, o, pl, hm, few, k⟩ := h
    have hu := hu_of hr
    have nd := scWd.nd
    have big : 4000 ≤ sizeLine := by decide
    refine ⟨_, pss_cons (ps_set (i := 3) nd rfl (.inl rfl) (pe_lst pa_nil))
      (pss_cons (ps_for PassesOwn.never rfl (pi_keys (pv 0)) (pg_name (i := 4) nd rfl (.inl rfl))
        (pss_one (ps_if (pt_cmpR op_eq (pe_dget hu (pv 0) (pv 4) (fun _ _ => rfl)) (pv 1) (nomark _))
          (pss_cons (ps_expr (pe_bm PySem.F.plainAttrs_list PySem.F.slot_list_append PySem.F.type_list_append mt_append (pv 3) (pa_cons (pe_tup (pa_cons (pv 4) (pa_cons (pv 2) pa_nil))) pa_nil)))
          (pss_one (ps_expr (pe_bm PySem.F.plainAttrs_list PySem.F.slot_list_extend PySem.F.type_list_extend mt_extend (pv 3) (pa_cons (pe_call D.ok hr rfl D.mgn D.kp D.bn .nil pass0 (pa_cons (pv 0) (pa_cons (pv 4) (pa_cons (pe_op op_add (pv 2) pe_int) pa_nil)))) pa_nil))))) pss_nil)))
      (pss_one (ps_ret (pv 3)))), ?_⟩
    refine ⟨by show 0 ≤ sizeLine; omega, fun l nl => ?_⟩
    have tl := same_new (o := .lst ([] : List V)) nl
    obtain ⟨H1, e1⟩ : ∃ X, X = upd H l (.lst ([] : List V)) := ⟨_, rfl⟩
    rw [← e1] at tl ⊢
    have hl1 : H1 l = some (.lst (([] : List Addr).map V.ref)) := by rw [e1, upd_same] <;> rfl
    have hq1 := tl _ _ hq
    obtain ⟨G, eG⟩ : ∃ G : Str × Str → List (Str × Int), G = fun z => if z.2 = a then (z.1, d) :: walkN ts m z.1 (d + 1) else [] := ⟨_, rfl⟩
    have eW : walkN ts (m + 1) a d = ts.flatMap G := by rw [eG] <;> rfl
    rw [eW] at few k
    refine ⟨_, rfl, q, od, rfl, .inl ⟨_, hq1, ?_⟩⟩
    refine for_it walk_keys (fun i σ' H' => (∃ u4, σ' = [some (.ref q), some (.str a), some (.int d), some (.ref l), u4]) ∧ Same H H' ∧ ∃ rs : List Addr, H' l = some (.lst (rs.map V.ref)) ∧ Paired (RowW H') rs ((ts.take i).flatMap G) ∧ ∀ r ∈ rs, H r = none)
      ⟨⟨_, rfl⟩, tl, [], hl1, .nil, fun r hr => by cases hr⟩ (fun i σ' H' _ z => z.2.1 _ _ hq) ?_ ?_
    · intro i yv σ' Hz Ha hi ⟨⟨u4, eσ⟩, sa, rs, hl, pr, fr⟩ ⟨eb, kk, vv, hk, ey⟩
      subst eσ
      subst eb
      subst ey
      obtain ⟨n, pn, rfl, rfl, hb⟩ := keys_walkW hk
      rw [show kV (Sum.inr n) = V.str n from rfl]
      have mn : n ∈ ts.map Prod.fst := List.mem_map.mpr ⟨_, List.mem_of_getElem? hb, rfl⟩
      have hp := par_of o.nd (List.mem_of_getElem? hb)
      have st := path_step o mn hp
      have ln := path_len ts n
      have tm : (ts.take (i + 1)).flatMap G = (ts.take i).flatMap G ++ G (n, pn) := by
        rw [take_more hb, List.flatMap_append, List.flatMap_cons, List.flatMap_nil, List.append_nil]
      have tot : ((ts.take i).flatMap G).length + (G (n, pn)).length ≤ 1000 := by
        have e : (ts.flatMap G).length = ((ts.take (i + 1)).flatMap G).length + ((ts.drop (i + 1)).flatMap G).length := by
          rw [← List.length_append, ← List.flatMap_append, List.take_append_drop]
        rw [tm, List.length_append] at e
        omega
      have lr := pair_lenZ pr
      have hqa := sa _ _ hq
      refine ⟨_, rfl, _, rfl, q, _, rfl, dget_prs (.inr ⟨od, hqa⟩) hp, _, rfl, rfl, _, rfl, ?_⟩
      refine ite2 (fun yes => ?_) (fun no => ?_)
      · have e : pn = a := V.str.inj (of_decide_eq_true yes)
        subst e
        have eGp : G (n, pn) = (n, d) :: walkN ts m n (d + 1) := by rw [eG]; exact if_pos rfl
        rw [eGp, List.length_cons] at tot
        rw [st, List.length_append, List.length_singleton] at ln
        refine ⟨_, rfl, .inl ⟨rfl, _, SqL.of hl⟩, _, rfl, _, rfl, by show 2 ≤ sizeLine; omega, fun r nr => ?_⟩
        have tr := same_new (o := .tup [.str n, .int d]) nr
        have rl : r ≠ l := (ne_of_none hl nr).symm
        refine ⟨l, _, _, rfl, rfl, tr _ _ hl, by rw [List.length_map, lr]; omega, ?_⟩
        obtain ⟨Hb, eb2⟩ : ∃ X, X = upd (upd Ha r (.tup [.str n, .int d])) l (.lst (rs.map V.ref ++ [V.ref r])) := ⟨_, rfl⟩
        have sb : Same H Hb := by rw [eb2]; exact (sa.trans tr).put nl
        have hlb : Hb l = some (.lst ((rs ++ [r]).map V.ref)) := by rw [eb2, upd_same, List.map_append] <;> rfl
        have prb : Paired (RowW Hb) (rs ++ [r]) ((ts.take i).flatMap G ++ [(n, d)]) := by
          refine pair_appW (pair_impW (fun x z e => ?_) pr) (.cons ?_ .nil)
          · show Hb x = _
            have xl : x ≠ l := ne_of e hl (by intro z; cases z)
            rw [eb2, upd_ne xl]
            exact tr _ _ e
          · show Hb r = _
            rw [eb2, upd_ne rl, upd_same]
        rw [← eb2]
        refine ⟨_, rfl, .inl ⟨rfl, _, SqL.of hlb⟩, _, rfl, _, rfl, _, rfl, _, _, rfl, rfl, q, ts, od, n, d + 1, rfl, sb _ _ hq, o, .inr mn, by rw [st, List.length_append, List.length_singleton]; omega, by omega, fun p rs2 Hc sc np hp2 pr2 fr2 => ?_⟩
        have lr2 := pair_lenZ pr2
        have lp : p ≠ l := (ne_of_none hlb np).symm
        refine ⟨l, p, _, _, rfl, rfl, sc _ _ hlb, hp2, by rw [List.length_map, List.length_map, lr2, List.length_append, lr, List.length_singleton]; omega, ⟨_, rfl⟩, (sb.trans sc).put nl, rs ++ [r] ++ rs2, by rw [upd_same, ← List.map_append], ?_, fun y hy => ?_⟩
        rotate_left
        · rcases List.mem_append.mp hy with hy | hy
          · rcases List.mem_append.mp hy with hy | hy
            · exact fr y hy
            · rw [List.mem_singleton.mp hy]
              exact sa.free nr
          · exact sb.free (fr2 y hy)
        rw [tm, eGp, show (n, d) :: walkN ts m n (d + 1) = [(n, d)] ++ walkN ts m n (d + 1) from rfl, ← List.append_assoc]
        have keep : ∀ (x : Addr) (z : Str × Int), RowW Hc x z → RowW (upd Hc l (.lst ((rs ++ [r]).map V.ref ++ rs2.map V.ref))) x z := fun x z e => by
          show upd Hc l _ x = _
          rw [upd_ne (ne_of e (sc _ _ hlb) (by intro z; cases z))]
          exact e
        exact pair_appW (pair_impW (fun x z e => keep x z (sc _ _ e)) prb) (pair_impW keep pr2)
      · have e : ¬ pn = a := fun z => no (decide_eq_true (by rw [z]))
        have eGp : G (n, pn) = [] := by rw [eG]; exact if_neg e
        refine ⟨⟨_, rfl⟩, sa, rs, hl, ?_, fr⟩
        rw [tm, eGp, List.append_nil]
        exact pr
    · intro σ' H2 ⟨⟨u4, eσ⟩, s2, rs, hl, pr, fr⟩
      subst eσ
      rw [show (prs ts).length = ts.length by unfold prs; rw [kvT_len, List.length_map], List.take_length] at pr
      exact ⟨_, rfl, k l rs H2 s2 nl hl pr fr⟩
/-- at every depth -/
theorem ok_walked {f : Addr} {fd : FuncData} (F : Fun K "walked" "walked" s_walked f fd) (b : Binds K fd ["above", "place", "depth"] []) (g : mg "walked" = some (.ref f)) : ∀ m, FnOk P w K mg base CX0 (m + 1) f fd ["above", "place", "depth"] (spWalked m)
  | 0 => by
    refine F.ok scWd (fun vs H Q E h => ?_) (fun cdv A outer s H vs Q E hr h => ?_)
    · obtain ⟨q, ts, od, a, d, rfl, _⟩ := h
      rfl
    · obtain ⟨q, ts, od, a, d, rfl, hq, o, pl, hm, few, k⟩ := h
      have := path_len ts a
      omega
  | m + 1 => ok_walkedS F m ⟨ok_walked F b g m, F.kp, b, g⟩
end
end FT


/-! what runs while generators sleep leaves them as they are -/
namespace Slp
open PySem
open Sem (wp)
def deadK : Resume → Sem PySem.Fin := fun _ => .unsupported "asleep"
def dead : GenState → GenState
  | .suspended _ l c p fs cl => .suspended deadK l c p fs cl
  | x => x
def sw (T : Nat → Option GenState) (G : Array GenState) : Array GenState := G.mapIdx fun i x => (T i).getD x
def swS (T : Nat → Option GenState) (s : Shared) : Shared := { s with gens := sw T s.gens }
structure Iv (T : Nat → Option GenState) (G : Array GenState) : Prop where
  fro : ∀ i x, T i = some x → (∃ k l c p fs cl, x = .suspended k l c p fs cl) ∧ G[i]? = some (dead x)
  pla : ∀ i k l c p fs cl, T i = none → G[i]? = some (.suspended k l c p fs cl) → splitAtGen fs = none
theorem sw_size (T : Nat → Option GenState) (G : Array GenState) : (sw T G).size = G.size := by
  unfold sw
  rw [Array.size_mapIdx]
theorem sw_get (T : Nat → Option GenState) (G : Array GenState) (i : Nat) : (sw T G)[i]? = G[i]?.map fun x => (T i).getD x := by
  unfold sw
  rw [Array.getElem?_mapIdx]
section
variable {T : Nat → Option GenState} {G : Array GenState}
theorem sw_push {x : GenState} (h : T G.size = none) : sw T (G.push x) = (sw T G).push x := by
  refine Array.ext_getElem? fun i => ?_
  rw [sw_get, Array.getElem?_push, Array.getElem?_push, sw_size, sw_get]
  by_cases e : i = G.size
  · subst e
    rw [if_pos rfl, if_pos rfl, Option.map_some, h] <;> rfl
  · rw [if_neg e, if_neg e]
theorem sw_set {i : Nat} {x : GenState} (h : T i = none) : sw T (G.setIfInBounds i x) = (sw T G).setIfInBounds i x := by
  refine Array.ext_getElem? fun j => ?_
  rw [sw_get, Array.getElem?_setIfInBounds, Array.getElem?_setIfInBounds, sw_size, sw_get]
  by_cases e : i = j
  · subst e
    by_cases l : i < G.size
    · rw [if_pos rfl, if_pos rfl, if_pos l, Option.map_some, h] <;> rfl
    · rw [if_pos rfl, if_pos rfl, if_neg l] <;> rfl
  · rw [if_neg e, if_neg e]
theorem Iv.noT (v : Iv T G) : T G.size = none := by
  cases e : T G.size with
  | none => rfl
  | some x =>
    have := (v.fro _ x e).2
    rw [Array.getElem?_eq_none (Nat.le_refl _)] at this
    cases this
theorem Iv.free (v : Iv T G) {i : Nat} {y : GenState} (h : G[i]? = some y) (n : ∀ k l c p fs cl, y ≠ .suspended k l c p fs cl) : T i = none := by
  cases e : T i with
  | none => rfl
  | some x =>
    obtain ⟨⟨k, l, c, p, fs, cl, rfl⟩, q⟩ := v.fro _ x e
    rw [h] at q
    exact absurd (Option.some.inj q) (n _ _ _ _ _ _)
theorem Iv.push (v : Iv T G) {x : GenState} (n : ∀ k l c p fs cl, x = .suspended k l c p fs cl → splitAtGen fs = none) : Iv T (G.push x) := by
  refine ⟨fun i y e => ?_, fun i k l c p fs cl e h => ?_⟩
  · obtain ⟨a, b⟩ := v.fro i y e
    have li := (Array.getElem?_eq_some_iff.mp b).1
    refine ⟨a, ?_⟩
    rw [Array.getElem?_push, if_neg (by omega)]
    exact b
  · rw [Array.getElem?_push] at h
    by_cases q : i = G.size
    · rw [if_pos q] at h
      exact n k l c p fs cl (Option.some.inj h)
    · rw [if_neg q] at h
      exact v.pla i k l c p fs cl e h
theorem Iv.set (v : Iv T G) {j : Nat} {x : GenState} (hj : T j = none) (n : ∀ k l c p fs cl, x = .suspended k l c p fs cl → splitAtGen fs = none) : Iv T (G.setIfInBounds j x) := by
  refine ⟨fun i y e => ?_, fun i k l c p fs cl e h => ?_⟩
  · obtain ⟨a, b⟩ := v.fro i y e
    refine ⟨a, ?_⟩
    rw [Array.getElem?_setIfInBounds, if_neg fun w => by rw [w, e] at hj; cases hj]
    exact b
  · rw [Array.getElem?_setIfInBounds] at h
    by_cases q : j = i
    · rw [if_pos q] at h
      by_cases w : j < G.size
      · rw [if_pos w] at h
        exact n k l c p fs cl (Option.some.inj h)
      · rw [if_neg w] at h
        cases h
    · rw [if_neg q] at h
      exact v.pla i k l c p fs cl e h
theorem sw_at (v : Iv T G) {i : Nat} {y : GenState} (h : G[i]? = some y) : ∃ y', (sw T G)[i]? = some y' ∧ y'.seen = y.seen := by
  cases e : T i with
  | none => exact ⟨y, by rw [sw_get, h, e] <;> rfl, rfl⟩
  | some x =>
    obtain ⟨⟨k, l, c, p, fs, cl, rfl⟩, q⟩ := v.fro i x e
    rw [h] at q
    cases q
    exact ⟨.suspended k l c p fs cl, by rw [sw_get, h, e] <;> rfl, rfl⟩
theorem sw_free {i : Nat} {y : GenState} (h : G[i]? = some y) (e : T i = none) : (sw T G)[i]? = some y := by
  rw [sw_get, h, e] <;> rfl
end
theorem plain_cons {F : Frame} {fs : List Frame} (h : splitAtGen (F :: fs) = none) : splitAtGen fs = none ∧ ∀ g k l c p, F ≠ .gen g k l c p := by
  cases F with
  | ret k hd gd l c p kp =>
    refine ⟨?_, fun _ _ _ _ _ e => by cases e⟩
    have h : (splitAtGen fs).map _ = none := h
    exact Option.map_eq_none_iff.mp h
  | gen g k l c p => cases h
theorem plain_app : ∀ {a b : List Frame}, splitAtGen a = none → splitAtGen b = none → splitAtGen (a ++ b) = none
  | [], _, _, h => h
  | F :: a, b, ha, hb => by
    obtain ⟨h1, h2⟩ := plain_cons ha
    cases F with
    | ret k hd gd l c p kp =>
      show (splitAtGen (a ++ b)).map _ = none
      rw [plain_app h1 hb] <;> rfl
    | gen g k l c p => exact absurd rfl (h2 g k l c p)
theorem runs_dead {M : Model} {Γ : Ctx} {p : Pos} {t : Sem PySem.Fin} {fs : List Frame} {s s' : Shared} {e : End} (h : Runs M Γ p t fs s e s') : ∀ w, t ≠ .unsupported w := by
  induction h <;> intro w q <;> first | (cases q; done) | (rename_i ih _; exact ih w q) | (rename_i ih; exact ih w q) | skip
  all_goals first | (cases q) | (simp_all)
def plainEnd : End → Prop
  | .susp _ _ _ _ _ _ fs => splitAtGen fs = none
  | .ret _ => True
theorem end_gen {e : End} (h : plainEnd e) : ∀ k l c p fs cl, e.genState = .suspended k l c p fs cl → splitAtGen fs = none := by
  intro k l c p fs cl q
  cases e with
  | ret r => cases q
  | susp v g l0 k0 c0 p0 fs0 =>
    cases q
    exact h
theorem swS_set {T : Nat → Option GenState} {s : Shared} {g : Nat} {x : GenState} (h : T g = none) : swS T (s.setGen g x) = (swS T s).setGen g x := by
  unfold swS Shared.setGen
  rw [sw_set h]
theorem no_susp {x : GenState} (h : ∀ k l c p fs cl, x ≠ .suspended k l c p fs cl) : ∀ k l c p fs cl, x = .suspended k l c p fs cl → splitAtGen fs = none := fun k l c p fs cl e => absurd e (h k l c p fs cl)
theorem swS_new {T : Nat → Option GenState} {s : Shared} {c : Code} (v : Iv T s.gens) : swS T { s with gens := s.gens.push (.fresh c) } = { swS T s with gens := (swS T s).gens.push (.fresh c) } := by
  unfold swS
  rw [sw_push v.noT]
theorem swS_size {T : Nat → Option GenState} {s : Shared} : (swS T s).gens.size = s.gens.size := sw_size T s.gens
theorem runs_swap {M : Model} {T : Nat → Option GenState} {Γ : Ctx} {p : Pos} {t : Sem PySem.Fin} {fs : List Frame} {s s' : Shared} {e : End} (h : Runs M Γ p t fs s e s') : splitAtGen fs = none → Iv T s.gens → Iv T s'.gens ∧ plainEnd e ∧ Runs M Γ p t fs (swS T s) e (swS T s') := by
  induction h with
  | done => exact fun _ v => ⟨v, trivial, .done⟩
  | raise => exact fun _ v => ⟨v, trivial, .raise⟩
  | again q _ ih => exact fun hf v => let ⟨a, b, c⟩ := ih hf v; ⟨a, b, .again q c⟩
  | rule _ ih => exact fun hf v => let ⟨a, b, c⟩ := ih hf v; ⟨a, b, .rule c⟩
  | «at» _ ih => exact fun hf v => let ⟨a, b, c⟩ := ih hf v; ⟨a, b, .at c⟩
  | load q _ ih => exact fun hf v => let ⟨a, b, c⟩ := ih hf v; ⟨a, b, .load q c⟩
  | update q _ ih => exact fun hf v => let ⟨a, b, c⟩ := ih hf v; ⟨a, b, .update q c⟩
  | loadIfAlive _ ih => exact fun hf v => let ⟨a, b, c⟩ := ih hf v; ⟨a, b, .loadIfAlive c⟩
  | point _ ih => exact fun hf v => let ⟨a, b, c⟩ := ih hf v; ⟨a, b, .point c⟩
  | alloc _ ih => exact fun hf v => let ⟨a, b, c⟩ := ih hf v; ⟨a, b, .alloc c⟩
  | fresh _ ih => exact fun hf v => let ⟨a, b, c⟩ := ih hf v; ⟨a, b, .fresh c⟩
  | ask _ ih => exact fun hf v => let ⟨a, b, c⟩ := ih hf v; ⟨a, b, .ask c⟩
  | choose q _ ih => exact fun hf v => let ⟨a, b, c⟩ := ih hf v; ⟨a, b, .choose q c⟩
  | os _ ih => exact fun hf v => let ⟨a, b, c⟩ := ih hf v; ⟨a, b, .os c⟩
  | handled _ ih => exact fun hf v => let ⟨a, b, c⟩ := ih hf v; ⟨a, b, .handled c⟩
  | genState q _ ih =>
    intro hf v
    obtain ⟨a, b, c⟩ := ih hf v
    obtain ⟨y, hy, sy⟩ := sw_at v q
    exact ⟨a, b, .genState hy (by rw [sy]; exact c)⟩
  | stack _ ih => exact fun hf v => let ⟨a, b, c⟩ := ih hf v; ⟨a, b, .stack c⟩
  | thread _ ih => exact fun hf v => let ⟨a, b, c⟩ := ih hf v; ⟨a, b, .thread c⟩
  | newGen _ ih =>
    intro hf v
    obtain ⟨a, b, d⟩ := ih hf (v.push (x := .fresh _) (no_susp fun _ _ _ _ _ _ q => by cases q))
    refine ⟨a, b, .newGen ?_⟩
    rw [swS_new v] at d
    rw [swS_size]
    exact d
  | call _ _ ih1 ih2 =>
    intro hf v
    obtain ⟨a1, _, c1⟩ := ih1 rfl v
    obtain ⟨a2, b2, c2⟩ := ih2 hf a1
    exact ⟨a2, b2, .call c1 c2⟩
  | callSusp _ ih =>
    intro hf v
    obtain ⟨a, b, c⟩ := ih rfl v
    exact ⟨a, plain_app b rfl, .callSusp c⟩
  | yield => exact fun hf v => ⟨v, rfl, .yield⟩
  | resumeFresh q _ qt _ ih1 ih2 =>
    intro hf v
    have n := v.free q fun _ _ _ _ _ _ w => by cases w
    obtain ⟨a1, b1, c1⟩ := ih1 rfl (v.set n (no_susp fun _ _ _ _ _ _ w => by cases w))
    obtain ⟨a2, b2, c2⟩ := ih2 hf (a1.set n (end_gen b1))
    rw [swS_set n] at c1 c2
    exact ⟨a2, b2, .resumeFresh (sw_free q n) c1 qt c2⟩
  | @resumeSuspended Γ p g r l k s k0 l0 c0 p0 fs0 cl e1 s1 e s' q r1 qt r2 ih1 ih2 =>
    intro hf v
    cases et : T g with
    | some x =>
      obtain ⟨⟨k1, l1, c1, p1, fs1, cl1, rfl⟩, w⟩ := v.fro g x et
      rw [q] at w
      cases w
      exact absurd rfl (runs_dead r1 "asleep")
    | none =>
      obtain ⟨a1, b1, c1⟩ := ih1 (v.pla g _ _ _ _ _ _ et q) (v.set et (no_susp fun _ _ _ _ _ _ w => by cases w))
      obtain ⟨a2, b2, c2⟩ := ih2 hf (a1.set et (end_gen b1))
      rw [swS_set et] at c1 c2
      exact ⟨a2, b2, .resumeSuspended (sw_free q et) c1 qt c2⟩
  | resumeJustStarted q nv _ ih =>
    intro hf v
    obtain ⟨a, b, c⟩ := ih hf v
    exact ⟨a, b, .resumeJustStarted (sw_free q (v.free q fun _ _ _ _ _ _ w => by cases w)) nv c⟩
  | resumeThrowFresh q _ ih =>
    intro hf v
    have n := v.free q fun _ _ _ _ _ _ w => by cases w
    obtain ⟨a, b, c⟩ := ih hf (v.set n (no_susp fun _ _ _ _ _ _ w => by cases w))
    rw [swS_set n] at c
    exact ⟨a, b, .resumeThrowFresh (sw_free q n) c⟩
  | resumeRunning q _ ih =>
    intro hf v
    obtain ⟨a, b, c⟩ := ih hf v
    exact ⟨a, b, .resumeRunning (sw_free q (v.free q fun _ _ _ _ _ _ w => by cases w)) c⟩
  | resumeFinished q _ ih =>
    intro hf v
    obtain ⟨a, b, c⟩ := ih hf v
    exact ⟨a, b, .resumeFinished (sw_free q (v.free q fun _ _ _ _ _ _ w => by cases w)) c⟩
  | segRet _ _ ih1 ih2 =>
    intro hf v
    obtain ⟨a1, _, c1⟩ := ih1 rfl v
    obtain ⟨a2, b2, c2⟩ := ih2 (plain_cons hf).1 a1
    exact ⟨a2, b2, .segRet c1 c2⟩
  | segGen => exact fun hf => by cases hf
  | segSuspOut q _ ih =>
    intro hf v
    obtain ⟨a, b, c⟩ := ih rfl v
    exact ⟨a, plain_app b q, .segSuspOut q c⟩
  | segSuspGen q => exact fun hf => by rw [q] at hf; cases hf
theorem wakes_swap {M : Model} {T : Nat → Option GenState} {Γ : Ctx} {p : Pos} {g : Nat} {r : Resume} {s s' : Shared} {res : GenResult} (h : Wakes M Γ p g r s res s') (v : Iv T s.gens) : Iv T s'.gens ∧ Wakes M Γ p g r (swS T s) res (swS T s') := by
  unfold Wakes at h
  cases q : s.gens[g]? with
  | none =>
    rw [q] at h
    exact h.elim
  | some x =>
    rw [q] at h
    cases x with
    | fresh c =>
      have n := v.free q fun _ _ _ _ _ _ w => by cases w
      have qs : (swS T s).gens[g]? = some (.fresh c) := sw_free q n
      cases r with
      | send u =>
        cases u with
        | none =>
          obtain ⟨e1, s1, hr, qt, rfl, rfl⟩ := h
          obtain ⟨a, b, d⟩ := runs_swap hr rfl (v.set n (no_susp fun _ _ _ _ _ _ w => by cases w))
          rw [swS_set n] at d
          refine ⟨a.set n (end_gen b), ?_⟩
          unfold Wakes
          rw [qs]
          exact ⟨e1, _, d, qt, rfl, swS_set n⟩
        | _ =>
          obtain ⟨rfl, rfl⟩ := h
          refine ⟨v, ?_⟩
          unfold Wakes
          rw [qs]
          exact ⟨rfl, rfl⟩
      | throw x =>
        obtain ⟨rfl, rfl⟩ := h
        refine ⟨v.set n (no_susp fun _ _ _ _ _ _ w => by cases w), ?_⟩
        unfold Wakes
        rw [qs]
        exact ⟨rfl, swS_set n⟩
    | suspended k0 l0 c0 p0 fs0 cl =>
      obtain ⟨e1, s1, hr, qt, rfl, rfl⟩ := h
      cases et : T g with
      | some x =>
        obtain ⟨⟨k1, l1, c1, p1, fs1, cl1, rfl⟩, w⟩ := v.fro g x et
        rw [q] at w
        cases w
        exact absurd rfl (runs_dead hr "asleep")
      | none =>
        obtain ⟨a, b, d⟩ := runs_swap hr (v.pla g _ _ _ _ _ _ et q) (v.set et (no_susp fun _ _ _ _ _ _ w => by cases w))
        rw [swS_set et] at d
        refine ⟨a.set et (end_gen b), ?_⟩
        unfold Wakes
        rw [show (swS T s).gens[g]? = some (.suspended k0 l0 c0 p0 fs0 cl) from sw_free q et]
        exact ⟨e1, _, d, qt, rfl, swS_set et⟩
    | running =>
      obtain ⟨rfl, rfl⟩ := h
      refine ⟨v, ?_⟩
      unfold Wakes
      rw [show (swS T _).gens[g]? = some .running from sw_free q (v.free q fun _ _ _ _ _ _ w => by cases w)]
      exact ⟨rfl, rfl⟩
    | finished =>
      obtain ⟨rfl, rfl⟩ := h
      refine ⟨v, ?_⟩
      unfold Wakes
      rw [show (swS T _).gens[g]? = some .finished from sw_free q (v.free q fun _ _ _ _ _ _ w => by cases w)]
      exact ⟨rfl, rfl⟩
theorem wp_swap {α : Type} (M : Model) (T : Nat → Option GenState) (Γ : Ctx) (t : Sem α) : ∀ (Q : α → Pos → Shared → Prop) (E : Value → Pos → Shared → Prop) (p : Pos) (s : Shared), Iv T s.gens → wp M Γ t Q E p s →
    wp M Γ t (fun a p' s' => ∃ sh, Iv T sh.gens ∧ s' = swS T sh ∧ Q a p' sh) (fun e p' s' => ∃ sh, Iv T sh.gens ∧ s' = swS T sh ∧ E e p' sh) p (swS T s) := by
  induction t with
  | pure a => intro Q E p s v h; exact ⟨s, v, rfl, h⟩
  | raise e => intro Q E p s v h; exact ⟨s, v, rfl, h⟩
  | unsupported _ => intro Q E p s _ h; exact h
  | finish _ => intro Q E p s _ h; exact h
  | rule _ k ih => intro Q E p s v h; exact ih () Q E p s v h
  | «at» p' k ih => intro Q E p s v h; exact ih () Q E p' s v h
  | load a _ k ih => intro Q E p s v h; obtain ⟨o, ho, h⟩ := h; exact ⟨o, ho, ih o Q E p s v h⟩
  | update a _ f k ih => intro Q E p s v h; exact ⟨h.1, ih () Q E p { s with heap := s.heap.update a f } v h.2⟩
  | loadIfAlive a k ih => intro Q E p s v h; exact ih _ Q E p s v h
  | point _ k ih => intro Q E p s v h; exact ih () Q E p s v h
  | register _ _ => intro Q E p s _ h; exact h
  | alloc o k ih => intro Q E p s v h; exact ih _ Q E p { s with heap := s.heap.push o } v h
  | fresh k ih => intro Q E p s v h; exact ih _ Q E p { s with toks := s.toks + 1 } v h
  | ask k ih => intro Q E p s v h; exact ih _ Q E p s v h
  | choose src m k ih => intro Q E p s v h; exact ⟨h.1, ih _ Q E p { s with drawn := s.drawn.bump src } v h.2⟩
  | os q _ k ih => intro Q E p s v h; exact ih _ Q E p { s with os := (Os.step s.os q).1 } v h
  | call c hd _ _ k ih =>
    intro Q E p s v h
    obtain ⟨r, s', hr, h⟩ := h
    obtain ⟨a, _, d⟩ := runs_swap hr rfl v
    exact ⟨r, _, d, ih r Q E p s' a h⟩
  | handled own k ih => intro Q E p s v h; exact ih _ Q E p s v h
  | genState g k ih =>
    intro Q E p s v h
    obtain ⟨st, hs, h⟩ := h
    obtain ⟨y, hy, sy⟩ := sw_at v hs
    refine ⟨y, hy, ?_⟩
    rw [sy]
    exact ih _ Q E p s v h
  | newGen c k ih =>
    intro Q E p s v h
    have z := ih _ Q E p { s with gens := s.gens.push (.fresh c) } (v.push (x := .fresh c) (no_susp fun _ _ _ _ _ _ q => by cases q)) h
    rw [swS_new v] at z
    show wp M Γ (k (swS T s).gens.size) _ _ p _
    rw [swS_size]
    exact z
  | resume g r _ k ih =>
    intro Q E p s v h
    obtain ⟨res, s', hw, h⟩ := h
    obtain ⟨a, d⟩ := wakes_swap hw v
    exact ⟨res, _, d, ih res Q E p s' a h⟩
  | yield _ _ _ _ => intro Q E p s _ h; exact h
  | stack k ih => intro Q E p s v h; exact ih _ Q E p s v h
  | fork _ _ => intro Q E p s _ h; exact h
  | thread k ih => intro Q E p s v h; exact ih _ Q E p s v h
  | await _ _ _ _ _ => intro Q E p s _ h; exact h
/-- all generators that sleep, put out of reach -/
def hid (s : Shared) : Shared := { s with gens := s.gens.map dead }
def tab (G : Array GenState) (i : Nat) : Option GenState := match G[i]? with
  | some (.suspended k l c p fs cl) => some (.suspended k l c p fs cl)
  | _ => none
theorem tab_iv (G : Array GenState) : Iv (tab G) (G.map dead) := by
  refine ⟨fun i x e => ?_, fun i k l c p fs cl e h => ?_⟩
  · unfold tab at e
    cases q : G[i]? with
    | none => rw [q] at e; cases e
    | some y =>
      rw [q] at e
      cases y with
      | suspended k l c p fs cl =>
        cases e
        exact ⟨⟨_, _, _, _, _, _, rfl⟩, by rw [Array.getElem?_map, q] <;> rfl⟩
      | _ => cases e
  · unfold tab at e
    rw [Array.getElem?_map] at h
    cases q : G[i]? with
    | none => rw [q] at h; cases h
    | some y =>
      rw [q] at e h
      cases y with
      | suspended k l c p fs cl => cases e
      | _ => cases h
theorem tab_sw (G : Array GenState) : sw (tab G) (G.map dead) = G := by
  refine Array.ext_getElem? fun i => ?_
  rw [sw_get, Array.getElem?_map]
  unfold tab
  cases q : G[i]? with
  | none => rfl
  | some y => cases y <;> rfl
theorem hid_sw (s : Shared) : swS (tab s.gens) (hid s) = s := by
  unfold swS hid
  rw [tab_sw]
/-- what is shown while all that sleep is out of reach holds, and they sleep on -/
theorem asleep {α : Type} {M : Model} {A : Around} {s : Shared} {t : Sem α} {Q : α → Shared → Prop} {E : Value → Shared → Prop} (h : wpAny M A t Q E (hid s)) :
    wpAny M A t (fun a s' => ∃ sh, Iv (tab s.gens) sh.gens ∧ s' = swS (tab s.gens) sh ∧ Q a sh) (fun e s' => ∃ sh, Iv (tab s.gens) sh.gens ∧ s' = swS (tab s.gens) sh ∧ E e sh) s := by
  intro Γ p hΓ
  have z := wp_swap M (tab s.gens) Γ t _ _ p (hid s) (tab_iv s.gens) (h Γ p hΓ)
  rw [hid_sw] at z
  exact z
end Slp


/-! one segment of a generator's run, up to where it hands out a value or ends -/
namespace Sg
open PySem PyProof.Rows GenW L2
open Sem (wp)
def SegG (M : Model) (A : Around) (Φ : End → Shared → Prop) (c : Code) (t : Sem PySem.Fin) (fs : List Frame) (s : Shared) : Prop :=
  ∀ (Γ : PySem.Ctx) (p : Pos), Γ.code = c → Γ.Woken A → ∃ e s', Runs M Γ p t fs s e s' ∧ Φ e s'
section
variable {M : Model} {A : Around} {Φ : End → Shared → Prop} {c : Code} {fs : List Frame} {s : Shared}
theorem sg_wrap {α : Type} {m : Sem α} {K : α → Sem PySem.Fin} {H : Value → Sem PySem.Fin} {gd : Bool → Bool} {lv : List Value → List Value}
    (h : wpAny M (A.over c fs) m (fun a s' => SegG M A Φ c (K a) fs s') (fun x s' => SegG M A Φ c (H x) fs s') s) : SegG M A Φ c (m.wrap K H gd lv) fs s := by
  rintro Γ p rfl hΓ
  exact runs_wrap_of_wp K H gd lv m (h (Γ.over fs) p (hΓ.over fs)) (fun a p' s' h' => h' Γ p' rfl hΓ) (fun x p' s' h' => h' Γ p' rfl hΓ)
theorem sg_bind {α : Type} {m : Sem α} {K : α → Sem PySem.Fin} (h : wpAny M (A.over c fs) m (fun a s' => SegG M A Φ c (K a) fs s') (fun x s' => SegG M A Φ c (.raise x) fs s') s) :
    SegG M A Φ c (m >>= K) fs s := by
  rw [Sem.bind_eq_wrap']; exact sg_wrap h
theorem sg_bindw {α β : Type} {m : Sem α} {K : α → Sem β} {K' : β → Sem PySem.Fin} {H' : Value → Sem PySem.Fin} {gd : Bool → Bool} {lv : List Value → List Value}
    (h : wpAny M (A.over c fs) m (fun a s' => SegG M A Φ c ((K a).wrap K' H' gd lv) fs s') (fun x s' => SegG M A Φ c (H' x) fs s') s) : SegG M A Φ c ((m >>= K).wrap K' H' gd lv) fs s := by
  rw [Sem.bind_eq_wrap', Sem.wrap_wrap]; exact sg_wrap h
theorem sg_at {p' : Pos} {k : Unit → Sem PySem.Fin} (h : SegG M A Φ c (k ()) fs s) : SegG M A Φ c (.at p' k) fs s :=
  sg_wrap (m := standAt p') (K := k) (H := .raise) (gd := id) (lv := id) (wpAny_standAt h)
theorem sg_point {l : List Value} {k : Unit → Sem PySem.Fin} (h : SegG M A Φ c (k ()) fs s) : SegG M A Φ c (.point l k) fs s :=
  sg_wrap (m := point) (K := k) (H := .raise) (gd := id) (lv := fun _ => l) (wpAny_point h)
theorem sg_call {c' : Code} {h : Option Value} {g : Bool} {l : List Value} {k : Result → Sem PySem.Fin} (hc : ∀ p, SegG M A Φ c' (M.den c') (.ret k h g l c p [] :: fs) s) :
    SegG M A Φ c (.call c' h g l k) fs s := by
  rintro Γ p rfl hΓ
  obtain ⟨e, s', hr, he⟩ := hc p (Γ.goto c') p rfl (hΓ.goto c')
  exact ⟨e, s', runs_call_seg hr, he⟩
theorem sg_leaf {k : Result → Sem PySem.Fin} {h : Option Value} {g : Bool} {l kp : List Value} {c₁ : Code} {p₁ : Pos} (r : Result) (hk : SegG M A Φ c₁ (k r) fs s) : SegG M A Φ c (leafOf r) (.ret k h g l c₁ p₁ kp :: fs) s := by
  rintro Γ p rfl hΓ
  obtain ⟨e, s', hr, he⟩ := hk (Γ.goto c₁) p₁ rfl (hΓ.goto c₁)
  exact ⟨e, s', Runs.pop r hr, he⟩
theorem sg_again {c' : Code} (hq : c'.quiet = true) (hc : SegG M A Φ c' (M.den c') fs s) : SegG M A Φ c (.pure (.again c')) fs s := by
  rintro Γ p rfl hΓ
  obtain ⟨e, s', hr, he⟩ := hc (Γ.goto c') p rfl (hΓ.goto c')
  exact ⟨e, s', Runs.head (c₁ := c') (fun _ _ x => .again hq x) hr, he⟩
theorem sg_end (r : Result) (h : Φ (.ret r) s) : SegG M A Φ c (leafOf r) [] s := by
  rintro Γ p rfl _
  exact ⟨.ret r, s, Runs.leaf r, h⟩
theorem sg_yield {v : Value} {g : Bool} {l : List Value} {k : Resume → Sem PySem.Fin} (hfs : splitAtGen fs = none) (hg : g = false) (hfg : fs.any Frame.guarded = false)
    (h : ∀ g' l' p', (End.susp v g' l' k c p' fs).quiet = true → Φ (.susp v g' l' k c p' fs) s) : SegG M A Φ c (.yield v g l k) fs s := by
  rintro Γ p rfl _
  exact ⟨_, s, Runs.yield' fs hfs, h _ _ _ (by simp [End.quiet, hg, hfg])⟩
theorem sg_mono {Φ' : End → Shared → Prop} {t : Sem PySem.Fin} (h : SegG M A Φ c t fs s) (i : ∀ e s, Φ e s → Φ' e s) : SegG M A Φ' c t fs s := by
  intro Γ p hc hΓ
  obtain ⟨e, s', hr, he⟩ := h Γ p hc hΓ
  exact ⟨e, s', hr, i _ _ he⟩
end
def GoesG (M : Model) (A : Around) (Φ : End → Shared → Prop) (gs : GenState) (r : Resume) (s : Shared) : Prop :=
  match gs with
  | .fresh c => r = .send .none ∧ SegG M A Φ c (M.den c) [] s
  | .suspended k _ c _ fs _ => SegG M A Φ c (k r) fs s
  | _ => False
section
variable {M : Model}
theorem wpAny_resumeG {A : Around} {Φ : End → Shared → Prop} {E : Value → Shared → Prop} {s : Shared} {g : Nat} {gs : GenState}
    {r : Resume} {l : List Value} {α : Type} {k : GenResult → Sem α} {Q : α → Shared → Prop} (hg : s.gens[g]? = some gs)
    (hgo : GoesG M A Φ gs r (s.setGen g .running)) (hq : ∀ e s, Φ e s → e.quiet = true)
    (hR : ∀ e s₁, Φ e s₁ → wpAny M A (k e.result) Q E (s₁.setGen g e.genState)) :
    wpAny M A (.resume g r l k) Q E s := by
  intro Γ p hΓ
  rw [Sem.wp_resume]
  have hB : ∀ c, (Γ.wake c p).Woken A := fun c => hΓ.wake c p
  cases gs with
  | fresh c =>
    obtain ⟨rfl, hs⟩ := hgo
    obtain ⟨e₁, s₁, hr, he⟩ := hs (Γ.wake c p) p rfl (hB c)
    exact ⟨_, _, by unfold Wakes; rw [hg]; exact ⟨e₁, s₁, hr, hq e₁ s₁ he, rfl, rfl⟩, hR e₁ s₁ he Γ p hΓ⟩
  | suspended k₀ l₀ c₀ p₀ fs₀ cl =>
    obtain ⟨e₁, s₁, hr, he⟩ := hgo (Γ.wake c₀ p) p₀ rfl (hB c₀)
    exact ⟨_, _, by unfold Wakes; rw [hg]; exact ⟨e₁, s₁, hr, hq e₁ s₁ he, rfl, rfl⟩, hR e₁ s₁ he Γ p hΓ⟩
  | running => exact hgo.elim
  | finished => exact hgo.elim
end
/-- how a segment may end: for good, by an exception, or with a value handed out -/
def PhiOf (F : Shared → Prop) (Er : Value → Shared → Prop) (Yd : Value → GenState → Shared → Prop) (e : End) (s : Shared) : Prop :=
  e.quiet = true ∧ match e with
  | .ret r => ((r = .ok (.ret .none) ∨ r = .ok .next) ∧ F s) ∨ ∃ x, r = .error x ∧ Er x s
  | .susp v g l k c p fs => Yd v (End.susp v g l k c p fs).genState s
section
variable {P : Program} {w : World} {A : Around} {E : Value → Shared → Prop} {s : Shared}
theorem next_segG {a : Addr} {g : Nat} {gs : GenState} {F : Shared → Prop} {Er : Value → Shared → Prop} {Yd : Value → GenState → Shared → Prop} {Q : Option Value → Shared → Prop} (hh : A.handled = none)
    (hl : s.heap.NoLimit) (hroom : A.depth < recursionLimit) (hg : s.heap.IsGen a g) (hgs : s.gens[g]? = some gs)
    (hgo : GoesG (model P w) A.in1 (PhiOf F Er Yd) gs (.send .none) (s.setGen g .running))
    (hY : ∀ v s₁ gs', gs'.bare = true → Yd v gs' s₁ → Q (some v) (s₁.setGen g gs'))
    (hP : ∀ s₁, F s₁ → ∀ h', (∀ b o, s₁.heap.get? b = some o → h'.get? b = some o) → Q none { s₁.setGen g .finished with heap := h' })
    (hE : ∀ e s₁, Er e s₁ → s₁.heap.IsGen a g ∧ NotStop (model P w) e s₁.heap ∧ E e (s₁.setGen g .finished)) :
    wpAny (model P w) A (pyNext (.ref a)) Q E s := by
  unfold pyNext
  refine wpAny_bind (wpAny_attempt (wpAny_callSpecial?_slot (name := Str.ofString "__next__") hg.typeIs slot_gen_next
    (wpAny_call_entry slot_gen_next hg.typeIs entry_gen_next ?_ (args_gen_next _))))
  show wpAny _ A.in1 (Builtin.Generator.genWake (.ref a) (.send .none)) _ _ s
  unfold Builtin.Generator.genWake
  refine wpAny_bind (wpAny_holding (wpAny_genNumber hg (wpAny_bind (wpAny_genState hgs ?_))))
  cases gs with
  | running => exact hgo.elim
  | finished => exact hgo.elim
  | _ =>
    refine wpAny_bind (wpAny_roomToWake hl hroom ?_)
    show wpAny _ A.in1 (.resume g (.send .none) [] _) _ _ s
    refine wpAny_resumeG hgs hgo (fun _ _ h => h.1) (fun e s₁ he => ?_)
    obtain ⟨hq, he⟩ := he
    cases e with
    | ret x =>
      rcases he with ⟨hr, hp⟩ | ⟨e, rfl, he⟩
      · have hres : End.result (.ret x) = .returned .none := by
          rcases hr with hr | hr <;> rw [hr] <;> rfl
        first | rw [hres] | simp only [hres]
        show wpAny _ A.in1 (newExc (.type "StopIteration") [] >>= _) _ _ _
        refine wpAny_bind ?_
        simp only [newExc, newTuple]
        refine wpAny_bind (wpAny_newObj_type ?_ (by size_fits))
        refine wpAny_bind (m := firstArgMember _ _) (wpAny_of_eq (a := Value.none) (by first | rfl | (simp only [firstArgMember]; rfl)) ?_)
        refine wpAny_newObj_type ?_ (by size_fits)
        simp only [raiseNew]
        refine wpAny_bind (wpAny_bind (wpAny_handled ?_))
        first | rw [show A.in1.handled = none from hh] | rw [hh]
        refine wpAny_throw ?_
        refine wpAny_bind (wpAny_isInstance (T := "StopIteration") (b := true) ⟨_, Heap.get?_push_size _ rfl, rfl⟩ isSubtype_stop ?_)
        exact wpAny_pure (hP s₁ hp _ fun b o hb => Heap.get?_push_of_some _ (Heap.get?_push_of_some _ hb))
      · obtain ⟨hg1, hns, hq⟩ := hE e s₁ he
        obtain ⟨o, nm, qn, ho, hc, hd, hsl⟩ := hg1
        show wpAny _ A.in1 (Builtin.Generator.genLeft (.ref a) e) _ _ _
        unfold Builtin.Generator.genLeft Builtin.Generator.madeByALambda
        refine wpAny_bind (wpAny_bind (wpAny_load (o := o) ho (wpAny_pure ?_)))
        refine wpAny_bind (hns _ _ _ _ rfl ?_)
        rw [Bool.and_false, if_neg Bool.false_ne_true]
        unfold Builtin.Generator.genEscaped
        first
          | refine wpAny_bind (hns _ _ _ _ rfl ?_)
          | refine wpAny_bind (wpAny_pure (wpAny_bind (hns _ _ _ _ rfl ?_)))
        rw [if_pos (show (!false) = true from rfl)]
        first
          | refine wpAny_throw ?_
          | refine wpAny_bind (wpAny_throw ?_)
        refine wpAny_bind (hns _ _ _ _ rfl ?_)
        rw [if_neg Bool.false_ne_true]
        exact wpAny_throw hq
    | susp v g' l k c p fs => exact wpAny_pure ⟨v, rfl, wpAny_pure (hY v s₁ _ (End.bare_of_quiet hq) he)⟩
end
end Sg


/-! a generator's body between two wakings: its context is anchored anew at each -/
namespace Sg
open PySem PyProof.Rows GenW L2
/-- what a generator promises: at its i-th waking on a heap it hands out a value, or it ends, or it raises -/
structure It2 where
  wk : Nat → Hp → Hp → Prop
  yld : Nat → Hp → V → Hp → Prop
  fin : Nat → Hp → Hp → Prop
  ex : Nat → Hp → XK
structure Gz where
  P : Program
  w : World
  K : PySem.W.Frag
  mg : Str → Option Value
  base : Heap
  N : List Str
  qual : Str
  scope : Scope
  n : Nat
  f : Addr
  cd : Value
  A : Around
  outer : List Env
  os : OsState
  ag : Addr
  g : Nat
  go : Obj
  pa : List Addr
  J : It2
structure An where
  i : Nat
  s : Shared
  H : Hp
  pn : List (Addr × Obj)
/-- what it raises: what is pinned is not tracked -/
def Gz.Ex (Z : Gz) (a : An) : XK := fun cls d H' => Z.J.ex a.i a.H cls d H' ∧ ∀ p ∈ (Z.ag, Z.go) :: a.pn, H' p.1 = none
abbrev Gz.env (Z : Gz) : Env := envOfC Z.qual Z.scope Z.n Z.f Z.cd
def Gz.cx (Z : Gz) (a : An) : Cx where
  prog := Z.P
  w := Z.w
  K := Z.K
  mg := Z.mg
  base := Z.base
  A := Z.A.deeper Z.env
  N := Z.N
  s_0 := a.s
  H_0 := a.H
  env := Z.env
  outer := Z.outer
  stack := Z.env :: Z.outer
  ex := []
  calm := true
  fn := fun _ => true
  pn := (Z.ag, Z.go) :: a.pn
  xe := fun e s' => wpAny (model Z.P Z.w) (Z.A.deeper Z.env) (leaving Z.env e)
      (fun _ s'' => CX Z.P Z.w Z.outer a.H a.s (Z.Ex a) e s'' ∧ ∀ p ∈ (Z.ag, Z.go) :: a.pn, s''.heap.get? p.1 = some p.2) (fun _ _ => False) s'
structure Gz.Ok (Z : Gz) : Prop where
  frames : Z.A.frames = some Z.outer
  hd : Z.A.handled = none
  mod : Mod Z.K Z.mg Z.base
  bsz : Z.base.objs.size ≤ Z.n
  frl : ∀ b ∈ frs Z.outer, b < Z.n
  kind : Z.scope.kind = .function
  cells : Z.env.cells = []
  loc : ∀ x k, Z.scope.names.lookup x = some k → k ≠ .cell ∧ k ≠ .free
  agn : Z.n < Z.ag
  npa : Z.n ∉ Z.pa
  apa : Z.ag ∉ Z.pa
  gen : Z.go.cls = .type "generator" ∧ (∃ nm qn, Z.go.data = .fields #[.int Z.g 0, nm, qn]) ∧ Z.go.slots = #[]
theorem Gz.Ok.isGen {Z : Gz} (ok : Z.Ok) {h : Heap} (e : h.get? Z.ag = some Z.go) : h.IsGen Z.ag Z.g := by
  obtain ⟨h1, ⟨nm, qn, h2⟩, h3⟩ := ok.gen
  exact ⟨Z.go, nm, qn, e, h1, h2, h3⟩
theorem Gz.Ok.notCell {Z : Gz} (ok : Z.Ok) : ∀ v, Z.go.data ≠ .cell v := by
  obtain ⟨h1, ⟨nm, qn, h2⟩, h3⟩ := ok.gen
  intro v q
  rw [h2] at q
  cases q
/-- the heap's first n objects -/
def cutH (n : Nat) (h : Heap) : Heap := { h with objs := h.objs.extract 0 n }
theorem cutH_size {n : Nat} {h : Heap} (hn : n ≤ h.objs.size) : (cutH n h).objs.size = n := by
  show (h.objs.extract 0 n).size = n
  simp only [Array.size_extract, Nat.sub_zero]
  exact Nat.min_eq_left hn
theorem cutH_get {n : Nat} {h : Heap} {b : Addr} (hb : b < n) : (cutH n h).get? b = h.get? b := by
  unfold Heap.get? cutH
  have e : (h.objs.extract 0 n)[b]? = h.objs[b]? := by
    rw [Array.getElem?_extract]
    by_cases q : b < h.objs.size
    · rw [if_pos (by rw [Nat.sub_zero]; exact Nat.lt_min.mpr ⟨hb, q⟩), Nat.zero_add]
    · rw [if_neg (fun z => q (Nat.lt_of_lt_of_le z (by rw [Nat.sub_zero]; exact Nat.min_le_right _ _))), Array.getElem?_eq_none (Nat.le_of_not_lt q)]
  simp only [e]
theorem cutH_of {n : Nat} {h : Heap} {b : Addr} {o : Obj} (hn : n ≤ h.objs.size) (e : (cutH n h).get? b = some o) : b < n ∧ h.get? b = some o := by
  have l := Heap.lt_size e
  rw [cutH_size hn] at l
  exact ⟨l, by rw [← cutH_get l]; exact e⟩
def cutS (n : Nat) (s : Shared) : Shared := { s with heap := cutH n s.heap }
/-- how a segment leaves things, against its anchor -/
structure Ret (Z : Gz) (a : An) (H : Hp) (s : Shared) : Prop where
  os : s.os = Z.os
  bare : AllBare s.gens
  un : Un (frs Z.outer) [] a.H H a.s.heap s.heap
  hok : HOk Z.P Z.w H s.heap
  pin : ∀ p ∈ (Z.ag, Z.go) :: a.pn, s.heap.get? p.1 = some p.2 ∧ H p.1 = none
  base : ∀ b o, Z.base.get? b = some o → s.heap.get? b = some o ∧ H b = none
structure AnOk (Z : Gz) (a : An) : Prop where
  sz : a.s.heap.objs.size = Z.n
  os : a.s.os = Z.os
  pa : a.pn.map (·.1) = Z.pa
theorem ret_of {Z : Gz} {a : An} (oa : AnOk Z a) {ip : List (Addr × Obj)} {σ : L2.St} {H : Hp} {s : Shared} (I : Inv (Z.cx a) ip σ H s) : Ret Z a H s :=
  ⟨I.os.trans oa.os, I.bare, I.base, I.hok, fun p hp => let z := I.pin p (List.mem_append_left _ hp); ⟨z.1, z.2.1⟩, fun b o e => I.bs b o e⟩
/-- what the consumer gives when it wakes the generator; ks: what must be as it was -/
structure Woke (Z : Gz) (ks : List (Addr × Obj)) (H : Hp) (pc : List (Addr × Obj)) (s : Shared) : Prop where
  os : s.os = Z.os
  bare : AllBare s.gens
  bs : ∀ b o, Z.base.get? b = some o → s.heap.get? b = some o ∧ H b = none
  funs : s.heap.FunFrames Z.base Z.outer
  frf : ∀ b ∈ frs Z.outer, H b = none
  hok : HOk Z.P Z.w H s.heap
  ks : ∀ p ∈ ks, s.heap.get? p.1 = some p.2 ∧ H p.1 = none
  pa : pc.map (·.1) = Z.pa
  pc : ∀ p ∈ pc, s.heap.get? p.1 = some p.2 ∧ H p.1 = none ∧ p.1 ∉ frs Z.outer ∧ ∀ v, p.2.data ≠ .cell v
/-- what sleeps -/
structure KsOk (Z : Gz) (ks : List (Addr × Obj)) (H : Hp) (s : Shared) : Prop where
  at_ : ∀ p ∈ ks, s.heap.get? p.1 = some p.2 ∧ H p.1 = none ∧ Z.n ≤ p.1 ∧ p.1 ∉ Z.pa ∧ ∀ v, p.2.data ≠ .cell v
  ag : (Z.ag, Z.go) ∈ ks
def PhiW (Z : Gz) (Sl : Nat → GenState → List (Addr × Obj) → Hp → Prop) (a : An) : End → Shared → Prop :=
  PhiOf (fun s => ∃ H, Ret Z a H s ∧ Z.J.fin a.i a.H H)
    (fun e s => CX Z.P Z.w Z.outer a.H a.s (Z.Ex a) e s ∧ ∀ p ∈ (Z.ag, Z.go) :: a.pn, s.heap.get? p.1 = some p.2)
    (fun v gs s => (∃ k l c p fs cl, gs = .suspended k l c p fs cl) ∧ ∃ x H ks, RelV x v ∧ Ret Z a H s ∧ Z.J.yld a.i a.H x H ∧ KsOk Z ks H s ∧ Sl (a.i + 1) gs ks H)
def Gz.Slp (Z : Gz) : Nat → Nat → GenState → List (Addr × Obj) → Hp → Prop
  | 0 => fun _ _ _ _ => True
  | n + 1 => fun i gs ks Hs => ∀ (s : Shared) (H : Hp) (pc : List (Addr × Obj)), Woke Z ks H pc s → Z.J.wk i Hs H → GoesG (model Z.P Z.w) Z.A (PhiW Z (Z.Slp n) ⟨i, cutS Z.n s, H, pc⟩) gs (.send .none) s
def Gz.Phi (Z : Gz) (n : Nat) (a : An) : End → Shared → Prop := PhiW Z (Z.Slp n) a
/-- awake again: the body's invariant stands, anchored anew -/
theorem woken0 {Z : Gz} (ok : Z.Ok) {ip : List (Addr × Obj)} {σ : L2.St} {H' : Hp} {s s' : Shared} {lo : Obj} {pc : List (Addr × Obj)} {i : Nat}
    (Il : ∃ m, s.heap.Ns Z.n m ∧ ∀ (i : Nat) (x : Str) (v : V), Z.N[i]? = some x → σ[i]? = some (some v) → Vis Z.env.scope x → ∃ u, RelV v u ∧ Look Z.env s.heap m x u) (In : σ.length = Z.N.length) (hlo : s.heap.get? Z.n = some lo)
    (hip : ∀ p ∈ ip, p.1 ∉ Z.pa ∧ Z.n < p.1 ∧ ∀ v, p.2.data ≠ .cell v) (W : Woke Z ((Z.n, lo) :: (Z.ag, Z.go) :: ip) H' pc s') : Inv (Z.cx ⟨i, cutS Z.n s', H', pc⟩) ip σ H' s' := by
  have hL := W.ks (Z.n, lo) List.mem_cons_self
  have hsz : Z.n ≤ s'.heap.objs.size := Nat.le_of_lt (Heap.lt_size hL.1)
  have csz : (cutS Z.n s').heap.objs.size = Z.n := cutH_size hsz
  have nofr : ∀ b, Z.n ≤ b → b ∉ frs Z.outer := fun b hb hm => absurd (Nat.lt_of_lt_of_le (ok.frl b hm) hb) (Nat.lt_irrefl _)
  have noc : ∀ (x : Str) (c : Addr), Z.env.cells.lookup x ≠ some c := fun x c e => by rw [ok.cells] at e; cases e
  have cfr : ∀ l : List Env, (∀ b ∈ frs l, b < Z.n) → s'.heap.FunFrames Z.base l → (cutS Z.n s').heap.FunFrames Z.base l := by
    intro l
    induction l with
    | nil => intro _ _; trivial
    | cons env r ih =>
      intro hs hl
      obtain ⟨hk, ⟨L, o, hf, hn, ho, hd⟩, hr⟩ := hl
      have hLl : L < Z.n := hs L (by unfold frs; rw [List.filterMap_cons, hf]; exact List.mem_cons_self)
      exact ⟨hk, ⟨L, o, hf, hn, by show (cutH Z.n s'.heap).get? L = _; rw [cutH_get hLl]; exact ho, hd⟩, ih (fun b hb => hs b (by unfold frs; rw [List.filterMap_cons, hf]; exact List.mem_cons_of_mem _ hb)) hr⟩
  refine ⟨⟨ok.mod, ok.kind, rfl, rfl, Nat.le_of_eq csz, fun x y c h1 _ => absurd h1 (noc x c), fun x hx => ?_, fun x c _ h => absurd h (noc x c), fun _ => ok.hd, Around.frames_deeper ok.frames, .inr ⟨rfl, rfl⟩, fun b hb => absurd (show b ∈ ([] : List Addr) from hb) (by simp),
      fun b o e => ⟨?_, (W.bs b o e).2⟩, Nat.le_trans ok.bsz (Nat.le_of_eq csz.symm), fun b o _ hb => absurd (show b ∈ ([] : List Addr) from hb) (by simp), fun b hb => absurd (show b ∈ ([] : List Addr) from hb) (by simp), cfr _ ok.frl W.funs, W.frf⟩,
    rfl, W.bare, ?_, ?_, fun x c h => absurd h (noc x c), hL.2, fun x c h => absurd h (noc x c), fun p hp => ?_, W.hok, In⟩
  · have hx : Z.scope.names.lookup x = some .cell ∨ Z.scope.names.lookup x = some .free := hx
    rcases hx with hx | hx
    · exact absurd rfl (ok.loc x _ hx).1
    · exact absurd rfl (ok.loc x _ hx).2
  · have l : b < Z.n := Nat.lt_of_lt_of_le (Heap.lt_size e) ok.bsz
    show (cutH Z.n s'.heap).get? b = _
    rw [cutH_get l]
    exact (W.bs b o e).1
  · show Un (frs Z.outer) [] H' H' (cutH Z.n s'.heap) s'.heap
    exact Un.kept fun b u q => (cutH_of hsz q).2
  · obtain ⟨m, hn, hl⟩ := Il
    have hn : s.heap.Ns Z.n m := hn
    have hn' : s'.heap.Ns Z.n m := by
      obtain ⟨o, es, ep, ho, r⟩ := hn
      rw [hlo] at ho
      cases ho
      exact ⟨lo, es, ep, hL.1, r⟩
    refine ⟨m, hn', fun j x v h1 h2 h3 => ?_⟩
    obtain ⟨u, ru, q⟩ := hl j x v h1 h2 h3
    refine ⟨u, ru, ?_⟩
    rcases q with ⟨k, e⟩ | ⟨_, c, e, _⟩
    · exact .inl ⟨k, e⟩
    · exact absurd e (noc x c)
  · have hp : p ∈ ((Z.ag, Z.go) :: pc) ++ ip := hp
    rcases List.mem_append.mp hp with hp | hp
    · rcases List.mem_cons.mp hp with rfl | hp
      · have q := W.ks (Z.ag, Z.go) (List.mem_cons_of_mem _ List.mem_cons_self)
        exact ⟨q.1, q.2, Nat.ne_of_gt ok.agn, nofr _ (Nat.le_of_lt ok.agn), ok.notCell⟩
      · obtain ⟨h1, h2, h3, h4⟩ := W.pc p hp
        refine ⟨h1, h2, fun e => ?_, h3, h4⟩
        have e : p.1 = Z.n := e
        exact ok.npa (by rw [← e, ← W.pa]; exact List.mem_map.mpr ⟨p, hp, rfl⟩)
    · have q := W.ks p (List.mem_cons_of_mem _ (List.mem_cons_of_mem _ hp))
      have h2 := (hip p hp).2.1
      exact ⟨q.1, q.2, Nat.ne_of_gt h2, nofr _ (Nat.le_of_lt h2), (hip p hp).2.2⟩
theorem woken {Z : Gz} (ok : Z.Ok) {a : An} {ip : List (Addr × Obj)} {σ : L2.St} {H H' : Hp} {s s' : Shared} {lo : Obj} {pc : List (Addr × Obj)} {i : Nat} (I : Inv (Z.cx a) ip σ H s) (hlo : s.heap.get? Z.n = some lo)
    (hip : ∀ p ∈ ip, p.1 ∉ Z.pa ∧ Z.n < p.1) (W : Woke Z ((Z.n, lo) :: (Z.ag, Z.go) :: ip) H' pc s') : Inv (Z.cx ⟨i, cutS Z.n s', H', pc⟩) ip σ H' s' :=
  woken0 ok I.loc I.len hlo (fun p hp => ⟨(hip p hp).1, (hip p hp).2, (I.pin p (List.mem_append_right _ hp)).2.2.2.2⟩) W
theorem anOk_cut {Z : Gz} {ks : List (Addr × Obj)} {H' : Hp} {s' : Shared} {lo : Obj} {pc : List (Addr × Obj)} {i : Nat} (W : Woke Z ((Z.n, lo) :: ks) H' pc s') : AnOk Z ⟨i, cutS Z.n s', H', pc⟩ :=
  ⟨cutH_size (Nat.le_of_lt (Heap.lt_size (W.ks (Z.n, lo) List.mem_cons_self).1)), W.os, W.pa⟩
/-- what is wanted behind a statement of a generator -/
structure GE where
  nx : An → L2.St → Hp → Prop
  rt : An → V → Hp → Prop
  bk : An → L2.St → Hp → Prop := fun _ _ _ => False
  ct : An → L2.St → Hp → Prop := fun _ _ _ => False
abbrev TG2 := GE → An → L2.St → Hp → Prop
def GE.at (D : GE) (a : An) : Ends := { nx := D.nx a, rt := D.rt a, bk := D.bk a, ct := D.ct a }
structure GC2 (Z : Gz) (ip : List (Addr × Obj)) (c : Code) (fs : List Frame) (gd : Bool → Bool) : Prop where
  ok : Z.Ok
  ip : ∀ p ∈ ip, p.1 ∉ Z.pa ∧ Z.n < p.1
  over : Z.A.over c fs = Z.A.deeper Z.env
  split : splitAtGen fs = none
  guard : fs.any Frame.guarded = false
  gd : gd false = false
structure GK2 (Z : Gz) (ip : List (Addr × Obj)) (c : Code) (fs : List Frame) (Kc : Flow → Sem PySem.Fin) (Jc : Value → Sem PySem.Fin) (D : GE) : Prop where
  ok : ∀ (n : Nat) (a : An) (s : Shared) (f : Flow), AnOk Z a → SP (Z.cx a) ip (D.at a) f s → SegG (model Z.P Z.w) Z.A (Z.Phi n a) c (Kc f) fs s
  exc : ∀ (n : Nat) (a : An) (e : Value) (s : Shared), AnOk Z a → (Z.cx a).xe e s → SegG (model Z.P Z.w) Z.A (Z.Phi n a) c (Jc e) fs s
structure GS2 (Z : Gz) (st : Stmt) (t : TG2) : Prop where
  run : ∀ (n : Nat) (ip : List (Addr × Obj)) (c : Code) (fs : List Frame) (Kc : Flow → Sem PySem.Fin) (Jc : Value → Sem PySem.Fin) (gd : Bool → Bool) (lv : List Value → List Value) (a : An) (s : Shared) (σ : L2.St) (H : Hp) (D : GE),
    GC2 Z ip c fs gd → GK2 Z ip c fs Kc Jc D → AnOk Z a → Inv (Z.cx a) ip σ H s → t D a σ H → SegG (model Z.P Z.w) Z.A (Z.Phi n a) c ((exec st Z.env).wrap Kc Jc gd lv) fs s
structure GSs2 (Z : Gz) (st : List Stmt) (t : TG2) : Prop where
  run : ∀ (n : Nat) (ip : List (Addr × Obj)) (c : Code) (fs : List Frame) (Kc : Flow → Sem PySem.Fin) (Jc : Value → Sem PySem.Fin) (gd : Bool → Bool) (lv : List Value → List Value) (a : An) (s : Shared) (σ : L2.St) (H : Hp) (D : GE),
    GC2 Z ip c fs gd → GK2 Z ip c fs Kc Jc D → AnOk Z a → Inv (Z.cx a) ip σ H s → t D a σ H → SegG (model Z.P Z.w) Z.A (Z.Phi n a) c ((execs st Z.env).wrap Kc Jc gd lv) fs s
section
variable {Z : Gz} {st : Stmt} {rest : List Stmt} {pos yp : Pos}
def tPl (t : An → TS) : TG2 := fun D a σ H => t a (D.at a) σ H
def t2Nil : TG2 := fun D a σ H => D.nx a σ H
theorem g2s_nil : GSs2 Z [] t2Nil :=
  ⟨fun n ip c fs Kc Jc gd lv a s σ H D g k oa I ht => k.ok n a s .next oa ⟨σ, H, I, ht⟩⟩
def t2Then (t u : TG2) : TG2 := fun D a σ H => t { D with nx := fun a' σ' H' => u D a' σ' H' } a σ H
theorem g2s_cons {t u : TG2} (h1 : GS2 Z st t) (h2 : GSs2 Z rest u) : GSs2 Z (st :: rest) (t2Then t u) := by
  refine ⟨fun n ip c fs Kc Jc gd lv a s σ H D g k oa I ht => ?_⟩
  rw [execs_cons_wrap]
  refine h1.run n ip c fs _ Jc gd lv a s σ H { D with nx := fun a' σ' H' => u D a' σ' H' } g ⟨fun n' a' s' f oa' hs => ?_, k.exc⟩ oa I ht
  cases f with
  | next =>
    obtain ⟨σ', H', I', q⟩ := hs
    exact h2.run n' ip c fs Kc Jc gd lv a' s' σ' H' D g k oa' I' q
  | brk => exact k.ok n' a' s' .brk oa' hs
  | cont => exact k.ok n' a' s' .cont oa' hs
  | ret u => exact k.ok n' a' s' (.ret u) oa' hs
/-! ### yield -/
def t2Y (J : It2) (te : An → TE) : TG2 := fun D a σ H => te a σ H fun x H1 => J.yld a.i a.H x H1 ∧ ∀ s' H' pc, J.wk (a.i + 1) H1 H' → D.nx ⟨a.i + 1, s', H', pc⟩ σ H'
/-- the locals' own object -/
theorem loc_obj {a : An} {ip : List (Addr × Obj)} {σ : L2.St} {H : Hp} {s : Shared} (I : Inv (Z.cx a) ip σ H s) : ∃ lo, s.heap.get? Z.n = some lo ∧ ∀ v, lo.data ≠ .cell v := by
  obtain ⟨m, ⟨o, es, ep, ho, hd, _⟩, _⟩ := I.loc
  exact ⟨o, ho, fun v q => by rw [hd] at q; cases q⟩
/-- it goes to sleep, and may be woken -/
theorem g2_sleep {a : An} {ip : List (Addr × Obj)} {c : Code} {fs : List Frame} {gd : Bool → Bool} {n : Nat} {s : Shared} {σ : L2.St} {H : Hp} {x : V} {v : Value} {k : Resume → Sem PySem.Fin} {g' : Bool} {l' : List Value} {p' : Pos}
    (g : GC2 Z ip c fs gd) (oa : AnOk Z a) (I : Inv (Z.cx a) ip σ H s) (rv : RelV x v) (hy : Z.J.yld a.i a.H x H) (hq : (End.susp v g' l' k c p' fs).quiet = true)
    (hk : ∀ (n' : Nat) (a' : An) (s' : Shared), AnOk Z a' → a'.i = a.i + 1 → Z.J.wk (a.i + 1) H a'.H → Inv (Z.cx a') ip σ a'.H s' → SegG (model Z.P Z.w) Z.A (Z.Phi n' a') c (k (.send .none)) fs s') :
    Z.Phi n a (.susp v g' l' k c p' fs) s := by
  obtain ⟨lo, hlo, hlc⟩ := loc_obj I
  refine ⟨hq, ⟨_, _, _, _, _, _, rfl⟩, x, H, (Z.n, lo) :: (Z.ag, Z.go) :: ip, rv, ret_of oa I, hy, ⟨fun p hp => ?_, List.mem_cons_of_mem _ List.mem_cons_self⟩, ?_⟩
  · rcases List.mem_cons.mp hp with rfl | hp
    · exact ⟨hlo, I.free, Nat.le_refl _, g.ok.npa, hlc⟩
    · rcases List.mem_cons.mp hp with rfl | hp
      · have q := I.pin (Z.ag, Z.go) (List.mem_append_left _ List.mem_cons_self)
        exact ⟨q.1, q.2.1, Nat.le_of_lt g.ok.agn, g.ok.apa, g.ok.notCell⟩
      · have q := I.pin p (List.mem_append_right _ hp)
        exact ⟨q.1, q.2.1, Nat.le_of_lt (g.ip p hp).2, (g.ip p hp).1, q.2.2.2.2⟩
  · cases n with
    | zero => trivial
    | succ n =>
      intro s' H' pc W hw
      exact hk n ⟨a.i + 1, cutS Z.n s', H', pc⟩ s' (anOk_cut W) rfl hw (woken g.ok I hlo g.ip W)
/-! ### if -/
def t2If (tc : An → TT) (t u : TG2) : TG2 := fun D a σ H => tc a σ H fun b H1 => if b = true then t D a σ H1 else u D a σ H1
end
end Sg


/-! a for in a generator's body -/
namespace Sg
open PySem PyProof.Rows GenW L2
section
variable {M : Model} {A : Around} {Φ : End → Shared → Prop} {c : Code} {fs : List Frame} {s : Shared} {env : Env}
end
section
variable {prog : Program} {w : World} {A : Around} {Φ : End → Shared → Prop} {fs : List Frame} {s : Shared} {env : Env}
/-- an exception is noted, and leaves the loop's code -/
def noted (env : Env) (x : Value) : Sem PySem.Fin := (do noteFrame x env; theTreesLotGoes x : Sem Unit).wrap (fun _ => .raise x) .raise id id
end
section
variable {Z : Gz}
def t2For (wi : An → TI) (g : An → TG) (tb : TG2) : TG2 := fun D a σ H => wi a σ H fun J H1 => ∃ W : Nat → Nat → An → L2.St → Hp → Prop, (∃ m, W 0 m a σ H1) ∧ ∀ i m a σ H, W i m a σ H →
  (J.stop i H ∧ D.nx a σ H) ∨ (J.go i H ∧ ∃ N : An → L2.St → Hp → Prop, (∀ a' σ' H', N a' σ' H' → ∃ m', m' < m ∧ W (i + 1) m' a' σ' H') ∧
    ∀ x H', J.yld i H x H' → g a x σ H' fun σ2 H2 => tb { D with nx := N, ct := N, bk := D.nx } a σ2 H2)
end
end Sg


/-! yield from of a list, in a generator whose consumer runs code between the yields -/
namespace Sg
open PySem PyProof.Rows GenW L2
section
variable {prog : Program} {w : World} {A : Around} {E : Value → Shared → Prop} {s : Shared}
theorem special_lst_item {it l : Addr} {i : Nat} {items : Array Value} {x : Value} {Q : Option Value → Shared → Prop} (hit : s.heap.IsListIter it l i) (hl : s.heap.IsList l items) (hx : items[i]? = some x)
    (hQ : ∀ h', h'.IsListIter it l (i + 1) → Heap.SameBut it s.heap h' → Q (some x) { s with heap := h' }) : wpAny (model prog w) A (callSpecial? (.ref it) "__next__") Q E s := by
  obtain ⟨o, ho, hc, hd⟩ := id hit
  obtain ⟨ol, hol, _, nl, hdl⟩ := hl
  refine wpAny_callSpecial?_slot (name := Str.ofString "__next__") hit.typeIs slot_listiter_next (wpAny_call_entry slot_listiter_next hit.typeIs entry_listiter_next ?_ (args_listiter_next _))
  show wpAny _ _ (field (.ref it) 0 >>= _) _ _ s
  refine wpAny_bind (wpAny_field ho hd (x := .ref l) rfl ?_)
  show wpAny _ _ (if (Value.ref l == Value.none) = true then _ else _) _ _ s
  rw [if_neg (show ¬ ((Value.ref l == Value.none) = true) from Bool.false_ne_true)]
  show wpAny _ _ (field (.ref it) 1 >>= _) _ _ s
  refine wpAny_bind (wpAny_field ho hd (x := .int i 0) rfl ?_)
  show wpAny _ _ (seqItems? (.ref l) >>= _) _ _ s
  refine wpAny_bind (wpAny_seqItems hol hdl ?_)
  simp only [Int.toNat_natCast, hx]
  refine wpAny_bind (wpAny_setField ho hd (by simp) (wpAny_pure ⟨x, rfl, hQ _ ?_ (Heap.SameBut.update ..)⟩))
  exact ⟨_, Heap.get?_update_self _ ho (Obj.isFreed_of_fields (Obj.data_mapFields hd _)), (Obj.cls_mapFields ..).trans hc, by
    rw [Obj.data_mapFields hd]; simp [rawInt]⟩
theorem special_lst_end {it l : Addr} {i : Nat} {items : Array Value} {Q : Option Value → Shared → Prop} (hh : A.handled = none) (hit : s.heap.IsListIter it l i) (hl : s.heap.IsList l items) (hx : items[i]? = none)
    (hE : ∀ e h', StopX e h' → Heap.ExtBut it s.heap h' → E e { s with heap := h' }) : wpAny (model prog w) A (callSpecial? (.ref it) "__next__") Q E s := by
  obtain ⟨o, ho, hc, hd⟩ := id hit
  obtain ⟨ol, hol, _, nl, hdl⟩ := hl
  refine wpAny_callSpecial?_slot (name := Str.ofString "__next__") hit.typeIs slot_listiter_next (wpAny_call_entry slot_listiter_next hit.typeIs entry_listiter_next ?_ (args_listiter_next _))
  show wpAny _ _ (field (.ref it) 0 >>= _) _ _ s
  refine wpAny_bind (wpAny_field ho hd (x := .ref l) rfl ?_)
  show wpAny _ _ (if (Value.ref l == Value.none) = true then _ else _) _ _ s
  rw [if_neg (show ¬ ((Value.ref l == Value.none) = true) from Bool.false_ne_true)]
  show wpAny _ _ (field (.ref it) 1 >>= _) _ _ s
  refine wpAny_bind (wpAny_field ho hd (x := .int i 0) rfl ?_)
  show wpAny _ _ (seqItems? (.ref l) >>= _) _ _ s
  refine wpAny_bind (wpAny_seqItems hol hdl ?_)
  simp only [Int.toNat_natCast, hx]
  refine wpAny_bind (wpAny_rule (wpAny_bind (wpAny_setField ho hd (by simp) ?_)))
  show wpAny _ _ (newExc (.type "StopIteration") [] >>= _) _ _ _
  refine wpAny_bind ?_
  simp only [newExc, newTuple]
  refine wpAny_bind (wpAny_newObj_type ?_ (by size_fits))
  refine wpAny_bind (m := firstArgMember _ _) (wpAny_of_eq (a := Value.none) (by first | rfl | (simp only [firstArgMember]; rfl)) ?_)
  refine wpAny_newObj_type ?_ (by size_fits)
  simp only [raiseNew]
  refine wpAny_bind (wpAny_handled ?_)
  first | rw [show A.in1.handled = none from hh] | rw [hh]
  refine wpAny_bind (wpAny_pure (wpAny_throw ?_))
  refine hE _ _ ⟨_, _, _, rfl, Heap.get?_push_size _ rfl, rfl, rfl, ?_⟩ (((Heap.SameBut.update ..).extBut.push _).push _)
  first
    | rfl
    | (rw [Array.getElem?_append_left (by decide)]; rfl)
    | kernel_rfl
end
theorem close_lst : typeLookup (.type "list_iterator") "close" = pure none := by rw [typeLookup_type, builtinLookup_eq_fast]; kernel_rfl
section
variable {M : Model} {A : Around} {Φ : End → Shared → Prop} {c : Code} {fs : List Frame} {s : Shared}
theorem sgw_bind2 {α β γ : Type} {m : Sem α} {f : α → Sem β} {f2 : β → Sem γ} {K : γ → Sem PySem.Fin} {J : Value → Sem PySem.Fin} {gd : Bool → Bool} {lv : List Value → List Value}
    (h : wpAny M (A.over c fs) m (fun a s' => SegG M A Φ c ((f a).wrap (fun b => (f2 b).wrap K J gd lv) J gd lv) fs s') (fun x s' => SegG M A Φ c (J x) fs s') s) :
    SegG M A Φ c (((m >>= f) >>= f2).wrap K J gd lv) fs s := by
  rw [Sem.bind_eq_wrap' (m >>= f) f2, Sem.wrap_wrap]
  exact sg_bindw h
end
section
variable {Z : Gz} {pos yp : Pos}
theorem den_yf2 {it : Value} : (model Z.P Z.w).den (.builtin "proto.yield_from" ⟨[it, .bool false, .none], []⟩) = Builtin.«proto.yield_from» ⟨[it, .bool false, .none], []⟩ := by
  show (match entryFor table "proto.yield_from" with | some b => b ⟨[it, .bool false, .none], []⟩ | none => unsupported ((withoutEnding? "proto.yield_from" "#data").getD "proto.yield_from")) = _
  rw [entry_yf]
/-- g2_sleep, of any code -/
theorem g2_sleepY {a : An} {ip : List (Addr × Obj)} {c : Code} {fs : List Frame} {n : Nat} {s : Shared} {σ : L2.St} {H : Hp} {x : V} {v : Value} {k : Resume → Sem PySem.Fin} {g' : Bool} {l' : List Value} {p' : Pos}
    (ok : Z.Ok) (gip : ∀ p ∈ ip, p.1 ∉ Z.pa ∧ Z.n < p.1) (oa : AnOk Z a) (I : Inv (Z.cx a) ip σ H s) (rv : RelV x v) (hy : Z.J.yld a.i a.H x H) (hq : (End.susp v g' l' k c p' fs).quiet = true)
    (hk : ∀ (n' : Nat) (a' : An) (s' : Shared), AnOk Z a' → a'.i = a.i + 1 → Z.J.wk (a.i + 1) H a'.H → (∀ p ∈ ip, s'.heap.get? p.1 = some p.2) → Inv (Z.cx a') ip σ a'.H s' → SegG (model Z.P Z.w) Z.A (Z.Phi n' a') c (k (.send .none)) fs s') :
    Z.Phi n a (.susp v g' l' k c p' fs) s := by
  obtain ⟨lo, hlo, hlc⟩ := loc_obj I
  refine ⟨hq, ⟨_, _, _, _, _, _, rfl⟩, x, H, (Z.n, lo) :: (Z.ag, Z.go) :: ip, rv, ret_of oa I, hy, ⟨fun p hp => ?_, List.mem_cons_of_mem _ List.mem_cons_self⟩, ?_⟩
  · rcases List.mem_cons.mp hp with rfl | hp
    · exact ⟨hlo, I.free, Nat.le_refl _, ok.npa, hlc⟩
    · rcases List.mem_cons.mp hp with rfl | hp
      · have q := I.pin (Z.ag, Z.go) (List.mem_append_left _ List.mem_cons_self)
        exact ⟨q.1, q.2.1, Nat.le_of_lt ok.agn, ok.apa, ok.notCell⟩
      · have q := I.pin p (List.mem_append_right _ hp)
        exact ⟨q.1, q.2.1, Nat.le_of_lt (gip p hp).2, (gip p hp).1, q.2.2.2.2⟩
  · cases n with
    | zero => trivial
    | succ n =>
      intro s' H' pc W hw
      exact hk n ⟨a.i + 1, cutS Z.n s', H', pc⟩ s' (anOk_cut W) rfl hw (fun p hp => (W.ks p (List.mem_cons_of_mem _ (List.mem_cons_of_mem _ hp))).1) (woken ok I hlo gip W)
/-- the turns of a yield from -/
theorem sg_yf (ok : Z.Ok) {ip : List (Addr × Obj)} (gip : ∀ p ∈ ip, p.1 ∉ Z.pa ∧ Z.n < p.1) {fs : List Frame} {it b : Addr} {xs : List V} {W : Nat → An → Hp → Prop} {σ : L2.St}
    (hh : (Z.A.over (.builtin "proto.yield_from" ⟨[.ref it, .bool false, .none], []⟩) fs).handled = none) (hsp : splitAtGen fs = none) (hgd : fs.any Frame.guarded = false)
    (hst : it ∉ Z.pa ∧ Z.n < it ∧ Z.ag ≠ it ∧ it ∉ frs Z.outer ∧ ∀ p ∈ ip, p.1 ≠ it)
    (turn : ∀ i a H, W i a H → SqL Z.K H b xs ∧ ∀ x, xs[i]? = some x → Z.J.yld a.i a.H x H ∧ ∀ s' H' pc, Z.J.wk (a.i + 1) H H' → W (i + 1) ⟨a.i + 1, s', H', pc⟩ H')
    (hend : ∀ (n : Nat) (a : An) (s : Shared) (H : Hp), AnOk Z a → Inv (Z.cx a) ip σ H s → W xs.length a H → SegG (model Z.P Z.w) Z.A (Z.Phi n a) (.builtin "proto.yield_from" ⟨[.ref it, .bool false, .none], []⟩) (.pure (.done (.ret .none))) fs s) :
    ∀ (r j n : Nat) (a : An) (s : Shared) (H : Hp), j + r = xs.length → AnOk Z a → Inv (Z.cx a) ip σ H s → s.heap.IsListIter it b j → H it = none → W j a H →
      SegG (model Z.P Z.w) Z.A (Z.Phi n a) (.builtin "proto.yield_from" ⟨[.ref it, .bool false, .none], []⟩) ((model Z.P Z.w).den (.builtin "proto.yield_from" ⟨[.ref it, .bool false, .none], []⟩)) fs s := by
  have noc : ∀ (x : Str) (c : Addr), Z.env.cells.lookup x ≠ some c := fun x c e => by rw [ok.cells] at e; cases e
  obtain ⟨h1, h2, h3, h4, h5⟩ := hst
  have hpi : ∀ {a : An}, AnOk Z a → ∀ p ∈ (Z.cx a).pn ++ ip, p.1 ≠ it := fun {a} oa p hp => by
    have hp : p ∈ ((Z.ag, Z.go) :: a.pn) ++ ip := hp
    rcases List.mem_append.mp hp with hp | hp
    · rcases List.mem_cons.mp hp with rfl | hp
      · exact h3
      · exact fun e => h1 (by rw [← e, ← oa.pa]; exact List.mem_map.mpr ⟨p, hp, rfl⟩)
    · exact h5 p hp
  have turned : ∀ {a : An} {s : Shared} {H : Hp} {h' : Heap}, AnOk Z a → Inv (Z.cx a) ip σ H s → H it = none → (∀ b o, b ≠ it → s.heap.get? b = some o → h'.get? b = some o) → Inv (Z.cx a) ip σ H { s with heap := h' } := fun {a s H h'} oa I hn hk =>
    I.turned (t' := s.toks) hk hn (Nat.ne_of_gt h2) (.inr (by show a.s.heap.objs.size ≤ it; rw [oa.sz]; exact Nat.le_of_lt h2)) (fun x c e => absurd e (noc x c)) (hpi oa)
  intro r
  induction r with
  | zero =>
    intro j n a s H hj oa I hit hn w
    have hj' : j = xs.length := by omega
    subst hj'
    obtain ⟨its, rv, p, hz⟩ := I.list (turn _ a H w).1
    have hl := rv.length
    rw [den_yf2]
    unfold Builtin.«proto.yield_from»
    try dsimp only
    refine sg_bind (wpAny_pure ?_)
    try dsimp only
    refine sg_bind (wpAny_attempt (wpAny_holding ?_))
    rw [if_neg Bool.false_ne_true, if_pos (show (Value.none == Value.none) = true from rfl)]
    refine wpAny_bind (wpAny_rule (wpAny_bind ?_))
    refine special_lst_end hh hit p.isList (by simp; omega) fun e h' hS hk => ?_
    obtain ⟨a2, o, vs, rfl, hoa, hcls, hdat, h5⟩ := hS
    try dsimp only
    refine sg_bind (wpAny_endsTurn hoa hcls ?_)
    try dsimp only
    rw [if_pos rfl]
    first
      | refine sg_bind (wpAny_rule ?_)
      | (rw [if_neg Bool.false_ne_true]; refine sg_bind (wpAny_rule ?_))
      | (rw [if_neg Bool.false_ne_true]; refine sg_bind (wpAny_pure ?_); refine sg_bind (wpAny_rule ?_))
    refine sg_bind (wpAny_field hoa hdat h5 ?_)
    exact hend n a _ H oa (turned oa I hn fun b o hb eb => hk b o hb eb) w
  | succ r ih =>
    intro j n a s H hj oa I hit hn w
    have hjl : j < xs.length := by omega
    obtain ⟨x, hx⟩ : ∃ x, xs[j]? = some x := ⟨xs[j], List.getElem?_eq_getElem hjl⟩
    obtain ⟨hq, step⟩ := turn _ a H w
    obtain ⟨hy, next⟩ := step x hx
    obtain ⟨its, rv, p, hz⟩ := I.list hq
    obtain ⟨u, hu, ru⟩ := rv.get hx
    rw [den_yf2]
    unfold Builtin.«proto.yield_from»
    try dsimp only
    refine sg_bind (wpAny_pure ?_)
    try dsimp only
    refine sg_bind (wpAny_attempt (wpAny_holding ?_))
    rw [if_neg Bool.false_ne_true, if_pos (show (Value.none == Value.none) = true from rfl)]
    refine wpAny_bind (wpAny_rule (wpAny_bind ?_))
    refine special_lst_item hit p.isList (x := u) (by simpa using hu) fun h' hit' sb => ?_
    have I1 := turned oa I hn (h' := h') fun b o hb e => (sb.2 b hb).trans e
    obtain ⟨oi, hoi, hoc, hod⟩ := id hit'
    refine wpAny_pure ?_
    try dsimp only
    refine sg_bind (wpAny_typeOf (T := "list_iterator") ⟨oi, hoi, hoc⟩ ?_)
    try dsimp only
    first
      | (refine sg_bind (wpAny_of_eq close_lst ?_); refine sg_bind (wpAny_pure ?_))
      | refine sg_bind (wpAny_bind (wpAny_of_eq close_lst (wpAny_pure ?_)))
      | refine sg_bind (wpAny_of_eq close_lst ?_)
    try dsimp only
    refine sg_bind (wpAny_sleptOver hoi hoc (by decide) ?_)
    have fo : ∀ b ∈ [it], FpOk (Z.cx a) ip H b := fun b hb => by
      obtain rfl : b = it := by simpa using hb
      exact ⟨hn, Nat.ne_of_gt h2, h4, .inr (by show a.s.heap.objs.size ≤ b; rw [oa.sz]; exact Nat.le_of_lt h2), fun x c e => absurd e (noc x c), hpi oa⟩
    have I2 := I1.pinned (fp := [it]) fo fun b hb => by
      obtain rfl : b = it := by simpa using hb
      exact ⟨oi, hoi, fun v q => by rw [hod] at q; cases q⟩
    refine sg_yield hsp rfl hgd fun g' l' p' hqq => ?_
    refine g2_sleepY ok (ip := ip ++ pinsAt [it] h') (fun q hq => ?_) oa I2 ru hy hqq fun n' a' s'' oa' hi' hw hpp I' => ?_
    · rcases List.mem_append.mp hq with hq | hq
      · exact gip q hq
      · obtain ⟨z, _⟩ := of_pinsAt hq
        have z : q.1 = it := by simpa using z
        rw [z]; exact ⟨h1, h2⟩
    · have ep : (it, oi) ∈ ip ++ pinsAt [it] h' := List.mem_append_right _ (mem_pinsAt (by simp) hoi)
      have e2 : s''.heap.get? it = some oi := hpp _ ep
      have n2 : a'.H it = none := (I'.pin (it, oi) (List.mem_append_right _ ep)).2.1
      show SegG _ _ _ _ (Builtin.Generator.sleptOver (.ref it) false >>= fun _ => _) fs s''
      refine sg_bind (wpAny_sleptOver e2 hoc (by decide) ?_)
      try dsimp only
      refine sg_bind (wpAny_pure ?_)
      obtain ⟨i', s0', H0', pn'⟩ := a'
      cases hi'
      exact sg_again (plainId_quiet plain_yf _) (ih (j + 1) n' _ s'' H0' (by omega) oa' I'.unpinned ⟨oi, e2, hoc, hod⟩ n2 (next s0' H0' pn' hw))
def t2From (Z : Gz) (te : An → TE) : TG2 := fun D a σ H => te a σ H fun x H1 => ∃ b xs, x = .ref b ∧ ∃ W : Nat → An → Hp → Prop, W 0 a H1 ∧ ∀ i a H, W i a H →
  SqL Z.K H b xs ∧ (∀ x, xs[i]? = some x → Z.J.yld a.i a.H x H ∧ ∀ s' H' pc, Z.J.wk (a.i + 1) H H' → W (i + 1) ⟨a.i + 1, s', H', pc⟩ H') ∧ (i = xs.length → D.nx a σ H)
theorem g2_yieldFrom {e : Expr} {te : An → TE} (he : ∀ a, PE (Z.cx a) e (te a)) (hi : interactive Z.env = false := by rfl) : GS2 Z (.Expr (.YieldFrom e yp) pos) (t2From Z te) := by
  refine ⟨fun n ip c fs Kc Jc gd lv a s σ H D g k oa I ht => ?_⟩
  rw [exec_Expr Z.env _ pos hi rfl]
  show SegG _ _ _ c (.at pos fun _ => ((eval e Z.env >>= fun v => (standAt yp >>= fun _ => yieldFrom Z.env v)) >>= fun x => dropValue (.YieldFrom e yp) pos x).wrap Kc Jc gd lv) fs s
  refine sg_at ?_
  refine sgw_bind2 ?_
  rw [g.over]
  refine wpAny_mono ((he a).run _ s σ H _ I ht) (fun v s1 hv => ?_) fun x s' hx => k.exc n a x s' oa hx
  obtain ⟨x, H1, I1, r1, b, xs, ex, W, w0, turn⟩ := hv
  subst ex
  obtain rfl : v = Value.ref b := r1
  obtain ⟨its, rv, p, hz⟩ := I1.list (turn 0 a H1 w0).1
  have hT : s1.TypeIs (.ref b) "list" := p.isList.typeIs
  have hne' : ¬ ((Value.type "list" == Value.type "coroutine") = true) := by decide
  refine sg_at ?_
  show SegG _ _ _ _ ((yieldFrom Z.env (.ref b)).wrap (fun y => (dropValue (.YieldFrom e yp) pos y).wrap Kc Jc gd lv) Jc gd lv) fs s1
  unfold yieldFrom
  refine sg_bindw (wpAny_typeOf hT ?_)
  rw [if_neg hne']
  refine sg_bindw (wpAny_holding ?_)
  refine wpAny_pyIter_list p.isList ?_
  have ksz : ∀ b o, s1.heap.get? b = some o → b ≠ s1.heap.objs.size := fun b o e => Nat.ne_of_lt (Heap.lt_size e)
  have kp : ∀ b o, s1.heap.get? b = some o → (s1.heap.push { cls := .type "list_iterator", data := .fields #[.ref b, .int 0 0] }).get? b = some o := fun b o e => Heap.get?_push_of_some _ e
  have I2 := I1.kept (t' := s1.toks) (h' := s1.heap.push { cls := .type "list_iterator", data := .fields #[.ref b, .int 0 0] }) fun b' o e => Heap.get?_push_of_some _ e
  refine sg_call fun p' => ?_
  refine sg_yf g.ok g.ip (xs := xs) (b := b) (W := W) (σ := σ) ?_ ?_ ?_ ?_ (fun i a H w => ⟨(turn i a H w).1, (turn i a H w).2.1⟩) (fun n' a' s' H' oa' I' w' => ?_) xs.length 0 n a _ H1 (Nat.zero_add _) oa I2 ⟨_, Heap.get?_push_size _ rfl, rfl, rfl⟩ (I1.hok.fresh (Nat.le_refl _)) w0
  · show (Z.A.over c fs).handled = none
    rw [g.over]; exact g.ok.hd
  · show (splitAtGen fs).map _ = none
    rw [g.split]; rfl
  · show (gd false || fs.any Frame.guarded) = false
    rw [g.gd, g.guard]; rfl
  · refine ⟨fun z => ?_, I1.lt, ?_, fun z => ?_, fun q hq => ksz q.1 _ (I1.pin q (List.mem_append_right _ hq)).1⟩
    · rw [← oa.pa] at z
      obtain ⟨q, hq, e⟩ := List.mem_map.mp z
      exact ksz q.1 _ (I1.pin q (List.mem_append_left _ (List.mem_cons_of_mem _ hq))).1 e
    · exact ksz Z.ag _ (I1.pin (Z.ag, Z.go) (List.mem_append_left _ List.mem_cons_self)).1
    · have z1 := g.ok.frl _ z
      have z2 : Z.n < s1.heap.objs.size := I1.lt
      exact absurd (Nat.lt_trans z1 z2) (Nat.lt_irrefl _)
  · exact sg_leaf (.ok (.ret .none)) (k.ok n' a' s' .next oa' ⟨σ, H', I', (turn _ a' H' w').2.2 rfl⟩)
end
end Sg


/-! a generator def's promise, by its body -/
namespace Sg
open PySem PyProof.Rows GenW L2
abbrev SpG2 := List V → Hp → (It2 → Prop) → Prop
def mkZ (P : Program) (w : World) (K : PySem.W.Frag) (mg : Str → Option Value) (base : Heap) (N : List Str) (qual : Str) (scope : Scope) (f : Addr) (cd : Value) (n : Nat) (A : Around) (outer : List Env) (os : OsState) (ag : Addr) (g : Nat) (go : Obj) (pa : List Addr) (J : It2) : Gz :=
  ⟨P, w, K, mg, base, N, qual, scope, n, f, cd, A, outer, os, ag, g, go, pa, J⟩
/-- what a call of a generator def gives -/
def GMade2 (P : Program) (w : World) (K : PySem.W.Frag) (mg : Str → Option Value) (base : Heap) (k : Nat) (outer : List Env) (H : Hp) (s : Shared) (C : It2 → Prop) (u : Value) (s' : Shared) : Prop :=
  ∃ (a : Addr) (g : Nat) (c : Code), u = .ref a ∧ s.heap.objs.size < a ∧ a < s'.heap.objs.size ∧ s'.heap.IsGen a g ∧ s'.gens[g]? = some (.fresh c) ∧ s'.os = s.os ∧ AllBare s'.gens ∧ s'.heap.NoLimit ∧ (∀ b o, s.heap.get? b = some o → s'.heap.get? b = some o) ∧
    ∃ (N : List Str) (qual : Str) (scope : Scope) (f : Addr) (cd : Value) (go : Obj) (ks : List (Addr × Obj)), ∀ (A : Around) (pa : List Addr) (J : It2), C J → Room k A → A.frames = some outer → (∀ b ∈ pa, s'.heap.objs.size ≤ b) →
      (mkZ P w K mg base N qual scope f cd s.heap.objs.size A outer s.os a g go pa J).Ok ∧ KsOk (mkZ P w K mg base N qual scope f cd s.heap.objs.size A outer s.os a g go pa J) ks H s' ∧
      ∀ n, (mkZ P w K mg base N qual scope f cd s.heap.objs.size A outer s.os a g go pa J).Slp n 0 (.fresh c) ks H
structure GFn2 (P : Program) (w : World) (K : PySem.W.Frag) (mg : Str → Option Value) (base : Heap) (k : Nat) (f : Addr) (fd : FuncData) (ps : List Str) (sp : SpG2) : Prop where
  len : ∀ vs H C, sp vs H C → vs.length = ps.length
  run : ∀ (A : Around) (outer : List Env) (s : Shared) (H : Hp) (args : Args) (us : List Value) (vs : List V) (C : It2 → Prop), Room k A → Env0 P w K mg base A outer s H → BindsTo s fd args (ps.zip us) → Vals vs us → sp vs H C →
    codeAny (model P w) A (.call (.ref f) args) (fun r s' => match r with | .ok (.ret u) => GMade2 P w K mg base k outer H s C u s' | _ => False) s
theorem cells_nil : ∀ {names : List (Str × NameKind)} {n : Nat}, (∀ y ∈ names, y.2 ≠ .cell) → cellsFrom n names [] = []
  | [], _, _ => rfl
  | (x, k) :: r, n, h => by
    unfold cellsFrom
    rw [if_neg fun z => h (x, k) List.mem_cons_self (by simpa using z)]
    exact cells_nil fun y hy => h y (List.mem_cons_of_mem _ hy)
theorem sg_func {prog : Program} {w : World} {A : Around} {Φ : End → Shared → Prop} {fs : List Frame} {s : Shared} {env : Env} {body : List Stmt}
    (h : SegG (model prog w) A Φ (.func body env) ((execs body env).wrap (fun f => .pure (.done (.ret (match f with | .ret v => v | _ => .none))))
      (fun e => (leaving env e).wrap (fun _ => .raise e) .raise id id) id id) fs s) :
    SegG (model prog w) A Φ (.func body env) ((model prog w).den (.func body env)) fs s := by
  show SegG _ A Φ _ (.point [] fun _ => ((execs body env).onRaise (leaving env)) >>= _) fs s
  refine sg_point ?_
  rw [Sem.onRaise_eq_wrap, Sem.bind_eq_wrap', Sem.wrap_wrap]
  exact (congrArg (fun t => SegG (model prog w) A Φ (.func body env) t fs s) (Sem.wrap_congr (execs body env) id id (fun f => by cases f <;> rfl)
    (fun e => by rw [Sem.bind_eq_wrap, Sem.wrap_wrap]; rfl))).mpr h
/-- THE RULE -/
theorem gfn2_of {P : Program} {w : World} {K : PySem.W.Frag} {mg : Str → Option Value} {base : Heap} {k : Nat} {f : Addr} {name qual : Str} {params : Arguments} {body : List Stmt} {scope : Scope} {dV kV doc pm cdv ct oc : Value} {an od : Option Addr}
    {osl : Array (Option Value)} {N ps : List Str} {sp : SpG2} (lk : K.lookup f = some ⟨oc, od, .func (PySem.W.fnOf name qual params body scope dV kV doc pm an cdv ct), osl⟩) (hcd : PySem.W.codeIn K cdv qual = true) (S : GScope N ps scope) (nc : ∀ y ∈ scope.names, y.2 ≠ .cell)
    (len : ∀ vs H C, sp vs H C → vs.length = ps.length)
    (hbody : ∀ (n : Nat) (A : Around) (outer : List Env) (os : OsState) (ag : Addr) (g : Nat) (go : Obj) (pa : List Addr) (J : It2) (vs : List V) (H : Hp) (C : It2 → Prop), Room k (A.deeper (envOfC qual scope n f cdv)) → sp vs H C → C J →
      ∃ t : TG2, GSs2 (mkZ P w K mg base N qual scope f cdv n A outer os ag g go pa J) body t ∧
        ∀ s' H' pc, J.wk 0 H H' → t { nx := fun a _ H1 => J.fin a.i a.H H1, rt := fun a v H1 => v = .non ∧ J.fin a.i a.H H1 } ⟨0, s', H', pc⟩ (start N vs) H') :
    GFn2 P w K mg base (k + 1) f (PySem.W.fnOf name qual params body scope dV kV doc pm an cdv ct) ps sp := by
  refine ⟨len, fun A outer s H args us vs C hr e0 hb r hsp => ?_⟩
  have hl := len _ _ _ hsp
  have KX : K.In s.heap := e0.mod.kin.keeps fun b o e => (e0.bs b o e).1
  have lim : s.heap.NoLimit := e0.mod.nolimit.keeps fun b o e => (e0.bs b o e).1
  have hkind : ∀ y ∈ ps.zip us, scope.names.lookup y.1 = some .local ∨ (scope.names.lookup y.1 = some .cell ∧ ((cellsFrom (s.heap.objs.size + 1) scope.names []).lookup y.1).isSome = true) := fun ⟨n, v⟩ hy => by
    rcases S.par n (List.of_mem_zip hy).1 with q | q
    · exact .inl q
    · exact .inr ⟨q, PySem.W.cellsFrom_some _ _ _ (.inl q)⟩
  refine codeAny_call_generator hr.depth (KX _ _ lk) rfl S.co S.gen rfl (PySem.W.codeRec_of KX hcd) (hb _ _ _ _ ?_)
  refine wpAny_newFunctionEnv_cells S.kind hkind fun env he s1 x => ?_
  subst he
  have lim1 : s1.heap.NoLimit := lim.keeps x.toInCall.keep
  refine ⟨lim1, ?_⟩
  obtain ⟨h1, tk, es1, hk1⟩ := x.done
  have os1 : s1.os = s.os := by rw [es1]
  have gen1 : s1.gens = s.gens := by rw [es1]
  have lt1 : s.heap.objs.size < s1.heap.objs.size := x.toInCall.ns.lt
  have sz1 : s.heap.objs.size ≤ s1.heap.objs.size := Nat.le_of_lt lt1
  have kp1 : ∀ b o, s.heap.get? b = some o → s1.heap.get? b = some o := x.toInCall.keep
  have I1 : Inv (gcxOf P w K mg base N qual scope f cdv A outer s H (fun _ _ _ => False) []) [] (start N vs) H s1 := inv_startG S hr.hd e0 hl r x
  have frl : ∀ b ∈ frs outer, b < s.heap.objs.size := fun b hb => by
    obtain ⟨_, o, ho, _⟩ := e0.funs.mem hb
    exact Heap.lt_size ho
  have main : ∀ (go : Obj) (nm qn : Value) (tk2 : Nat), go.cls = .type "generator" → go.data = .fields #[.int s1.gens.size 0, nm, qn] → go.slots = #[] → (∀ h : Heap, (h.push go).get? h.objs.size = some go) →
      GMade2 P w K mg base (k + 1) outer H s C (.ref s1.heap.objs.size) { s1 with gens := s1.gens.push (.fresh (.func body (envOfC qual scope s.heap.objs.size f cdv))), toks := tk2, heap := s1.heap.push go } := by
    intro go nm qn tk2 hgc hgd0 hgs hgp
    have hgen : ∀ h : Heap, h.get? s1.heap.objs.size = some go → h.IsGen s1.heap.objs.size s1.gens.size := fun h e => ⟨go, nm, qn, e, hgc, hgd0, hgs⟩
    have hpushed : (s1.heap.push go).get? s1.heap.objs.size = some go := hgp _
    have hgdc : ∀ v, go.data ≠ .cell v := fun v q => by rw [hgd0] at q; cases q
    obtain ⟨m, ⟨lo, es, ep, hlo, hld, hlr⟩, hlk⟩ := I1.loc
    have hlo : s1.heap.get? s.heap.objs.size = some lo := hlo
    have hlc : ∀ v, lo.data ≠ .cell v := fun v q => by rw [hld] at q; cases q
    have nH : H s.heap.objs.size = none := I1.free
    have nHa : H s1.heap.objs.size = none := I1.hok.fresh (Nat.le_refl _)
    refine ⟨s1.heap.objs.size, s1.gens.size, _, rfl, lt1, ?_, hgen _ hpushed, Array.getElem?_push_size .., os1, ?_, lim1.keeps fun b o e => Heap.get?_push_of_some _ e, fun b o e => Heap.get?_push_of_some _ (kp1 b o e), N, qual, scope, f, cdv, go, [(s.heap.objs.size, lo), (s1.heap.objs.size, go)], ?_⟩
    · show _ < (s1.heap.push _).objs.size
      rw [Heap.size_push]; exact Nat.lt_succ_self _
    · exact AllBare.push (by rw [gen1]; exact e0.bare) rfl
    intro Aw pa J hJ hrw hfr hpa
    have hpa : ∀ b ∈ pa, s1.heap.objs.size < b := fun b hb => by
      have z := hpa b hb
      have z : (s1.heap.push go).objs.size ≤ b := z
      rw [Heap.size_push] at z
      exact z
    have npa : s.heap.objs.size ∉ pa := fun z => absurd (Nat.lt_trans lt1 (hpa _ z)) (Nat.lt_irrefl _)
    have apa : s1.heap.objs.size ∉ pa := fun z => absurd (hpa _ z) (Nat.lt_irrefl _)
    have okZ : (mkZ P w K mg base N qual scope f cdv s.heap.objs.size Aw outer s.os s1.heap.objs.size s1.gens.size go pa J).Ok :=
      ⟨hfr, hrw.hd, e0.mod, e0.bsz, frl, S.kind, cells_nil nc, fun x k e => ⟨fun z => nc _ (PySem.mem_of_lookup e) z, fun z => S.nofree _ (PySem.mem_of_lookup e) z⟩, lt1, npa, apa, hgc, ⟨nm, qn, hgd0⟩, hgs⟩
    refine ⟨okZ, ⟨fun p hp => ?_, List.mem_cons_of_mem _ List.mem_cons_self⟩, fun n => ?_⟩
    · rcases List.mem_cons.mp hp with rfl | hp
      · exact ⟨Heap.get?_push_of_some _ hlo, nH, Nat.le_refl _, npa, hlc⟩
      · rcases List.mem_cons.mp hp with rfl | hp
        · exact ⟨hpushed, nHa, sz1, apa, hgdc⟩
        · cases hp
    · cases n with
      | zero => trivial
      | succ n =>
        intro s2 H2 pc W hw
        obtain ⟨t, ht, hq⟩ := hbody s.heap.objs.size Aw outer s.os s1.heap.objs.size s1.gens.size go pa J vs H C (hrw.deeper _) hsp hJ
        have I2 : Inv ((mkZ P w K mg base N qual scope f cdv s.heap.objs.size Aw outer s.os s1.heap.objs.size s1.gens.size go pa J).cx ⟨0, cutS s.heap.objs.size s2, H2, pc⟩) [] (start N vs) H2 s2 :=
          woken0 (Z := mkZ P w K mg base N qual scope f cdv s.heap.objs.size Aw outer s.os s1.heap.objs.size s1.gens.size go pa J) okZ (s := s1) ⟨m, ⟨lo, es, ep, hlo, hld, hlr⟩, hlk⟩ I1.len hlo (fun p hp => by cases hp) W
        have oa := anOk_cut (Z := mkZ P w K mg base N qual scope f cdv s.heap.objs.size Aw outer s.os s1.heap.objs.size s1.gens.size go pa J) (i := 0) W
        refine ⟨rfl, sg_func ?_⟩
        refine ht.run n [] _ [] _ _ id id _ s2 (start N vs) H2 _ ⟨okZ, fun p hp => (by cases hp), over_func, rfl, rfl, rfl⟩ ⟨fun n' a' s' fl oa' hs => ?_, fun n' a' e s' oa' hx => ?_⟩ oa I2 (hq _ H2 pc hw)
        · cases fl with
          | next =>
            obtain ⟨σ', H', hI, hQ⟩ := hs
            exact sg_end (.ok (.ret .none)) ⟨rfl, .inl ⟨.inl rfl, H', ret_of oa' hI, hQ⟩⟩
          | brk => obtain ⟨_, _, _, q⟩ := hs; exact False.elim q
          | cont => obtain ⟨_, _, _, q⟩ := hs; exact False.elim q
          | ret u =>
            obtain ⟨v, σ', H', hI, rv, ev, hQ⟩ := hs
            subst ev
            have eu : u = Value.none := rv
            subst eu
            exact sg_end (.ok (.ret .none)) ⟨rfl, .inl ⟨.inl rfl, H', ret_of oa' hI, hQ⟩⟩
        · refine sg_wrap ?_
          rw [over_func]
          refine wpAny_mono (show wpAny (model P w) (Aw.deeper (envOfC qual scope s.heap.objs.size f cdv)) (leaving (envOfC qual scope s.heap.objs.size f cdv) e) (fun _ s'' => CX P w outer a'.H a'.s (Gz.Ex (mkZ P w K mg base N qual scope f cdv s.heap.objs.size Aw outer s.os s1.heap.objs.size s1.gens.size go pa J) a') e s'' ∧ ∀ p ∈ (s1.heap.objs.size, go) :: a'.pn, s''.heap.get? p.1 = some p.2) (fun _ _ => False) s' from hx) (fun _ s'' q => ?_) fun _ s'' q => q.elim
          exact sg_end (.error e) ⟨rfl, .inr ⟨e, rfl, q⟩⟩
  exact main _ _ _ _ rfl rfl rfl fun h => Heap.get?_push_size _ rfl
end Sg


/-! who draws from a generator: its next value; for x in g(..) -/
namespace Sg
open PySem PyProof.Rows GenW L2
theorem bare_dead (x : GenState) : (Slp.dead x).bare = x.bare := by cases x <;> rfl
theorem bare_sw {T : Nat → Option GenState} {G : Array GenState} (v : Slp.Iv T G) (h : AllBare G) : AllBare (Slp.sw T G) := fun y hy => by
  obtain ⟨i, hi, e⟩ := Array.mem_iff_getElem.mp hy
  have q : (Slp.sw T G)[i]? = some y := by rw [Array.getElem?_eq_getElem hi, e]
  rw [Slp.sw_get] at q
  cases g : G[i]? with
  | none => rw [g] at q; cases q
  | some x =>
    rw [g] at q
    have hx := h x (Array.mem_of_getElem? g)
    cases t : T i with
    | none => rw [t] at q; cases q; exact hx
    | some z =>
      rw [t] at q
      cases q
      have e2 := (v.fro i z t).2
      rw [g] at e2
      cases e2
      rw [bare_dead] at hx
      exact hx
theorem bare_hid {s : Shared} (h : AllBare s.gens) : AllBare (Slp.hid s).gens := fun y hy => by
  obtain ⟨x, hx, e⟩ := Array.mem_map.mp (show y ∈ s.gens.map Slp.dead from hy)
  rw [← e, bare_dead]
  exact h x hx
section
variable {X : Cx} {pins : List (Addr × Obj)} {σ : L2.St} {H : Hp} {s sh : Shared}
theorem inv_sw {T : Nat → Option GenState} (I : Inv X pins σ H sh) (v : Slp.Iv T sh.gens) : Inv X pins σ H (Slp.swS T sh) :=
  ⟨I.ok, I.os, bare_sw v I.bare, I.base, I.loc, I.cell, I.free, I.freeC, I.pin, I.hok, I.len⟩
theorem inv_hid (I : Inv X pins σ H s) : Inv X pins σ H (Slp.hid s) :=
  ⟨I.ok, I.os, bare_hid I.bare, I.base, I.loc, I.cell, I.free, I.freeC, I.pin, I.hok, I.len⟩
theorem swp {α : Type} {M : Model} {A : Around} {t : Sem α} {Q : α → Shared → Prop} {E : Value → Shared → Prop} {T : Nat → Option GenState} (v : Slp.Iv T sh.gens) (h : wpAny M A t Q E sh) :
    wpAny M A t (fun a s' => ∃ sh', Slp.Iv T sh'.gens ∧ s' = Slp.swS T sh' ∧ Q a sh') (fun e s' => ∃ sh', Slp.Iv T sh'.gens ∧ s' = Slp.swS T sh' ∧ E e sh') (Slp.swS T sh) :=
  fun Γ p hΓ => Slp.wp_swap M T Γ t _ _ p sh v (h Γ p hΓ)
/-- one that slept, sleeps as before -/
theorem sw_still {T : Nat → Option GenState} {g : Nat} {x : GenState} (v : Slp.Iv T sh.gens) (h : T g = some x) : (Slp.swS T sh).gens[g]? = some x := by
  show (Slp.sw T sh.gens)[g]? = some x
  rw [Slp.sw_get, (v.fro g x h).2, h] <;> rfl
theorem tab_susp {g : Nat} {k : Resume → Sem PySem.Fin} {l : List Value} {c : Code} {p : Pos} {fs : List Frame} {cl : Bool} (h : s.gens[g]? = some (.suspended k l c p fs cl)) : Slp.tab s.gens g = some (.suspended k l c p fs cl) := by
  unfold Slp.tab
  rw [h]
end
/-- an exception that is wished for is wished for whatever sleeps -/
def SwX (X : Cx) : Prop := ∀ (T : Nat → Option GenState) (e : Value) (sh : Shared), Slp.Iv T sh.gens → X.xe e sh → X.xe e (Slp.swS T sh)
theorem cx_sw {P : Program} {w : World} {outer : List Env} {H : Hp} {s : Shared} {E : XK} {e : Value} {sh : Shared} {T : Nat → Option GenState} (v : Slp.Iv T sh.gens) (h : CX P w outer H s E e sh) : CX P w outer H s E e (Slp.swS T sh) := by
  obtain ⟨a, B, H', cls, d, r, fl, hok, ub, na, os, ag, hE⟩ := h
  exact ⟨a, B, H', cls, d, r, fl, hok, ub, na, os, bare_sw v ag, hE⟩
theorem swX_of {X : Cx} {A : Around} {K E₁ : Value → Shared → Prop} (hx : X.xe = fun e s' => wpAny (model X.prog X.w) A (leaving X.env e) (fun _ s'' => K e s'') E₁ s')
    (hK : ∀ T e sh, Slp.Iv T sh.gens → K e sh → K e (Slp.swS T sh)) (hE : ∀ T e sh, Slp.Iv T sh.gens → E₁ e sh → E₁ e (Slp.swS T sh)) : SwX X := fun T e sh v h => by
  rw [hx] at h ⊢
  exact wpAny_mono (swp v h) (fun _ s'' ⟨sh', v', e', q⟩ => by rw [e']; exact hK T _ sh' v' q) fun x s'' ⟨sh', v', e', q⟩ => by rw [e']; exact hE T _ sh' v' q
/-- a def's context -/
theorem swX_cx {P : Program} {w : World} {K : PySem.W.Frag} {mg : Str → Option Value} {base : Heap} {N : List Str} {qual : Str} {scope : Scope} {f : Addr} {cd : Value} {A : Around} {outer : List Env} {s : Shared} {H : Hp} {E : XK} : SwX (cxOf (CX P w) P w K mg base N qual scope f cd A outer s H E) :=
  swX_of (X := cxOf (CX P w) P w K mg base N qual scope f cd A outer s H E) rfl (fun _ _ _ v h => cx_sw v h) fun _ _ _ v h => cx_sw v h
/-- where the consumer's own things stand: ahead of the generator's, or pinned -/
structure Con (X : Cx) (pins : List (Addr × Obj)) (n : Nat) (pa td : List Addr) : Prop where
  ent : ∀ b o, X.s_0.heap.get? b = some o → b < n ∨ b ∈ X.ex ∨ b ∈ td
  td : ∀ b ∈ td, X.H_0 b ≠ none
  loc : (X.env.locals < n ∧ X.env.locals ∈ frs X.stack) ∨ X.env.locals ∈ pa
  cel : ∀ x c, X.env.cells.lookup x = some c → c < n
  pin : ∀ p ∈ X.pn ++ pins, p.1 < n ∨ p.1 ∈ pa
section
variable {X : Cx} {pins : List (Addr × Obj)} {σ : L2.St} {H H1 : Hp} {s s1 s2 : Shared} {n : Nat} {pa td : List Addr}
theorem objOk_there {P : Program} {w : World} {H : Hp} {h : Heap} {b : Addr} {u : HO} (x : ObjOk P w H h b u) : ∃ o, h.get? b = some o := by
  cases u with
  | lst xs => obtain ⟨_, _, _, _, e⟩ := x; exact ⟨_, e⟩
  | tup xs => obtain ⟨_, _, _, o, e, _⟩ := x; exact ⟨_, e⟩
  | dK kvs => obtain ⟨_, _, _, _, o, _, _, e, _⟩ := x; exact ⟨_, e⟩
  | dT kvs => obtain ⟨_, _, _, _, o, _, _, e, _⟩ := x; exact ⟨_, e⟩
  | set S n => obtain ⟨o, _, _, _, e, _⟩ := x; exact ⟨_, e⟩
  | ins C dx fs => obtain ⟨_, _, _, e, _⟩ := x; exact ⟨_, e⟩
  | own y => exact x
  | xd fs => obtain ⟨_, ⟨_, _, _, e, _⟩, _⟩ := x; exact ⟨_, e⟩
  | rng lo hi => obtain ⟨_, _, _, e⟩ := x; exact ⟨_, e⟩
  | frz ob u => obtain ⟨e, _⟩ := x; exact ⟨_, e⟩
  | tbl ps => exact ⟨_, show h.get? b = some _ from x⟩
  | met f y => exact ⟨_, show h.get? b = some _ from x⟩
  | ext φ => obtain ⟨_, e, _⟩ := x; exact e
theorem fs_sub (I : Inv X pins σ H s) : ∀ b ∈ X.fs, b ∈ frs X.stack := fun b hb => by
  rcases I.ok.stk with e | ⟨e, hf⟩
  · rw [e]; exact hb
  · rw [e]
    unfold frs
    rw [List.filterMap_cons, hf]
    exact List.mem_cons_of_mem _ hb
/-- behind a segment of the generator the consumer's invariant stands -/
theorem gen_back (I : Inv X pins σ H s) (C : Con X pins n pa td) (htd : ∀ b ∈ td, H1 b ≠ none) (hn : n ≤ s.heap.objs.size) (hok : HOk X.prog X.w H1 s1.heap) (un : Un (frs X.stack) [] H H1 (cutH n s.heap) s1.heap)
    (hpc : ∀ b ∈ pa, ∀ o, s.heap.get? b = some o → s1.heap.get? b = some o ∧ H1 b = none) (os : s1.os = s.os) (h2 : s2.heap = s1.heap) (o2 : s2.os = s1.os) (b2 : AllBare s2.gens) : Inv X pins σ H1 s2 := by
  have low : ∀ {b : Addr} {o : Obj}, s.heap.get? b = some o → b < n → (cutH n s.heap).get? b = some o := fun {b o} e l => by rw [cutH_get l]; exact e
  have entl : ∀ b o, X.s_0.heap.get? b = some o → b ∉ X.ex → X.H_0 b = none → b < n := fun b o e hx nh => (C.ent b o e).resolve_right fun z => z.elim hx fun z => C.td b z nh
  have neL : ∀ b o, X.s_0.heap.get? b = some o → b ≠ X.env.locals := fun b o e => Nat.ne_of_lt (Nat.lt_of_lt_of_le (Heap.lt_size e) I.ok.above)
  have nst : ∀ b, b ≠ X.env.locals → b ∉ X.fs → b ∉ frs X.stack := fun b h1 h2 h3 => by
    rcases List.mem_cons.mp (I.stkSub b h3) with z | z
    · exact h1 z
    · exact h2 z
  obtain ⟨m, ⟨lo, es, ep, hlo, hld, hlr⟩, hlk⟩ := I.loc
  have hl1 : (∃ sl, s1.heap.get? X.env.locals = some { lo with slots := sl }) ∧ H1 X.env.locals = none := by
    rcases C.loc with ⟨l, _⟩ | l
    · exact ⟨un.any (low hlo l) I.free (by simp), un.free _ lo (low hlo l) I.free (by simp)⟩
    · obtain ⟨z1, z2⟩ := hpc _ l lo hlo
      exact ⟨⟨lo.slots, z1⟩, z2⟩
  have hc1 : ∀ x c, X.env.cells.lookup x = some c → ∀ v, s.heap.IsCell c v → s1.heap.IsCell c v := fun x c e v ⟨o, ho, hd⟩ => by
    obtain ⟨sl, q⟩ := un.any (low ho (C.cel x c e)) (I.freeC x c e) (by simp)
    exact ⟨_, q, hd⟩
  refine ⟨I.ok, o2.trans (os.trans I.os), b2, ?_, ?_, ?_, hl1.2, ?_, ?_, by rw [h2]; exact hok, I.len⟩
  · rw [h2]
    refine ⟨fun b o q nh hb hx => ?_, fun b o q nh hb hx => ?_, fun b o q nh hx => ?_, fun b o q hx => ?_, fun b xs q => un.tups b xs (I.base.tups b xs q), fun b o u q => un.frzs b o u (I.base.frzs b o u q), fun b ps q => ?_⟩
    · exact un.keep b o (low (I.base.keep b o q nh hb hx) (entl b o q hx nh)) (I.base.free b o q nh hx) (nst b (neL b o q) hb) (by simp)
    · obtain ⟨sl, e⟩ := I.base.slot b o q nh hb hx
      obtain ⟨sl', e'⟩ := un.slot b _ (low e (entl b o q hx nh)) (I.base.free b o q nh hx) (fs_sub I b hb) (by simp)
      exact ⟨sl', e'⟩
    · obtain ⟨o', e⟩ := I.base.there b o q hx
      exact un.free b o' (low e (entl b o q hx nh)) (I.base.free b o q nh hx) (by simp)
    · obtain ⟨o', e⟩ := I.base.there b o q hx
      rcases C.ent b o q with l | z | z
      · exact un.there b o' (low e l) (by simp)
      · exact absurd z hx
      · cases qh : H1 b with
        | none => exact absurd qh (htd b z)
        | some u =>
          have lt := hok.lt qh
          have ob := hok b u qh
          exact objOk_there ob
    · obtain ⟨m1, e1⟩ := I.base.tbls b ps q
      obtain ⟨m2, e2⟩ := un.tbls b _ e1
      exact ⟨m1 ++ m2, by rw [e2, Array.append_assoc]⟩
  · obtain ⟨sl, e⟩ := hl1.1
    refine ⟨m, by rw [h2]; exact ⟨_, es, ep, e, hld, hlr⟩, fun i x v e1 e2 e3 => ?_⟩
    obtain ⟨u, r, q⟩ := hlk i x v e1 e2 e3
    refine ⟨u, r, ?_⟩
    rcases q with q | ⟨k, c, ec, hcl⟩
    · exact .inl q
    · exact .inr ⟨k, c, ec, by rw [h2]; exact hc1 x c ec _ hcl⟩
  · intro x c e
    obtain ⟨v, q⟩ := I.cell x c e
    exact ⟨v, by rw [h2]; exact hc1 x c e v q⟩
  · intro x c e
    obtain ⟨v, o, ho, _⟩ := I.cell x c e
    exact un.free c o (low ho (C.cel x c e)) (I.freeC x c e) (by simp)
  · intro p hp
    obtain ⟨p1, p2, p3, p4, p5⟩ := I.pin p hp
    rw [h2]
    rcases C.pin p hp with l | l
    · exact ⟨un.keep _ _ (low p1 l) p2 (nst _ p3 p4) (by simp), un.free _ _ (low p1 l) p2 (by simp), p3, p4, p5⟩
    · obtain ⟨z1, z2⟩ := hpc _ l _ p1
      exact ⟨z1, z2, p3, p4, p5⟩
end
abbrev zOf (X : Cx) (N : List Str) (qual : Str) (scope : Scope) (f : Addr) (cd : Value) (n : Nat) (os : OsState) (ag : Addr) (g : Nat) (go : Obj) (pa : List Addr) (J : It2) : Gz :=
  mkZ X.prog X.w X.K X.mg X.base N qual scope f cd n X.A.in1 X.stack os ag g go pa J
theorem slp_le {Z : Gz} : ∀ (n m i : Nat) (gs : GenState) (ks : List (Addr × Obj)) (Hs : Hp), n ≤ m → Z.Slp m i gs ks Hs → Z.Slp n i gs ks Hs
  | 0, _, _, _, _, _, _, _ => trivial
  | n + 1, 0, _, _, _, _, h, _ => absurd h (Nat.not_succ_le_zero n)
  | n + 1, m + 1, i, gs, ks, Hs, h, x => fun s H pc W hw => by
    have z := x s H pc W hw
    have mono : ∀ e s', PhiW Z (Z.Slp m) ⟨i, cutS Z.n s, H, pc⟩ e s' → PhiW Z (Z.Slp n) ⟨i, cutS Z.n s, H, pc⟩ e s' := fun e s' ⟨q, y⟩ => by
      refine ⟨q, ?_⟩
      cases e with
      | ret r => exact y
      | susp v g l k c p fs =>
        obtain ⟨a, xx, H1, ks1, b1, b2, b3, b4, b5⟩ := y
        exact ⟨a, xx, H1, ks1, b1, b2, b3, b4, slp_le n m _ _ _ _ (Nat.le_of_succ_le_succ h) b5⟩
    cases gs with
    | fresh c => exact ⟨z.1, sg_mono z.2 mono⟩
    | suspended k l c p fs cl => exact sg_mono (show SegG _ _ _ _ _ _ _ from z) mono
    | running => exact z
    | finished => exact z
theorem pinsAt_map {h : Heap} : ∀ {fp : List Addr}, (∀ b ∈ fp, ∃ o, h.get? b = some o) → (pinsAt fp h).map (·.1) = fp
  | [], _ => rfl
  | b :: fp, hh => by
    obtain ⟨o, e⟩ := hh b List.mem_cons_self
    unfold pinsAt
    rw [List.filterMap_cons, e]
    show b :: ((fp.filterMap fun b => (h.get? b).map fun o => (b, o)).map (·.1)) = b :: fp
    congr 1
    exact pinsAt_map fun c hc => hh c (List.mem_cons_of_mem _ hc)
section
variable {X : Cx} {pins : List (Addr × Obj)} {σ : L2.St} {H : Hp} {s : Shared} {N : List Str} {qual : Str} {scope : Scope} {f : Addr} {cd : Value} {n : Nat} {os : OsState} {ag : Addr} {g : Nat} {go : Obj} {pa td : List Addr} {J : It2}
/-- what sleeps may be pinned -/
theorem ks_pin {ks : List (Addr × Obj)} (I : Inv X pins σ H s) (C : Con X pins n pa td) (ok : (zOf X N qual scope f cd n os ag g go pa J).Ok) (k : KsOk (zOf X N qual scope f cd n os ag g go pa J) ks H s) :
    ∀ p ∈ ks, s.heap.get? p.1 = some p.2 ∧ H p.1 = none ∧ p.1 ≠ X.env.locals ∧ p.1 ∉ X.fs ∧ ∀ v, p.2.data ≠ .cell v := fun p hp => by
  obtain ⟨h1, h2, h3, h4, h5⟩ := k.at_ p hp
  have h3 : n ≤ p.1 := h3
  have h4 : p.1 ∉ pa := h4
  refine ⟨h1, h2, fun e => ?_, fun hm => ?_, h5⟩
  · rcases C.loc with ⟨l, _⟩ | l
    · rw [← e] at l; exact absurd (Nat.lt_of_lt_of_le l h3) (Nat.lt_irrefl _)
    · rw [← e] at l; exact h4 l
  · exact absurd (Nat.lt_of_lt_of_le (ok.frl p.1 (fs_sub I p.1 hm)) h3) (Nat.lt_irrefl _)
/-- THE DRAW: the generator's next value, or its end -/
theorem gen_next {Hs : Hp} {i m : Nat} {gs : GenState} {ks : List (Addr × Obj)} {E : Value → Shared → Prop} (hc : X.calm = true) (hd : X.A.depth < recursionLimit) (I : Inv X pins σ H s) (ok : (zOf X N qual scope f cd n os ag g go pa J).Ok) (C : Con X pins n pa td)
    (hpa : ∀ b ∈ pa, ∃ o, s.heap.get? b = some o ∧ H b = none ∧ b ∉ frs X.stack ∧ ∀ v, o.data ≠ .cell v) (hks : KsOk (zOf X N qual scope f cd n os ag g go pa J) ks H s) (hgs : s.gens[g]? = some gs)
    (hsl : (zOf X N qual scope f cd n os ag g go pa J).Slp (m + 1) i gs ks Hs) (hw : J.wk i Hs H) (hos : s.os = os) (hno : ∀ cls d H', ¬ J.ex i H cls d H') (hst : ∀ b ∈ td, (∀ x H1, J.yld i H x H1 → H1 b ≠ none) ∧ ∀ H1, J.fin i H H1 → H1 b ≠ none) :
    wpAny (model X.prog X.w) X.A (pyNext (.ref ag)) (fun r s1 => match r with
      | none => ∃ H1, Inv X pins σ H1 s1 ∧ J.fin i H H1
      | some v => ∃ x H1 gs1 ks1, Inv X pins σ H1 s1 ∧ RelV x v ∧ J.yld i H x H1 ∧ s1.gens[g]? = some gs1 ∧ (∃ k l c p fs cl, gs1 = .suspended k l c p fs cl) ∧ KsOk (zOf X N qual scope f cd n os ag g go pa J) ks1 H1 s1 ∧
          (zOf X N qual scope f cd n os ag g go pa J).Slp m (i + 1) gs1 ks1 H1) E s := by
  have hag : s.heap.IsGen ag g := ok.isGen (hks.at_ _ hks.ag).1
  have hn : n ≤ s.heap.objs.size := Nat.le_of_lt (Nat.lt_trans ok.agn (Heap.lt_size (hks.at_ _ hks.ag).1))
  have hgl : g < s.gens.size := (Array.getElem?_eq_some_iff.mp hgs).1
  have hba : AllBare (s.setGen g .running).gens := allBare_setGen I.bare rfl
  have W : Woke (zOf X N qual scope f cd n os ag g go pa J) ks H (pinsAt pa s.heap) (s.setGen g .running) :=
    ⟨hos, hba, I.bs, I.stack, I.stkFree, I.hok, fun p hp => let z := hks.at_ p hp; ⟨z.1, z.2.1⟩, pinsAt_map (h := s.heap) fun b hb => let ⟨o, e, _⟩ := hpa b hb; ⟨o, e⟩, fun p hp => by
      obtain ⟨hb, e⟩ := of_pinsAt hp
      obtain ⟨o, e', h1, h2, h3⟩ := hpa p.1 hb
      rw [e] at e'
      cases e'
      exact ⟨e, h1, h2, h3⟩⟩
  have go0 := hsl (s.setGen g .running) H (pinsAt pa s.heap) W hw
  have back : ∀ {H1 : Hp} {s1 s2 : Shared}, Ret (zOf X N qual scope f cd n os ag g go pa J) ⟨i, cutS n (s.setGen g .running), H, pinsAt pa s.heap⟩ H1 s1 → (∀ b ∈ td, H1 b ≠ none) → s2.heap = s1.heap → s2.os = s1.os → AllBare s2.gens → Inv X pins σ H1 s2 := fun {H1 s1 s2} R ht h2 o2 b2 =>
    gen_back I C ht hn R.hok R.un (fun b hb o e => R.pin (b, o) (List.mem_cons_of_mem _ (mem_pinsAt hb e))) (R.os.trans hos.symm) h2 o2 b2
  refine GenW.wpAny_gsz (n := g + 1) hgl ?_
  refine next_segG (A := X.A) (I.ok.hd hc) I.nolimit hd hag hgs go0 (fun v s1 gs1 hb y => ?_) (fun s1 y h' hk => ?_) fun e s1 y => ?_
  · intro hsz
    obtain ⟨hsus, x, H1, ks1, rv, R, hy, hk1, hs1⟩ := y
    refine ⟨x, H1, gs1, ks1, back R (fun b hb => (hst b hb).1 _ _ hy) rfl rfl (allBare_setGen R.bare hb), rv, hy, ?_, hsus, ⟨fun p hp => hk1.at_ p hp, hk1.ag⟩, hs1⟩
    show (s1.gens.setIfInBounds g gs1)[g]? = some gs1
    have hl : g < s1.gens.size := by
      have q : (s1.setGen g gs1).gens.size = s1.gens.size := GenW.setGen_size _ _ _
      rw [q] at hsz
      exact hsz
    rw [Array.getElem?_setIfInBounds_self_of_lt hl]
  · intro _
    obtain ⟨H1, R, hf⟩ := y
    have I1 : Inv X pins σ H1 (s1.setGen g .finished) := back R (fun b hb => (hst b hb).2 _ hf) rfl rfl (allBare_setGen R.bare rfl)
    exact ⟨H1, I1.kept (t' := (s1.setGen g .finished).toks) hk, hf⟩
  · obtain ⟨⟨a, B, H', cls, d, _, _, _, _, _, _, _, hE⟩, _⟩ := y
    exact absurd hE.1 (hno cls d H')
end
end Sg


/-! for x in g(..); [.. for x in g(..)] -/
namespace Sg
open PySem PyProof.Rows GenW L2
abbrev TGen2 := L2.St → Hp → ((It2 → Prop) → Hp → Prop) → Prop
structure PGen2 (X : Cx) (k : Nat) (e : Expr) (tg : TGen2) : Prop where
  run : ∀ (pins : List (Addr × Obj)) (s : Shared) (σ : L2.St) (H : Hp) (R : (It2 → Prop) → Hp → Prop) (E : Value → Shared → Prop), (∀ e s, X.xe e s → E e s) → Inv X pins σ H s → tg σ H R → wpAny (model X.prog X.w) X.A (eval e X.env)
    (fun u s' => ∃ H1 sc J, Inv X pins σ H1 sc ∧ GMade2 X.prog X.w X.K X.mg X.base k X.stack H1 sc J u s' ∧ R J H1) E s
section
variable {X : Cx} {k : Nat} {f C : Addr} {fd : FuncData} {ps : List Str} {sp : SpG2} {dvs : List V} {ds : List Value} {x m : Str} {p pos pos' apos : Pos} {o e : Expr} {es : List Expr} {ta : TE} {t : TA}
theorem run_gfn2 {pins : List (Addr × Obj)} {σ : L2.St} {H : Hp} {s : Shared} {us : List Value} {vs : List V} {J : It2 → Prop} {E1 : Value → Shared → Prop} (F : GFn2 X.prog X.w X.K X.mg X.base k f fd ps sp) (hr : Room k X.A) (hb : Binds X.K fd ps ds) (hd : Vals dvs ds)
    (I : Inv X pins σ H s) (r : Vals vs us) (h : sp (vs ++ dvs) H J) :
    wpAny (model X.prog X.w) X.A (call (.ref f) us) (fun u s' => GMade2 X.prog X.w X.K X.mg X.base k X.stack H s J u s') E1 s := by
  have r2 : Vals (vs ++ dvs) (us ++ ds) := r.append hd
  have hl2 : (us ++ ds).length = ps.length := by rw [← r2.length]; exact F.len _ _ _ h
  refine wpAny_call (codeAny_mono (F.run X.A X.stack s H ⟨us, []⟩ (us ++ ds) (vs ++ dvs) J hr I.env0 (hb s us I.kIn hl2) r2 h) fun r s' hq => ?_)
  cases r with
  | error e => exact False.elim hq
  | ok fl =>
    cases fl with
    | ret u => exact hq
    | next => exact False.elim hq
    | brk => exact False.elim hq
    | cont => exact False.elim hq
def tCallG2 (sp : SpG2) (dvs : List V) (t : TA) : TGen2 := fun σ H R => t σ H fun vs H1 => ∃ C, sp (vs ++ dvs) H1 C ∧ R C H1
def tMethG2 (C : Addr) (m : Str) (sp : SpG2) (dvs : List V) (ta : TE) (t : TA) : TGen2 := fun σ H R => ta σ H fun x H1 => ∃ a dx fs, x = .ref a ∧ H1 a = some (.ins C dx fs) ∧ fs.lookup m = none ∧
  t σ H1 fun vs H2 => ∃ J, sp (x :: (vs ++ dvs)) H2 J ∧ R J H2
/-- o.m() of a generator method -/
theorem pgen2_meth0 {pl : Sem Bool} (he : PE X o ta) (c : Cls X.K C) (hm : Meth X.K C m f) (F : GFn2 X.prog X.w X.K X.mg X.base k f fd ps sp) (hr : Room k X.A) (hb : Binds X.K fd ps ds) (hd : Vals dvs ds)
    (ht : eval (.Call (.Attribute o m apos) [] [] pos') X.env = (do
      let ov ← eval o X.env
      standAt apos.atName
      let (f, first) ← holding [ov] (getMethod ov m pl)
      callWith pos' f first (backTo pos' (starEach [] X.env)) (backToKw pos' (keywordEach [] X.env))) := by rfl) :
    PGen2 X k (.Call (.Attribute o m apos) [] [] pos') (tMethG2 C m sp dvs ta tNil) := by
  refine ⟨fun pins s σ H R E hE I h => wpAny_mono (E := X.xe) ?_ (fun _ _ q => q) hE⟩
  refine PySem.W.methodCall_KW (pl := pl) (thn (he.run pins s σ H _ I h) fun u s1 ⟨x, H1, I1, rx, a, dx, fs, ex, ea, l, J, hsp, hR⟩ => ?_) ht
  subst ex
  obtain rfl : u = Value.ref a := rx
  refine getmeth_ok I1 ea c hm l ?_
  exact PySem.W.callWith_K0 (first := [.ref a]) I1.kIn hm.kp (wpAny_mono (run_gfn2 (E1 := X.xe) (us := [.ref a]) (vs := [.ref a]) F hr hb hd I1 (.cons rfl .nil) hsp) (fun u s' q => ⟨H1, s1, J, I1, q, hR⟩) fun _ _ z => z)
end
theorem inv_made {X : Cx} {pins : List (Addr × Obj)} {σ : L2.St} {H : Hp} {sc s' : Shared} {k : Nat} {J : It2 → Prop} {u : Value} (I : Inv X pins σ H sc) (G : GMade2 X.prog X.w X.K X.mg X.base k X.stack H sc J u s') : Inv X pins σ H s' := by
  obtain ⟨a, g, c, _, _, _, _, _, os, hb, _, kp, _⟩ := G
  exact I.call' (ch := []) os (Un.kept kp) (I.hok.kept kp) hb fun b z => by simp at z
section
variable {X : Cx}
def tForG (tg : TGen2) (g : TG) (tb : TS) : TS := fun D σ H => tg σ H fun C H1 => ∃ J, C J ∧ ∃ W : Nat → Nat → Hp → L2.St → Hp → Prop, (∃ m, W 0 m H1 σ H1) ∧ ∀ i m Hs σ H, W i m Hs σ H →
  J.wk i Hs H ∧ (∀ cls d H', ¬ J.ex i H cls d H') ∧ (∀ H', J.fin i H H' → D.nx σ H') ∧ ∀ x H', J.yld i H x H' → ∃ N : L2.St → Hp → Prop, (∀ σ' H'', N σ' H'' → ∃ m', m' < m ∧ W (i + 1) m' H' σ' H'') ∧
    g x σ H' fun σ2 H2 => tb { D with nx := N, ct := N, bk := D.nx } σ2 H2
theorem ps_forG {k : Nat} {tg iter : Expr} {body : List Stmt} {tgen : TGen2} {g : TG} {tb : TS} {pos : Pos} (hp : PassesOwn (model X.prog X.w) X.A X.env X.xe) (hsw : SwX X) (hc : X.calm = true) (hr : Room (k + 1) X.A)
    (hstk : X.stack = X.env :: X.outer ∧ X.env.frame = some X.env.locals) (hi : PGen2 X k iter tgen) (hg : PG X tg g) (hb : PSs X body tb) (hs : ∀ x, foldedSetIterable iter X.env x = pure x := by intro _; rfl) : PS X (.For tg iter body [] pos) (tForG tgen g tb) := by
  refine ⟨fun pins s σ H D I h => ?_⟩
  refine wpAny_For (thn (hi.run pins s σ H _ X.xe (fun _ _ q => q) I h) fun u s1 ⟨H1, sc, CJ, Isc, G, J, hJ, W, ⟨m0, w0⟩, turn⟩ => ?_) hs
  have I1 := inv_made Isc G
  obtain ⟨ag, gn, c, rfl, hag0, hag1, hgen, hgs, hos, hba, hlim, hkp, N, qual, scope, f, cd, go, ks, mk⟩ := G
  refine wpAny_pyIter_gen hgen ?_
  obtain ⟨ok, kso, slp⟩ := mk X.A.in1 [] J hJ ⟨hr.hd, by have := hr.dp; show X.A.depth + 3 * k + 5 < _; omega, by have := hr.un; show X.A.units + 1 + 16 * k + 200 < _; omega⟩ I1.ok.frames (fun b hb => by cases hb)
  have C : Con X pins sc.heap.objs.size [] [] := ⟨fun b o e => .inl (Nat.lt_of_lt_of_le (Heap.lt_size e) Isc.sz), fun b hb => by (cases hb), .inl ⟨Isc.lt, by rw [hstk.1]; unfold frs; rw [List.filterMap_cons, hstk.2]; exact List.mem_cons_self⟩,
    fun x c e => let ⟨v, q⟩ := Isc.cell x c e; q.lt, fun p hp => .inl (Heap.lt_size (Isc.pin p hp).1)⟩
  have hdp : X.A.depth < recursionLimit := by have := hr.dp; omega
  have hgo : ∃ vs, go.data = .fields vs := let ⟨nm, qn, e⟩ := ok.gen.2.1; ⟨_, e⟩
  refine codeAny_forLoop_any (fun n s' => ∃ i σ' H' gs ks Hs, Inv X pins σ' H' s' ∧ s'.gens[gn]? = some gs ∧ (zOf X N qual scope f cd sc.heap.objs.size sc.os ag gn go [] J).Slp (n + 1) i gs ks Hs ∧ KsOk (zOf X N qual scope f cd sc.heap.objs.size sc.os ag gn go [] J) ks H' s' ∧ W i n Hs σ' H') ?_ m0 ⟨0, σ, H1, _, ks, H1, I1, hgs, slp _, kso, w0⟩
  rintro n s3 ⟨i, σ3, H3, gs3, ks3, Hs3, I3, hgs3, sl3, kso3, w3⟩
  obtain ⟨wk, noex, fin, step⟩ := turn i n Hs3 σ3 H3 w3
  refine wpAny_passesOwn hp (thn (gen_next (m := n) (E := X.xe) hc hdp I3 ok C (fun b hb => by cases hb) kso3 hgs3 sl3 wk (I3.os.trans Isc.os.symm) noex (fun b hb => by cases hb)) fun r s4 h4 => ?_)
  cases r with
  | none =>
    obtain ⟨H4, I4, hf⟩ := h4
    exact wpAny_execs_nil ⟨σ3, H4, I4, fin H4 hf⟩
  | some v =>
    obtain ⟨x, H5, gs5, ks5, I5, rv, hy, hg5, ⟨kk, l, cc, pp, fs, cl, rfl⟩, kso5, sl5⟩ := h4
    have hgo5 := (kso5.at_ _ kso5.ag).1
    obtain ⟨vs, hgd⟩ := hgo
    refine wpAny_passesOwn hp (go_of hgo5 ok.gen.1 hgd (by decide) ?_)
    have I5' : Inv X (pins ++ ks5) σ3 H5 s4 := I5.pins_of fun p hp => (List.mem_append.mp hp).elim (fun z => I5.pin p (List.mem_append_right _ z)) (ks_pin I5 C ok kso5 p)
    have hT := tab_susp hg5
    obtain ⟨Nx, hN, step⟩ := step x H5 hy
    have z := swp (Slp.tab_iv s4.gens) (hg.run _ (Slp.hid s4) σ3 H5 x v _ (inv_hid I5') rv step)
    rw [Slp.hid_sw s4] at z
    refine wpAny_passesOwn hp (wpAny_mono z (fun _ s6 ⟨sh6, v6, e6, σ6, H6, I6, q6⟩ => ?_) fun e s' ⟨sh', v', e', q⟩ => by rw [e']; exact hsw _ e sh' v' q)
    rw [e6]
    have z := swp v6 (hb.run _ sh6 σ6 H6 _ I6 q6)
    refine wpAny_passesOwn hp (wpAny_mono z (fun fl s7 ⟨sh7, v7, e7, q7⟩ => ?_) fun e s' ⟨sh', v', e', q⟩ => by rw [e']; exact hsw _ e sh' v' q)
    rw [e7]
    have again : ∀ {σ7 : L2.St} {H7 : Hp}, Inv X (pins ++ ks5) σ7 H7 sh7 → Nx σ7 H7 → ∃ m, m < n ∧ ∃ i σ' H' gs ks Hs, Inv X pins σ' H' (Slp.swS (Slp.tab s4.gens) sh7) ∧ (Slp.swS (Slp.tab s4.gens) sh7).gens[gn]? = some gs ∧
        (zOf X N qual scope f cd sc.heap.objs.size sc.os ag gn go [] J).Slp (m + 1) i gs ks Hs ∧ KsOk (zOf X N qual scope f cd sc.heap.objs.size sc.os ag gn go [] J) ks H' (Slp.swS (Slp.tab s4.gens) sh7) ∧ W i m Hs σ' H' := fun {σ7 H7} I7 n7 => by
      obtain ⟨m', hm, w7⟩ := hN σ7 H7 n7
      refine ⟨m', hm, i + 1, σ7, H7, _, ks5, H5, (inv_sw I7 v7).unpinned, sw_still v7 hT, slp_le _ _ _ _ _ _ hm sl5, ⟨fun p hp => ?_, kso5.ag⟩, w7⟩
      have q := I7.pin p (List.mem_append_right _ (List.mem_append_right _ hp))
      have q5 := kso5.at_ p hp
      exact ⟨q.1, q.2.1, q5.2.2.1, q5.2.2.2.1, q5.2.2.2.2⟩
    cases fl with
    | next => obtain ⟨σ7, H7, I7, n7⟩ := q7; exact again I7 n7
    | cont => obtain ⟨σ7, H7, I7, n7⟩ := q7; exact again I7 n7
    | brk => obtain ⟨σ7, H7, I7, q7⟩ := q7; exact ⟨σ7, H7, (inv_sw I7 v7).unpinned, q7⟩
    | ret v => obtain ⟨x7, σ7, H7, I7, r7, q7⟩ := q7; exact ⟨x7, σ7, H7, (inv_sw I7 v7).unpinned, r7, q7⟩
end
end Sg


/-! [.. for x in g(..)] -/
namespace Sg
open PySem PyProof.Rows GenW L2
/-- the objects between n and m -/
def rng (n m : Nat) : List Addr := (List.range m).filter fun b => decide (n ≤ b)
section
variable {X : Cx}
def tLcG (tgen : TGen2) (g : TG) (tt : TT) (te : TE) (vs : List Nat) : TE := fun σ H Q => tgen σ H fun C H1 => ∀ D, H1 D = none → ∃ J, C J ∧ ∃ W : Nat → Nat → Hp → Hp → Prop, (∃ m, W 0 m H1 (upd H1 D (.lst []))) ∧ ∀ i m Hs H, W i m Hs H →
  J.wk i Hs H ∧ (∀ cls d H', ¬ J.ex i H cls d H') ∧ (∀ H', J.fin i H H' → H' D ≠ none ∧ Q (.ref D) H') ∧ ∀ x H', J.yld i H x H' → H' D ≠ none ∧ ∃ Nx : Hp → Prop, (∀ H'', Nx H'' → ∃ m', m' < m ∧ W (i + 1) m' H' H'') ∧
    g x (wipe σ vs) H' fun σ2 H2 => wipe σ2 vs = wipe σ vs ∧ tt σ2 H2 fun b H3 =>
      if b = true then te σ2 H3 fun y H4 => ∃ acc, H4 D = some (.lst acc) ∧ acc.length < sizeLine ∧ Nx (upd H4 D (.lst (acc ++ [y]))) else Nx H3
end
end Sg
namespace Sg
open PySem PyProof.Rows GenW L2
theorem okGen {P : Program} {w : World} {K : PySem.W.Frag} {mg : Str → Option Value} {base : Heap} {x qual : Str} {st : Stmt} {f : Addr} {fd : FuncData} {N ps : List Str} {k : Nat} {sp : SpG2} (F : Fun K x qual st f fd) (S : GScope N ps (defScope st)) (nc : ∀ y ∈ (defScope st).names, y.2 ≠ .cell) (len : ∀ vs H C, sp vs H C → vs.length = ps.length)
    (hbody : ∀ (cdv : Value) (n : Nat) (A : Around) (outer : List Env) (os : OsState) (ag : Addr) (g : Nat) (go : Obj) (pa : List Addr) (J : It2) (vs : List V) (H : Hp) (C : It2 → Prop), Room k (A.deeper (envOfC qual (defScope st) n f cdv)) → sp vs H C → C J →
      ∃ t : TG2, GSs2 (mkZ P w K mg base N qual (defScope st) f cdv n A outer os ag g go pa J) (defBody st) t ∧
        ∀ s' H' pc, J.wk 0 H H' → t { nx := fun a _ H1 => J.fin a.i a.H H1, rt := fun a v H1 => v = .non ∧ J.fin a.i a.H H1 } ⟨0, s', H', pc⟩ (start N vs) H') :
    GFn2 P w K mg base (k + 1) f fd ps sp := by
  obtain ⟨oc, od, kV, doc, pm, an, cdv, ct, osl, rfl, lk, hcd⟩ := F.ex
  exact gfn2_of lk hcd S nc len fun n A outer os ag g go pa J vs H C hr hsp hJ => hbody cdv n A outer os ag g go pa J vs H C hr hsp hJ
/-- what stood stays, but for mu -/
def KpM (mu : Addr → Prop) (Hs H : Hp) : Prop := ∀ b u, Hs b = some u → ¬ mu b → H b = some u
end Sg


/-! Forest.walk: a generator -/
namespace FT
open PySem L2 TL ClX LiI Sg
def rowsW (ts : List (Str × Str)) : List (Str × Int) := walkN ts (ts.length + 1) "" 1
def itWalk (zs : List (Str × Int)) (mu : Addr → Prop) : It2 where
  wk := fun _ Hs H => KpM mu Hs H ∧ ∀ b, mu b → H b ≠ none
  yld := fun i H v H' => Same H H' ∧ ∃ r z, v = .ref r ∧ zs[i]? = some z ∧ RowW H' r z
  fin := fun i H H' => i = zs.length ∧ Same H H'
  ex := fun _ _ _ _ _ => False
def spWalk (CF : Addr) : SpG2 := fun vs H C => ∃ (x : Addr) (ts : List (Str × Str)), vs = [.ref x] ∧ TreeOk ts ∧ (rowsW ts).length ≤ 1000 ∧
  C = fun J => ∃ mu : Addr → Prop, (∀ H', KpM mu H H' → FAt CF H' x ts) ∧ J = itWalk (rowsW ts) mu
section
variable {P : Program} {w : World} {K : PySem.W.Frag} {mg : Str → Option Value} {base : Heap}
abbrev NWk : List Str := ["self"]
theorem scWk : GScope NWk ["self"] (defScope s_Forest_walk) := ⟨rfl, rfl, rfl, by decide +kernel, rfl, by decide +kernel, by decide +kernel⟩
theorem ok_walk {f fW CF : Addr} {mc : Value} {fd fdW : FuncData} (F : Fun K "walk" "Forest.walk" s_Forest_walk f fd) (O : FoC K CF) (Z : Fc K mg CF mc)
    (DW : ∀ m, Dn P w K mg base CX0 (m + 1) "walked" ["above", "place", "depth"] (spWalked m) fW fdW) : GFn2 P w K mg base 15 f fd ["self"] (spWalk CF) := by
  obtain ⟨ur, cr⟩ := Z.root
  refine okGen F scWk (by decide +kernel) (fun vs H C h => ?_) (fun cdv n A outer os ag g go pa J vs H C hr h hJ => ?_)
  · obtain ⟨x, ts, rfl, _⟩ := h
    rfl
  · obtain ⟨x, ts, rfl, o, few, rfl⟩ := h
    obtain ⟨mu, hm, rfl⟩ := hJ
    have nd := scWk.nd
    have hr2 : Room (ts.length + 2) _ := hr.mono (by have := o.few; omega)
    refine ⟨_, g2s_cons (g2_yieldFrom fun a => pe_lock (pe_call (DW (ts.length + 1)).ok hr2 rfl (DW 0).mgn (DW 0).kp (DW 0).bn .nil pass0 (pa_cons (pe_fld (pv 0) rfl) (pa_cons (pe_cval (pe_glob (v := .ref CF) (by rfl) Z.gF rfl)) (pa_cons pe_int pa_nil))))) g2s_nil, ?_⟩
    intro s' Hw pc wk
    obtain ⟨km, mt⟩ := wk
    have fa := hm Hw km
    obtain ⟨dx, dq, hx, hd⟩ := id fa
    have dx1 : x ≠ dq := ne_of hx hd (by intro z; cases z)
    refine ⟨dq, .dK (prs ts), hd, trivial, fun od => ⟨_, rfl, x, CF, dx, _, .ref dq, rfl, by rw [upd_ne dx1]; exact hx, O.cl, O.nA, rfl, CF, mc, _, ur, rfl, Z.rd, cr, dq, ts, od, "", 1, rfl, upd_same, o, .inl rfl, by rw [path_root]; show 0 + _ = _; omega, few, fun p rs H1 s1 np hp pr fr => ?_⟩⟩
    have hq1 := s1 _ _ (upd_same (H := Hw) (a := dq) (o := .frz od (.dK (prs ts))))
    have su := unlock_same hd s1
    have pq : p ≠ dq := (ne_of_none upd_same np).symm
    refine ⟨hq1, ?_⟩
    obtain ⟨H2, e2⟩ : ∃ X, X = upd H1 dq (.dK (prs ts)) := ⟨_, rfl⟩
    rw [← e2] at su ⊢
    have hp2 : H2 p = some (.lst (rs.map V.ref)) := by rw [e2, upd_ne pq]; exact hp
    have pm : ¬ mu p := fun z => mt p z (by rw [upd_ne pq] at np; exact np)
    have fm : ∀ r ∈ rs, ¬ mu r := fun r hr z => mt r z (by
      have e := fr r hr
      rw [upd_ne (ne_of_none upd_same e).symm] at e
      exact e)
    have pr2 : Paired (RowW H2) rs (rowsW ts) := pair_impW (fun r z e => by
      show H2 r = _
      rw [e2, upd_ne (ne_of e hq1 (by intro z; cases z))]
      exact e) pr
    have lr := pair_lenZ pr2
    refine ⟨p, rs.map V.ref, rfl, fun i a H => a.i = i ∧ Same a.H H ∧ H p = some (.lst (rs.map V.ref)) ∧ ∀ (i : Nat) (r : Addr) (z : Str × Int), rs[i]? = some r → (rowsW ts)[i]? = some z → RowW H r z, ⟨rfl, su, hp2, fun i r z h1 h2 => ?_⟩, fun i a H w => ?_⟩
    · obtain ⟨z', h3, h4⟩ := LiI.paired_get pr2 h1
      rw [h2] at h3
      cases h3
      exact h4
    · obtain ⟨ai, sa, hpa, ra⟩ := w
      refine ⟨SqL.of hpa, fun xv hx => ?_, fun ei => ⟨by rw [ai, ei, List.length_map, lr], sa⟩⟩
      obtain ⟨r, hr, rfl⟩ := map_of (f := V.ref) (l := rs) hx
      obtain ⟨z, hz, _⟩ := LiI.paired_get pr2 hr
      refine ⟨⟨sa, r, z, rfl, by rw [ai]; exact hz, ra i r z hr hz⟩, fun s'' H'' pc'' wk => ?_⟩
      obtain ⟨km', mt'⟩ := wk
      exact ⟨by show a.i + 1 = i + 1; rw [ai], Same.refl, km' _ _ hpa pm, fun j r' z' h1 h2 => km' _ _ (ra j r' z' h1 h2) (fm r' (List.mem_of_getElem? h1))⟩
end
end FT


/-! plain: a walk goes to every flag below a place once -/
namespace FT
open PySem L2 TL
section
variable {ts : List (Str × Str)}
theorem path_endW (o : TreeOk ts) {a : Str} (h : Pl ts a) (n : a ≠ "") : a ∈ pathOf ts a := by
  obtain ⟨rk, r⟩ := o.up
  obtain ⟨p, ep, _, _⟩ := o.step r (h.resolve_left n)
  rw [path_step o (h.resolve_left n) ep]
  exact List.mem_append_right _ (List.mem_singleton.mpr rfl)
/-- above a flag on the way: the root, or on the way too -/
theorem path_upW (o : TreeOk ts) {rk : Str → Nat} (r : Rk ts rk) {z p : Str} (ep : par ts z = some p) : ∀ (k : Nat) (n : Str), rk n < k → n ∈ ts.map Prod.fst → z ∈ pathOf ts n → p = "" ∨ p ∈ pathOf ts n := by
  intro k
  induction k with
  | zero => intro n h; exact absurd h (Nat.not_lt_zero _)
  | succ k ih =>
    intro n hk mn mz
    obtain ⟨q, eq, hq, _⟩ := o.step r mn
    have st := path_step o mn eq
    rw [st] at mz ⊢
    by_cases pe : p = ""
    · exact .inl pe
    refine .inr (List.mem_append_left _ ?_)
    rcases List.mem_append.mp mz with m | m
    · rcases hq with e | ⟨mq, lt⟩
      · rw [e, path_root] at m
        cases m
      · exact (ih q (by omega) mq m).resolve_left pe
    · rw [List.mem_singleton.mp m, eq] at ep
      have e := Option.some.inj ep
      subst e
      exact path_endW o (hq.imp id fun h => h.1) pe
/-- the one child of a on the way to n -/
theorem child_on (o : TreeOk ts) {rk : Str → Nat} (r : Rk ts rk) {a : Str} (pa : Pl ts a) : ∀ (k : Nat) (n : Str), rk n < k → n ∈ ts.map Prod.fst → n ≠ a → (a = "" ∨ a ∈ pathOf ts n) →
    ∃ c, c ∈ kids ts a ∧ c ∈ pathOf ts n ∧ ∀ c' ∈ kids ts a, c' ∈ pathOf ts n → c' = c := by
  intro k
  induction k with
  | zero => intro n h; exact absurd h (Nat.not_lt_zero _)
  | succ k ih =>
    intro n hk mn ne h
    obtain ⟨p, ep, hp, _⟩ := o.step r mn
    have st := path_step o mn ep
    by_cases e : p = a
    · refine ⟨n, (kid_par o).mpr (e ▸ ep), by rw [st]; exact List.mem_append_right _ (List.mem_singleton.mpr rfl), fun c' k' m' => ?_⟩
      rw [st] at m'
      rcases List.mem_append.mp m' with m' | m'
      · exfalso
        rw [e] at m'
        have ec := (kid_par o).mp k'
        have mc := mem_kids.mp k'
        by_cases ea : a = ""
        · rw [ea, path_root] at m'
          cases m'
        · have h1 := path_rank o r (rk a + 1) a pa (fun _ => Nat.lt_succ_self _) c' m'
          obtain ⟨_, h2⟩ := r _ mc
          rcases h2 with h2 | ⟨_, h2⟩
          · exact ea h2
          · have h2 : rk a < rk c' := h2
            omega
      · exact List.mem_singleton.mp m'
    · have pne : p ≠ "" := by
        intro z
        rcases h with h | h
        · exact e (z.trans h.symm)
        · rw [st, z, path_root, List.nil_append] at h
          exact ne (List.mem_singleton.mp h).symm
      obtain ⟨mp, lt⟩ := hp.resolve_left pne
      obtain ⟨c, h1, h2, h3⟩ := ih p (by omega) mp e (h.imp id fun h => by
        rw [st] at h
        rcases List.mem_append.mp h with h | h
        · exact h
        · exact absurd (List.mem_singleton.mp h).symm ne)
      refine ⟨c, h1, by rw [st]; exact List.mem_append_left _ h2, fun c' k' m' => ?_⟩
      rw [st] at m'
      rcases List.mem_append.mp m' with m' | m'
      · exact h3 c' k' m'
      · rw [List.mem_singleton.mp m'] at k'
        have := (kid_par o).mp k'
        rw [ep] at this
        exact absurd (Option.some.inj this) e
theorem count_flatW {α : Type} {l : List α} {F : α → List (Str × Int)} {n : Str} {c : α → Nat} (h : ∀ z ∈ l, ((F z).map Prod.fst).count n = c z) : ((l.flatMap F).map Prod.fst).count n = (l.map c).sum := by
  induction l with
  | nil => rfl
  | cons z l ih =>
    rw [List.flatMap_cons, List.map_append, List.count_append, List.map_cons, List.sum_cons, h z List.mem_cons_self, ih fun y hy => h y (List.mem_cons_of_mem _ hy)]
theorem one_sum {l : List (Str × Str)} {c : Str} {p : Str × Str → Prop} [DecidablePred p] (nd : (l.map Prod.fst).Nodup) (h : ∀ z ∈ l, p z → z.1 = c) : (l.map fun z => if p z then 1 else 0).sum = if ∃ z ∈ l, p z then 1 else 0 := by
  induction l with
  | nil => rw [if_neg (fun ⟨z, h, _⟩ => by cases h)] <;> rfl
  | cons y l ih =>
    rw [List.map_cons, List.nodup_cons] at nd
    rw [List.map_cons, List.sum_cons, ih nd.2 fun z hz => h z (List.mem_cons_of_mem _ hz)]
    by_cases e : p y
    · rw [if_pos e, if_neg, if_pos ⟨y, List.mem_cons_self, e⟩]
      rintro ⟨z, hz, pz⟩
      exact nd.1 (by rw [h y List.mem_cons_self e, ← h z (List.mem_cons_of_mem _ hz) pz]; exact List.mem_map.mpr ⟨z, hz, rfl⟩)
    · rw [if_neg e, Nat.zero_add]
      by_cases q : ∃ z ∈ l, p z
      · rw [if_pos q, if_pos (let ⟨z, hz, pz⟩ := q; ⟨z, List.mem_cons_of_mem _ hz, pz⟩)]
      · rw [if_neg q, if_neg]
        rintro ⟨z, hz, pz⟩
        rcases List.mem_cons.mp hz with rfl | hz
        · exact e pz
        · exact q ⟨z, hz, pz⟩
theorem walk_count (o : TreeOk ts) {n : Str} (mn : n ∈ ts.map Prod.fst) : ∀ (m : Nat) (a : Str) (d : Int), Pl ts a → (pathOf ts a).length + m = ts.length + 1 →
    ((walkN ts m a d).map Prod.fst).count n = if n ≠ a ∧ (a = "" ∨ a ∈ pathOf ts n) then 1 else 0 := by
  obtain ⟨rk, r⟩ := o.up
  intro m
  induction m with
  | zero =>
    intro a d pa hm
    have := path_len ts a
    omega
  | succ m ih =>
    intro a d pa hm
    have nn : n ≠ "" := fun z => o.root (z ▸ mn)
    have each : ∀ z ∈ ts, ((if z.2 = a then (z.1, d) :: walkN ts m z.1 (d + 1) else []).map Prod.fst).count n = (fun z : Str × Str => if z.2 = a ∧ z.1 ∈ pathOf ts n then 1 else 0) z := by
      intro z hz
      have mz : z.1 ∈ ts.map Prod.fst := List.mem_map.mpr ⟨z, hz, rfl⟩
      have zn : z.1 ≠ "" := fun q => o.root (q ▸ mz)
      show _ = if z.2 = a ∧ z.1 ∈ pathOf ts n then 1 else 0
      by_cases e : z.2 = a
      · have ep := par_of o.nd (show (z.1, z.2) ∈ ts from hz)
        have st := path_step o mz ep
        have ln := path_len ts z.1
        rw [st, e, List.length_append, List.length_singleton] at ln
        rw [if_pos e, List.map_cons, List.count_cons, ih z.1 (d + 1) (.inr mz) (by rw [st, e, List.length_append, List.length_singleton]; omega)]
        by_cases q : z.1 = n
        · have pe := path_endW o (.inr mn) nn
          rw [if_neg (fun w => w.1 q.symm), if_pos (by rw [beq_iff_eq]; exact q), if_pos ⟨e, by rw [q]; exact pe⟩]
        · rw [if_neg (show ¬ (z.1 == n) = true by rw [beq_iff_eq]; exact q)]
          by_cases w : z.1 ∈ pathOf ts n
          · rw [if_pos ⟨fun y => q y.symm, .inr w⟩, if_pos ⟨e, w⟩]
          · rw [if_neg (fun y => w (y.2.resolve_left zn)), if_neg (fun y => w y.2)]
      · rw [if_neg e, if_neg (fun w => e w.1)] <;> rfl
    show ((ts.flatMap _).map Prod.fst).count n = _
    rw [count_flatW each]
    by_cases c : n ≠ a ∧ (a = "" ∨ a ∈ pathOf ts n)
    · obtain ⟨k, h1, h2, h3⟩ := child_on o r pa (rk n + 1) n (Nat.lt_succ_self _) mn c.1 c.2
      rw [if_pos c, one_sum (c := k) (p := fun z : Str × Str => z.2 = a ∧ z.1 ∈ pathOf ts n) o.nd fun z hz pz => h3 z.1 (mem_kids.mpr (pz.1 ▸ hz)) pz.2, if_pos ⟨(k, a), mem_kids.mp h1, rfl, h2⟩]
    · have none : ∀ z ∈ ts, ¬ (z.2 = a ∧ z.1 ∈ pathOf ts n) := by
        rintro z hz ⟨e, w⟩
        have mz : z.1 ∈ ts.map Prod.fst := List.mem_map.mpr ⟨z, hz, rfl⟩
        have ep := par_of o.nd (show (z.1, z.2) ∈ ts from hz)
        have up := path_upW o r ep (rk n + 1) n (Nat.lt_succ_self _) mn w
        rw [e] at up
        refine c ⟨fun q => ?_, up⟩
        have h1 := path_rank o r (rk n + 1) n (.inr mn) (fun _ => Nat.lt_succ_self _) z.1 w
        obtain ⟨_, h2⟩ := r _ hz
        rw [e] at h2
        rcases h2 with h2 | ⟨_, h2⟩
        · exact nn (q.trans h2)
        · rw [q] at h1
          omega
      rw [if_neg c, one_sum (c := "") (p := fun z : Str × Str => z.2 = a ∧ z.1 ∈ pathOf ts n) o.nd fun z hz pz => absurd pz (none z hz), if_neg (fun ⟨z, hz, pz⟩ => none z hz pz)]
theorem walk_flags (o : TreeOk ts) : ∀ (m : Nat) (a : Str) (d : Int), ∀ y ∈ walkN ts m a d, y.1 ∈ ts.map Prod.fst
  | 0, _, _, _, h => by cases h
  | m + 1, a, d, y, h => by
    obtain ⟨z, hz, h⟩ := List.mem_flatMap.mp (show y ∈ ts.flatMap _ from h)
    by_cases e : z.2 = a
    · rw [if_pos e] at h
      rcases List.mem_cons.mp h with rfl | h
      · exact List.mem_map.mpr ⟨z, hz, rfl⟩
      · exact walk_flags o m _ _ y h
    · rw [if_neg e] at h
      cases h
/-- the whole walk: every flag once -/
theorem rowsW_count (o : TreeOk ts) (n : Str) : ((rowsW ts).map Prod.fst).count n = if n ∈ ts.map Prod.fst then 1 else 0 := by
  by_cases mn : n ∈ ts.map Prod.fst
  · unfold rowsW
    rw [if_pos mn, walk_count o mn _ _ _ (.inl rfl) (by rw [path_root]; show 0 + _ = _; omega), if_pos ⟨fun z => o.root (z ▸ mn), .inl rfl⟩]
  · rw [if_neg mn, List.count_eq_zero]
    intro h
    obtain ⟨y, hy, rfl⟩ := List.mem_map.mp h
    exact mn (walk_flags o _ _ _ y hy)
theorem rowsW_perm (o : TreeOk ts) : ((rowsW ts).map Prod.fst).Perm (ts.map Prod.fst) := by
  rw [List.perm_iff_count]
  intro n
  rw [rowsW_count o n]
  by_cases mn : n ∈ ts.map Prod.fst
  · rw [if_pos mn, o.nd.count, if_pos mn]
  · rw [if_neg mn, List.count_eq_zero.mpr mn]
theorem rowsW_few (o : TreeOk ts) : (rowsW ts).length ≤ 1000 := by
  have := (rowsW_perm o).length_eq
  rw [List.length_map, List.length_map] at this
  have := o.few
  omega
end
end FT


/-! Forest.children -/
namespace FT
open PySem L2 TL ClX LiI
def spKids (CF : Addr) : Sp := fun vs H Q _ => ∃ (x : Addr) (ts : List (Str × Str)) (a : Str), vs = [.ref x, .str a] ∧ FAt CF H x ts ∧ TreeOk ts ∧ Pl ts a ∧ ∀ p H', Same H H' → H p = none → H' p = some (.lst ((kids ts a).map V.str)) → Q (.ref p) H'
section
variable {P : Program} {w : World} {K : PySem.W.Frag} {mg : Str → Option Value} {base : Heap}
abbrev NKi : List Str := ["self", "place", "name"]
theorem scKi : FnScope NKi ["self", "place"] (defScope s_Forest_children) := ⟨rfl, rfl, rfl, by decide +kernel, rfl, by decide +kernel, by decide +kernel⟩
theorem ok_kids {f fN CF : Addr} {fd fdN : FuncData} (F : Fun K "children" "Forest.children" s_Forest_children f fd) (O : FoC K CF) (DN : Dn P w K mg base CX0 1 "need_place" ["forest", "place"] (spNeedPl CF) fN fdN) :
    FnOk P w K mg base CX0 2 f fd ["self", "place"] (spKids CF) := by
  refine F.ok scKi (fun vs H Q E h => ?_) (fun cdv A outer s H vs Q E hr h => ?_)
  · obtain ⟨x, ts, a, rfl, _⟩ := h
    rfl
  · obtain ⟨x, ts, a, rfl, fa, o, pl, k⟩ := h
    have hu := hu_of hr
    have nd := scKi.nd
    have big : 1000 ≤ sizeLine := by decide
    have few := o.few
    refine ⟨_, pss_cons (ps_expr (pe_call DN.ok hr rfl DN.mgn DN.kp DN.bn .nil pass0 (pa_cons (pv 0) (pa_cons (pv 1) pa_nil))))
      (pss_one (ps_ret (pe_lock (pe_lc (own := [("name", 2)]) (g := gName 2) (tt := tTest (tOp rEq (tDGet (tFld K (tVar 0) "above") (tVar 2)) (tVar 1))) (te := tVar 2) rfl nd (pi_keys (pe_fld (pv 0) rfl))
        (blkOk_by (N := NKi) (sc := defScope s_Forest_children) (by decide +kernel)) (fun _ _ _ _ _ => pg_name (i := 2) nd rfl (Or.inl rfl))
        (fun _ _ _ _ _ => pts_one (pt_cmpR op_eq (pe_dget hu (pe_fld (pv 0) rfl) (pv 2) (fun _ _ => rfl)) (pv 1) (nomark _))) (fun _ _ _ _ _ => pv 2))))), ?_⟩
    obtain ⟨dx, dq, hx, hd⟩ := id fa
    refine ⟨_, rfl, _, rfl, x, ts, a, rfl, fa, o, pl, ?_⟩
    refine ⟨dq, .dK (prs ts), hd, trivial, fun od => ⟨_, rfl, x, CF, dx, _, .ref dq, rfl, by rw [upd_ne (ne_of hx hd (by intro z; cases z))]; exact hx, O.cl, O.nA, rfl, dq, od, rfl, .inl ⟨prs ts, upd_same, fun D nD => ?_⟩⟩⟩
    have hx1 : (upd H dq (.frz od (.dK (prs ts)))) x = some (.ins CF dx [("above", .ref dq)]) := by rw [upd_ne (ne_of hx hd (by intro z; cases z))]; exact hx
    have Dq : D ≠ dq := (ne_of_none upd_same nD).symm
    refine lc_it walk_keys (fun i H' => Same (upd H dq (.frz od (.dK (prs ts)))) H' ∧ H' D = some (.lst ((kids (ts.take i) a).map V.str))) ⟨same_new nD, upd_same⟩ (fun i H' _ z => z.1 _ _ upd_same) ?_ ?_
    · intro i y Ha Hb hi ⟨q1, q2⟩ ⟨eb, kk, vv, hk, ey⟩
      subst eb
      subst ey
      obtain ⟨⟨b, pb⟩, hp, ee⟩ : ∃ z : Str × Str, ts[i]? = some z ∧ (kk, vv) = (Sum.inr z.1, V.str z.2) := by
        unfold prs kvT at hk
        rw [List.map_map, List.getElem?_map] at hk
        obtain ⟨z, hz, e⟩ := Option.map_eq_some_iff.mp hk
        exact ⟨z, hz, e.symm⟩
      cases ee
      rw [show kV (Sum.inr b) = V.str b from rfl]
      have ep := par_of o.nd (List.mem_of_getElem? hp)
      have more := kids_snoc (ts.take i) (b, pb) a
      rw [← take_more hp] at more
      have kl : (kids (ts.take i) a).length ≤ 12 := by
        unfold kids
        rw [List.length_map]
        have := List.length_filter_le (fun q : Str × Str => decide (q.2 = a)) (ts.take i)
        rw [List.length_take] at this
        omega
      refine ⟨rfl, ?_⟩
      refine ⟨_, rfl, x, CF, dx, _, .ref dq, rfl, q1 _ _ hx1, O.cl, O.nA, rfl, _, rfl, dq, .str pb, rfl, dget_prs (.inr ⟨od, q1 _ _ upd_same⟩) ep, _, rfl, rfl, _, rfl, ?_⟩
      by_cases e : pb = a
      · rw [decide_eq_true (show V.str pb = V.str a by rw [e])]
        rw [if_pos e] at more
        show if true = true then _ else _
        rw [if_pos rfl]
        exact ⟨_, rfl, _, q2, by rw [List.length_map]; omega, q1.put nD, by rw [upd_same, more, List.map_append] <;> rfl⟩
      · rw [decide_eq_false (show ¬ V.str pb = V.str a from fun z => e (V.str.inj z))]
        rw [if_neg e, List.append_nil] at more
        exact ⟨q1, by rw [more]; exact q2⟩
    · intro H' ⟨q1, q2⟩
      rw [prs_len, List.take_length] at q2
      exact ⟨q1 _ _ upd_same, k D _ (unlock_same hd q1) (by rw [upd_ne Dq] at nD; exact nD) (by rw [upd_ne Dq]; exact q2)⟩
end
end FT


/-! is_integer -/
namespace FT
open PySem L2 TL ClX
section
variable {P : Program} {w : World} {K : PySem.W.Frag} {mg : Str → Option Value} {base : Heap}
theorem scIsInt : FnScope ["value", "least"] ["value", "least"] (defScope s_is_integer) := ⟨rfl, rfl, rfl, by decide +kernel, rfl, by decide +kernel, by decide +kernel⟩
theorem ok_isInt {f : Addr} {fd : FuncData} (F : Fun K "is_integer" "is_integer" s_is_integer f fd) (T : Nm mg) : FnOk P w K mg base CX0 1 f fd ["value", "least"] (spIsInt K) := by
  refine F.ok scIsInt (fun vs H Q E h => ?_) (fun cdv A outer s H vs Q E hr h => ?_)
  · obtain ⟨v, l, rfl, _⟩ := h
    rfl
  · obtain ⟨v, l, rfl, ⟨t, d⟩, k⟩ := h
    refine ⟨_, pss_one (ps_ret (pe_and (pe_callB call_isi (by rfl) T.isi (by decide +kernel) (pa_cons (pv 0) (pa_cons (pe_bltn (v := .ty "int") (u := .type "int") (by rfl) T.int (by decide +kernel) rfl) pa_nil)))
      (pe_and (pe_not (pe_callB call_isi (by rfl) T.isi (by decide +kernel) (pa_cons (pv 0) (pa_cons (pe_bltn (v := .ty "bool") (u := .type "bool") (by rfl) T.bool (by decide +kernel) rfl) pa_nil)))) (pe_one (pe_cmpR op_ge (pv 0) (pv 1) (nomark _)))))), ?_⟩
    refine ⟨_, rfl, v, _, _, _, _, rfl, .ty _, d.ty, d.int_, _, rfl, ?_⟩
    refine ite2 (fun yes => ⟨_, rfl, v, _, _, _, _, rfl, .ty _, d.ty, d.bool_, _, rfl, _, rfl, ?_⟩) (fun no => ?_)
    · refine ite2 (fun yes2 => ?_) (fun no2 => ?_)
      · cases v with
        | int i => exact ⟨_, rfl, _, rfl, i, l, rfl, rfl, k⟩
        | bl b => cases yes2
        | _ => cases yes
      · cases v with
        | int i => exact absurd rfl no2
        | bl b => exact k
        | _ => cases yes
    · cases v with
      | int i => exact absurd rfl no
      | bl b => exact absurd rfl no
      | _ => exact k
end
end FT


/-! need_users -/
namespace FT
open PySem L2 TL ClX
section
variable {P : Program} {w : World} {K : PySem.W.Frag} {mg : Str → Option Value} {base : Heap}
theorem scUsers : FnScope ["users", "most"] ["users", "most"] (defScope s_need_users) := ⟨rfl, rfl, rfl, by decide +kernel, rfl, by decide +kernel, by decide +kernel⟩
theorem ok_users {f fI CU IU : Addr} {fd fdI dU : FuncData} (F : Fun K "need_users" "need_users" s_need_users f fd) (T : Nm mg) (I : Dn P w K mg base CX0 1 "is_integer" ["value", "least"] (spIsInt K) fI fdI) (U : Er0 P w K mg base "InvalidUsers" CU IU dU) :
    FnOk P w K mg base (L2.CX P w) 3 f fd ["users", "most"] (spUsers K CU) := by
  refine F.okX scUsers (fun vs H Q E h => ?_) (fun cdv A outer s H vs Q E hr h => ?_)
  · obtain ⟨v, m, rfl, _⟩ := h
    rfl
  · obtain ⟨v, m, rfl, d, k⟩ := h
    refine ⟨_, pss_one (ps_if (PW.pt (pw_or (pt_not (pt_val (pe_call I.ok (hr.mono (by decide)) rfl I.mgn I.kp I.bn .nil pass0 (pa_cons (pv 0) (pa_cons pe_int pa_nil))))) (pw_or1 (pt_cmpR op_gt (pv 0) (pv 1) (nomark _))))) (pss_one (ps_err0 U rfl (takes_of rfl rfl rfl rfl) hr rfl)) pss_nil), ?_⟩
    refine ⟨_, rfl, v, 1, rfl, d, _, rfl, ?_⟩
    cases v with
    | int i =>
      by_cases h1 : 1 ≤ i
      · rw [show isGe (.int i) 1 = true from decide_eq_true h1]
        refine iteF ?_
        refine ⟨_, rfl, _, rfl, i, m, rfl, rfl, _, rfl, ?_⟩
        by_cases h2 : i ≤ m
        · rw [decide_eq_false (show ¬ m < i by omega)]
          rw [if_pos (show usersOk (.int i) m = true by show (decide (1 ≤ i) && decide (i ≤ m)) = true; rw [decide_eq_true h1, decide_eq_true h2] <;> rfl)] at k
          exact iteF (k H Same.refl)
        · rw [decide_eq_true (show m < i by omega)]
          rw [if_neg (show ¬ usersOk (.int i) m = true by show ¬ (decide (1 ≤ i) && decide (i ≤ m)) = true; rw [decide_eq_false h2, Bool.and_false]; decide)] at k
          exact iteT (out0 k Same.refl)
      · rw [show isGe (.int i) 1 = false from decide_eq_false h1]
        rw [if_neg (show ¬ usersOk (.int i) m = true by show ¬ (decide (1 ≤ i) && decide (i ≤ m)) = true; rw [decide_eq_false h1, Bool.false_and]; decide)] at k
        show if true = true then _ else _
        rw [if_pos rfl]
        exact iteT (out0 k Same.refl)
    | _ =>
      show if true = true then _ else _
      rw [if_pos rfl]
      exact iteT (out0 k Same.refl)
end
end FT


/-! has_two_chains, is_memoryless -/
namespace FT
open PySem L2 TL ClX LiI
def twoC (ts : List (Str × Str)) : Bool := decide ((kids ts "").length ≤ 2) && (ts.map Prod.fst).all fun n => decide ((kids ts n).length ≤ 1)
def memC (ts : List (Str × Str)) (v : V) : Bool := decide (v = .int 1) || twoC ts
def spTwoC (CF : Addr) : Sp := fun vs H Q _ => ∃ (x : Addr) (ts : List (Str × Str)), vs = [.ref x] ∧ FAt CF H x ts ∧ TreeOk ts ∧ ∀ H', Same H H' → Q (.bl (twoC ts)) H'
def spMem (K : PySem.W.Frag) (CF CU : Addr) : Sp := fun vs H Q E => ∃ (x : Addr) (ts : List (Str × Str)) (v : V), vs = [.ref x, v] ∧ FAt CF H x ts ∧ TreeOk ts ∧ IsDat K H v ∧
  if usersOk v (10 ^ 30) = true then ∀ H', Same H H' → Q (.bl (memC ts v)) H' else Out H E (.e0 CU)
section
variable {P : Program} {w : World} {K : PySem.W.Frag} {mg : Str → Option Value} {base : Heap}
abbrev NTw : List Str := ["forest", "name"]
theorem scTw : FnScope NTw ["forest"] (defScope s_has_two_chains) := ⟨rfl, rfl, rfl, by decide +kernel, rfl, by decide +kernel, by decide +kernel⟩
theorem ok_twoC {f fC CF p1 g1 : Addr} {mc : Value} {fd fdC fd1 : FuncData} (F : Fun K "has_two_chains" "has_two_chains" s_has_two_chains f fd) (T : Nm mg) (O : FoC K CF) (Z : Fc K mg CF mc)
    (DC : Mt P w K mg base CX0 2 CF "children" ["self", "place"] (spKids CF) fC fdC) (L1 : Pr1 P w K mg base CF "flags" (spFFlags CF) p1 g1 fd1) : FnOk P w K mg base CX0 3 f fd ["forest"] (spTwoC CF) := by
  obtain ⟨ur, cr⟩ := Z.root
  refine F.ok scTw (fun vs H Q E h => ?_) (fun cdv A outer s H vs Q E hr h => ?_)
  · obtain ⟨x, ts, rfl, _⟩ := h
    rfl
  · obtain ⟨x, ts, rfl, fa, o, k⟩ := h
    have hu := hu_of hr
    have nd := scTw.nd
    have big : 1000 ≤ sizeLine := by decide
    have few := o.few
    have hr1 : Room 2 _ := hr.mono (by decide)
    refine ⟨_, pss_one (ps_ret (pe_and (pe_cmpR op_le (pe_callB call_len_seq (by rfl) T.len PySem.boot_len (pa_cons (pe_meth (pv 0) O.cl DC.mt DC.fn hr DC.bn .nil pass0 (pa_cons (pe_cval (pe_glob (v := .ref CF) (by rfl) Z.gF rfl)) pa_nil)) pa_nil)) pe_int (nomark _))
      (pe_one (pe_callB (cr_all rfl) (by rfl) T.all (by decide +kernel) (pa_cons (pe_lc (own := [("name", 1)]) (g := gName 1) (tt := tYes) (te := tOp (rI0 fun i j => .bl (decide (i ≤ j))) (tCB (fun xs H Q => ∃ p ys, xs = [.ref p] ∧ (SqL K H p ys ∨ SqT K H p ys) ∧ Q (.int ys.length) H) (tCons (tMeth CF "children" (spKids CF) [] E0 (tVar 0) (tCons (tVar 1) tNil)) tNil)) (tC (.int 1))) rfl nd
        (pi_list (pe_prop (pv 0) O.cl L1.pr L1.fn hr1 L1.bn .nil pass0 (by rfl)))
        (blkOk_by (N := NTw) (sc := defScope s_has_two_chains) (by decide +kernel)) (fun _ _ _ _ _ => pg_name (i := 1) nd rfl (Or.inl rfl)) (fun _ _ _ _ _ => pts_nil)
        (fun _ _ _ _ _ => pe_cmpR op_le (pe_callB call_len_seq (by rfl) T.len PySem.boot_len (pa_cons (pe_meth (pv 0) O.cl DC.mt DC.fn hr DC.bn .nil pass0 (pa_cons (pv 1) pa_nil)) pa_nil)) pe_int (nomark _))) pa_nil))))), ?_⟩
    obtain ⟨dx, dq, hx, hd⟩ := id fa
    refine ⟨_, rfl, x, dx, _, rfl, hx, rfl, CF, mc, _, ur, rfl, Z.rd, cr, x, ts, "", rfl, fa, o, .inl rfl, fun p H1 s1 np hp => ⟨p, _, rfl, .inl (SqL.of hp), _, _, rfl, rfl, _, rfl, ?_⟩⟩
    rw [List.length_map]
    refine ite2 (fun yes => ?_) (fun no => ?_)
    rotate_left
    · have e : twoC ts = false := by
        unfold twoC
        rw [decide_eq_false (fun z => no (decide_eq_true (by omega))), Bool.false_and]
      rw [e] at k
      exact k _ s1
    · have e : twoC ts = (ts.map Prod.fst).all fun n => decide ((kids ts n).length ≤ 1) := by
        unfold twoC
        rw [decide_eq_true (by have := of_decide_eq_true yes; omega), Bool.true_and]
      rw [e] at k
      refine ⟨_, rfl, x, dx, _, rfl, s1 _ _ hx, x, ts, rfl, fa.mono s1, fun pf nf => ⟨pf, rfl, ⟨_, SqL.of upd_same⟩, fun D nD => ?_⟩⟩
      obtain ⟨H2, e2⟩ : ∃ X, X = upd H1 pf (.lst ((ts.map Prod.fst).map V.str)) := ⟨_, rfl⟩
      have s2 : Same H1 H2 := e2 ▸ same_new nf
      have a2 : H2 pf = some (.lst ((ts.map Prod.fst).map V.str)) := by rw [e2]; exact upd_same
      rw [← e2] at nD ⊢
      refine lc_it walk_list (fun i H' => Same H2 H' ∧ H' D = some (.lst ((((ts.map Prod.fst).take i).map fun n => decide ((kids ts n).length ≤ 1)).map V.bl))) ⟨same_new nD, upd_same⟩ (fun i H' _ z => SqL.of (z.1 _ _ a2)) ?_ ?_
      · intro i y Ha Hb hi ⟨q1, q2⟩ ⟨eb, ex⟩
        subst eb
        obtain ⟨b, hb, rfl⟩ := map_of ex
        have mb := List.mem_of_getElem? hb
        have s0 := (s1.trans s2).trans q1
        refine ⟨rfl, ?_⟩
        refine ⟨_, rfl, x, dx, _, rfl, s0 _ _ hx, rfl, _, rfl, x, ts, b, rfl, fa.mono s0, o, .inr mb, fun pu Hu su npu hpu => ⟨pu, _, rfl, .inl (SqL.of hpu), _, _, rfl, rfl, ?_⟩⟩
        refine ⟨_, su _ _ q2, ?_, (q1.trans su).put nD, ?_⟩
        · rw [List.length_map, List.length_map, List.length_take, List.length_map]
          omega
        · rw [upd_same, take_more hb, List.map_append, List.map_append, List.length_map] <;> (first | rfl | (simp; omega))
      · intro H3 ⟨q1, q2⟩
        rw [List.length_map, List.take_length] at q2
        refine ⟨D, _, rfl, SqL.of q2, ?_⟩
        have := k _ ((s1.trans s2).trans q1)
        rw [show ((ts.map Prod.fst).all fun n => decide ((kids ts n).length ≤ 1)) = ((ts.map Prod.fst).map fun n => decide ((kids ts n).length ≤ 1)).all id by simp only [List.all_map] <;> rfl] at this
        exact this
theorem scMem : FnScope ["forest", "users"] ["forest", "users"] (defScope s_is_memoryless) := ⟨rfl, rfl, rfl, by decide +kernel, rfl, by decide +kernel, by decide +kernel⟩
theorem ok_mem {f fU fT CF CU : Addr} {fd fdU fdT : FuncData} {tm : Tok} (F : Fun K "is_memoryless" "is_memoryless" s_is_memoryless f fd) (gM : mg "MOST_COUNTED" = some (.int (10 ^ 30) tm)) (U : Dn P w K mg base (L2.CX P w) 3 "need_users" ["users", "most"] (spUsers K CU) fU fdU)
    (D2 : Dn P w K mg base CX0 3 "has_two_chains" ["forest"] (spTwoC CF) fT fdT) : FnOk P w K mg base (L2.CX P w) 4 f fd ["forest", "users"] (spMem K CF CU) := by
  refine F.okX scMem (fun vs H Q E h => ?_) (fun cdv A outer s H vs Q E hr h => ?_)
  · obtain ⟨x, ts, v, rfl, _⟩ := h
    rfl
  · obtain ⟨x, ts, v, rfl, fa, o, dv, k⟩ := h
    refine ⟨_, pss_cons (ps_expr (pe_call U.ok hr rfl U.mgn U.kp U.bn .nil (passes_call (takes_of rfl rfl rfl rfl) (fun _ _ _ _ h => h)) (pa_cons (pv 1) (pa_cons (pe_glob (v := .int (10 ^ 30)) (by rfl) gM ⟨_, rfl⟩) pa_nil))))
      (pss_one (ps_ret (pe_or (pe_cmpR op_eq (pv 1) pe_int (nomark _)) (pe_one (pe_call D2.ok hr rfl D2.mgn D2.kp D2.bn .nil pass0 (pa_cons (pv 0) pa_nil)))))), ?_⟩
    refine ⟨_, rfl, v, 10 ^ 30, rfl, dv, ?_⟩
    by_cases h : usersOk v (10 ^ 30) = true
    · rw [if_pos h] at k ⊢
      intro H1 s1
      refine ⟨_, rfl, ?_⟩
      cases v with
      | int n =>
        refine ⟨rfl, _, rfl, ?_⟩
        refine ite2 (fun yes => ?_) (fun no => ?_)
        · have e : memC ts (.int n) = true := by unfold memC; rw [yes, Bool.true_or]
          rw [e] at k
          exact k _ s1
        · have e : memC ts (.int n) = twoC ts := by
            unfold memC
            rw [show decide (V.int n = V.int 1) = false by cases q : decide (V.int n = V.int 1) with | true => exact absurd q no | false => rfl, Bool.false_or]
          rw [e] at k
          exact ⟨_, rfl, x, ts, rfl, fa.mono s1, o, fun H2 s2 => k _ (s1.trans s2)⟩
      | _ => cases h
    · rw [if_neg h] at k ⊢
      exact k
end
end FT


namespace FT
open PySem L2 TL ClX
section
variable {P : Program} {w : World} {K : PySem.W.Frag} {mg : Str → Option Value} {base : Heap}
abbrev NRes : List Str := ["forest", "users", "sizes", "found", "parents", "name", "place"]
theorem scRes : FnScope NRes ["forest", "users", "sizes"] (defScope s_residents_of) := ⟨rfl, rfl, rfl, by decide +kernel, rfl, by decide +kernel, by decide +kernel⟩
theorem ok_resid {f fP CF p1 g1 p2 g2 : Addr} {mc : Value} {fd fdP fd1 fd2 : FuncData} (F : Fun K "residents_of" "residents_of" s_residents_of f fd) (T : Nm mg) (O : FoC K CF) (Z : Fc K mg CF mc)
    (G : Dn P w K mg base CX0 3 "places_of" ["forest"] (spPlacesOf CF) fP fdP) (L1 : Pr1 P w K mg base CF "flags" (spFFlags CF) p1 g1 fd1) (L2 : Pr1 P w K mg base CF "parents" (spFParents CF) p2 g2 fd2) :
    FnOk P w K mg base CX0 4 f fd ["forest", "users", "sizes"] (spResid CF) := by
  obtain ⟨ur, cr⟩ := Z.root
  refine F.ok scRes (fun vs H Q E h => ?_) (fun cdv A outer s H vs Q E hr h => ?_)
  · obtain ⟨x, q, n, ts, kvs, rfl, _⟩ := h
    rfl
  · obtain ⟨x, q, n, ts, kvs, rfl, fa, o, hq, hv, k⟩ := h
    have hu := hu_of hr
    have hr2 : Room 2 _ := hr.mono (by decide)
    have big : 1000 ≤ sizeLine := by decide
    have few := o.few
    refine ⟨_, pss_cons (ps_setDc (i := 3) (own := [("place", 6)]) (g := gName 6) (tt := tYes) (tv := tIf (tTest (tOp rEq (tVar 6) (tCVal K (tC (.ref CF)) "ROOT"))) (tVar 1) (tDGet (tVar 2) (tVar 6))) rfl scRes.nd rfl rfl (swd_true rfl rfl rfl (by decide +kernel)) (pi_list (pe_call G.ok (hr.mono (by decide)) rfl G.mgn G.kp G.bn .nil pass0 (pa_cons (pv 0) pa_nil)))
        (blkOk_by (N := NRes) (sc := defScope s_residents_of) (by decide +kernel))
        (fun _ _ _ _ _ => pg_name (i := 6) scRes.nd rfl (Or.inl rfl)) (fun _ _ _ _ _ => pts_nil) (fun _ _ _ _ _ => pv 6)
        (fun _ _ _ _ _ => pe_ifExp (pt_cmpR op_eq (pv 6) (pe_cval (pe_glob (v := .ref CF) (by rfl) Z.gF rfl)) (nomark _)) (pv 1) (pe_dget hu (pv 2) (pv 6) (fun _ _ => rfl))))
      (pss_cons (ps_set (i := 4) scRes.nd rfl (.inl rfl) (pe_prop (pv 0) O.cl L2.pr L2.fn hr2 L2.bn .nil pass0 (by rfl)))
      (pss_cons (ps_for PassesOwn.never rfl (pi_list (pe_prop (pv 0) O.cl L1.pr L1.fn hr2 L1.bn .nil pass0 (by rfl))) (pg_name (i := 5) scRes.nd rfl (.inl rfl))
        (pss_one (ps_dput hu (pv 3) (pe_dget hu (pv 4) (pv 5) (fun _ _ => rfl)) (pe_op op_sub (pe_dget hu (pv 3) (pe_dget hu (pv 4) (pv 5) (fun _ _ => rfl)) (fun _ _ => rfl)) (pe_dget hu (pv 2) (pv 5) (fun _ _ => rfl))) rfl)))
      (pss_one (ps_ret (pv 3))))), ?_⟩
    obtain ⟨pls, epl⟩ : ∃ l, l = (("" : Str) :: ts.map Prod.fst) := ⟨_, rfl⟩
    have ndp : pls.Nodup := by rw [epl]; exact List.nodup_cons.mpr ⟨o.root, o.nd⟩
    have lpl : pls.length = ts.length + 1 := by rw [epl, List.length_cons, List.length_map]
    rw [← epl] at k
    refine ⟨_, rfl, x, ts, rfl, fa, few, fun p0 H0 s0 n0 a0 => ⟨p0, rfl, ⟨_, SqL.of a0⟩, fun D nD => ?_⟩⟩
    rw [← epl] at a0
    refine dc_it walk_list (fun i H' => Same H0 H' ∧ H' D = some (.dK (tblI (pls.take i) (resid [] n (szOf kvs))))) ⟨same_new nD, upd_same⟩ (fun i H' _ z => SqL.of (z.1 _ _ a0)) ?_ ?_
    · intro i y Ha Hb hi ⟨q1, q2⟩ ⟨eb, ex⟩
      subst eb
      obtain ⟨a, ha, rfl⟩ := map_of ex
      have ma : a ∈ pls := List.mem_of_getElem? ha
      have fresh : a ∉ pls.take i := fun hm => by
        obtain ⟨j, hj⟩ := List.mem_iff_getElem?.mp hm
        have jl := (List.getElem?_eq_some_iff.mp hj).1
        rw [List.length_take] at jl
        rw [List.getElem?_take, if_pos (by omega)] at hj
        have := (List.getElem?_inj (by omega) ndp).mp (hj.trans ha.symm)
        omega
      have fin : ∀ z, z = resid [] n (szOf kvs) a → ∃ kvs1 k1, V.str a = kV k1 ∧ Hb D = some (.dK kvs1) ∧ kvs1.length < sizeLine ∧ (Same H0 (upd Hb D (.dK (putK kvs1 k1 (.int z)))) ∧ (upd Hb D (.dK (putK kvs1 k1 (.int z)))) D = some (.dK (tblI (pls.take (i + 1)) (resid [] n (szOf kvs))))) := fun z ez =>
        ⟨_, Sum.inr a, rfl, q2, by rw [tblI_len, List.length_take]; omega, Same.put q1 nD, by rw [upd_same, tblI_snoc fresh ez, take_more ha]⟩
      refine ⟨rfl, ?_⟩
      refine ⟨_, rfl, ?_⟩
      refine ⟨_, rfl, CF, mc, _, ur, rfl, Z.rd, cr, rfl, _, rfl, ?_⟩
      by_cases e : a = ""
      · rw [decide_eq_true (show V.str a = V.str "" by rw [e])]
        refine iteT ⟨_, rfl, fin n ?_⟩
        rw [e]
        show n = n - 0
        omega
      · rw [decide_eq_false (show ¬ V.str a = V.str "" from fun z => e (V.str.inj z))]
        have mk : a ∈ ts.map Prod.fst := by
          rw [epl] at ma
          exact (List.mem_cons.mp ma).resolve_left e
        refine iteF ⟨_, rfl, _, rfl, q, .int (szOf kvs a), rfl, ?_, fin _ ?_⟩
        · have z := DGet.k (k := Sum.inr a) (q1 _ _ (s0 _ _ hq))
          rw [hv a mk] at z
          exact z
        · show szOf kvs a = (if a = "" then n else szOf kvs a) - 0
          rw [if_neg e]
          omega
    · intro H1 ⟨q1, q2⟩
      have lp2 : (pls.map V.str).length = pls.length := List.length_map _
      rw [lp2, List.take_length] at q2
      have s1 : Same H H1 := s0.trans q1
      have nD0 : H D = none := s0.free nD
      obtain ⟨dx, dq, hx, hd⟩ := id fa
      refine ⟨_, rfl, x, dx, _, rfl, s1 _ _ hx, x, ts, rfl, fa.mono s1, fun pp npp => ?_⟩
      have pD : D ≠ pp := ne_of_none q2 npp
      obtain ⟨H2, e2⟩ : ∃ X, X = upd H1 pp (.dK (prs ts)) := ⟨_, rfl⟩
      have s12 : Same H1 H2 := e2 ▸ same_new npp
      have a2 : H2 pp = some (.dK (prs ts)) := by rw [e2]; exact upd_same
      rw [← e2]
      have s2 := s1.trans s12
      refine ⟨_, rfl, x, dx, _, rfl, s2 _ _ hx, x, ts, rfl, fa.mono s2, fun pf npf => ⟨pf, rfl, ⟨_, SqL.of upd_same⟩, ?_⟩⟩
      obtain ⟨H3, e3⟩ : ∃ X, X = upd H2 pf (.lst ((ts.map Prod.fst).map V.str)) := ⟨_, rfl⟩
      have s23 : Same H2 H3 := e3 ▸ same_new npf
      have a3 : H3 pf = some (.lst ((ts.map Prod.fst).map V.str)) := by rw [e3]; exact upd_same
      rw [← e3]
      have s3 := s2.trans s23
      have pfD : pf ≠ D := fun z => by rw [z, s23 _ _ (s12 _ _ q2)] at a3; cases a3
      refine for_it walk_list (fun j σ' H' => (∃ u5, σ' = [some (.ref x), some (.int n), some (.ref q), some (.ref D), some (.ref pp), u5, none]) ∧ Same H H' ∧ H' pp = some (.dK (prs ts)) ∧ H' pf = some (.lst ((ts.map Prod.fst).map V.str)) ∧ H' D = some (.dK (tblI pls (resid (ts.take j) n (szOf kvs)))))
        ⟨⟨none, rfl⟩, s3, s23 _ _ a2, a3, s23 _ _ (s12 _ _ q2)⟩ (fun j σ' H' _ z => SqL.of z.2.2.2.1) ?_ ?_
      · intro j y σ' Ha Hb hj ⟨⟨u5, e⟩, sa, app, apf, aD⟩ ⟨eb, ex⟩
        subst e
        subst eb
        obtain ⟨a, ha, rfl⟩ := map_of ex
        obtain ⟨⟨a', pa⟩, hp, rfl⟩ := Option.map_eq_some_iff.mp (show (ts[j]?).map Prod.fst = some a by rw [← List.getElem?_map]; exact ha)
        have mp := List.mem_of_getElem? hp
        have mk : a' ∈ ts.map Prod.fst := List.mem_map.mpr ⟨_, mp, rfl⟩
        have ep := par_of o.nd mp
        obtain ⟨rk, r⟩ := o.up
        have mpa : pa ∈ pls := by
          rw [epl]
          exact List.mem_cons.mpr ((r _ mp).2.imp id And.left)
        have dg : DGet Hb pp (.str a') (some (.str pa)) := by
          have z := DGet.k (k := Sum.inr a') app
          rw [val_prs, ep] at z
          exact z
        refine ⟨_, rfl, _, rfl, _, rfl, pp, _, rfl, dg, D, .int (resid (ts.take j) n (szOf kvs) pa), rfl, ?_, ?_⟩
        · have z := DGet.k (k := Sum.inr pa) aD
          rw [tblI_val mpa] at z
          exact z
        · refine ⟨_, rfl, _, rfl, q, .int (szOf kvs a'), rfl, ?_, _, _, rfl, rfl, ?_⟩
          · have z := DGet.k (k := Sum.inr a') (sa _ _ hq)
            rw [hv a' mk] at z
            exact z
          · refine ⟨_, rfl, _, rfl, _, rfl, pp, _, rfl, dg, D, _, rfl, DPut.k (k := Sum.inr pa) aD (by rw [tblI_len]; omega), ?_⟩
            refine ⟨⟨_, rfl⟩, fun b u e => ?_, ?_, ?_, ?_⟩
            · rw [upd_ne (ne_of_none e nD0)]
              exact sa b u e
            · rw [upd_ne pD.symm]
              exact app
            · rw [upd_ne pfD]
              exact apf
            · rw [upd_same, tblI_put mpa]
              congr 2
              refine tblI_congr fun b _ => ?_
              rw [take_more hp, resid_snoc]
              by_cases e : b = pa
              · rw [if_pos e, if_pos e.symm, e]
              · rw [if_neg e, if_neg fun z => e z.symm]
      · intro σ' H4 ⟨⟨u5, e⟩, sa, app, apf, aD⟩
        subst e
        rw [List.length_map, List.length_map, List.take_length] at aD
        exact ⟨_, rfl, k D H4 sa nD0 aD⟩
end
end FT


namespace FT
open PySem L2 TL ClX
section
variable {P : Program} {w : World} {K : PySem.W.Frag} {mg : Str → Option Value} {base : Heap}
abbrev NFe : List Str := ["forest", "users", "sizes", "name", "left", "place"]
theorem scFe : FnScope NFe ["forest", "users", "sizes"] (defScope s_need_feasible) := ⟨rfl, rfl, rfl, by decide +kernel, rfl, by decide +kernel, by decide +kernel⟩
theorem ok_feas {f fR fI CF CS IS p1 g1 : Addr} {fd fdR fdI dS fd1 : FuncData} (F : Fun K "need_feasible" "need_feasible" s_need_feasible f fd) (T : Nm mg) (O : FoC K CF) (S : Er1 P w K mg base "InvalidSizes" "place" CS IS dS)
    (R : Dn P w K mg base CX0 4 "residents_of" ["forest", "users", "sizes"] (spResid CF) fR fdR) (I : Dn P w K mg base CX0 1 "is_integer" ["value", "least"] (spIsInt K) fI fdI) (L1 : Pr1 P w K mg base CF "flags" (spFFlags CF) p1 g1 fd1) :
    FnOk P w K mg base (L2.CX P w) 5 f fd ["forest", "users", "sizes"] (spFeas K CF CS) := by
  refine F.okX scFe (fun vs H Q E h => ?_) (fun cdv A outer s H vs Q E hr h => ?_)
  · obtain ⟨x, n, sv, ts, o, rfl, _⟩ := h
    rfl
  · obtain ⟨x, n, sv, ts, so, rfl, fa, o, hz, k⟩ := h
    have hu := hu_of hr
    have hr2 : Room 2 _ := hr.mono (by decide)
    have big : 1000 ≤ sizeLine := by decide
    have few := o.few
    have flags : PE (cxOf (L2.CX P w) P w K mg base NFe "need_feasible" (defScope s_need_feasible) f cdv A outer s H E) (.Name "forest" ⟨0, 0, 0, 0⟩) (tVar 0) := pv 0
    refine ⟨_, pss_cons (ps_if (PW.pt (pw_or (pt_not (pt_val (pe_callB call_isi (by rfl) T.isi (by decide +kernel) (pa_cons (pv 2) (pa_cons (pe_bltn (v := .ty "dict") (u := .type "dict") (by rfl) T.dct (by decide +kernel) rfl) pa_nil)))))
        (pw_or1 (pt_cmpR op_ne (pe_callB call_lenD (by rfl) T.len PySem.boot_len (pa_cons (pv 2) pa_nil)) (pe_callB call_len_seq (by rfl) T.len PySem.boot_len (pa_cons (pe_prop (pv 0) O.cl L1.pr L1.fn hr2 L1.bn .nil pass0 (by rfl)) pa_nil)) (nomark _)))))
        (pss_one (ps_err1 S rfl (takes_of rfl rfl rfl rfl) hr2 rfl pe_non)) pss_nil)
      (pss_cons (ps_if (pt_not (pt_val (pe_callB (cr_all rfl) (by rfl) T.all (by decide +kernel) (pa_cons (pe_lc (own := [("name", 3)]) (g := gName 3) (tt := tYes) rfl scFe.nd (pi_list (pe_prop (pv 0) O.cl L1.pr L1.fn hr2 L1.bn .nil pass0 (by rfl)))
          (blkOk_by (N := NFe) (sc := defScope s_need_feasible) (by decide +kernel))
          (fun _ _ _ _ _ => pg_name (i := 3) scFe.nd rfl (Or.inl rfl)) (fun _ _ _ _ _ => pts_nil) (fun _ _ _ _ _ => pe_cmp (pc_din hu (pv 3) (pv 2)) rfl)) pa_nil))))
        (pss_one (ps_err1 S rfl (takes_of rfl rfl rfl rfl) hr2 rfl pe_non)) pss_nil)
      (pss_cons (ps_for (passes_of rfl) rfl (pi_list (pe_prop (pv 0) O.cl L1.pr L1.fn hr2 L1.bn .nil pass0 (by rfl))) (pg_name (i := 3) scFe.nd rfl (.inl rfl))
        (pss_one (ps_if (pt_not (pt_val (pe_call I.ok (hr.mono (by decide)) rfl I.mgn I.kp I.bn .nil pass0 (pa_cons (pe_dget hu (pv 2) (pv 3) (fun _ _ => rfl)) (pa_cons pe_int pa_nil))))) (pss_one (ps_err1 S rfl (takes_of rfl rfl rfl rfl) hr2 rfl (pv 3))) pss_nil)))
      (pss_cons (ps_set (i := 4) scFe.nd rfl (.inl rfl) (pe_call R.ok hr rfl R.mgn R.kp R.bn .nil pass0 (pa_cons (pv 0) (pa_cons (pv 1) (pa_cons (pv 2) pa_nil)))))
      (pss_one (ps_lock (ps_for (passes_of rfl) rfl (pi_keys (pv 4)) (pg_name (i := 5) scFe.nd rfl (.inl rfl))
        (pss_one (ps_if (pt_cmpR op_lt (pe_dget hu (pv 4) (pv 5) (fun _ _ => rfl)) pe_int (nomark _)) (pss_one (ps_err1 S rfl (takes_of rfl rfl rfl rfl) hr2 rfl (pv 5))) pss_nil)))))))), ?_⟩
    obtain ⟨dx, dq, hx, hd⟩ := id fa
    cases so with
    | none =>
      obtain ⟨t, d, nd⟩ := hz
      refine ⟨_, rfl, sv, _, _, _, _, rfl, .ty _, d.ty, d.dict_, _, rfl, ?_⟩
      rw [decide_eq_false nd]
      show if true = true then _ else _
      rw [if_pos rfl]
      exact iteT (out1 k Same.refl)
    | some kvs =>
      obtain ⟨q, rfl, hq, dat⟩ := hz
      refine ⟨_, rfl, .ref q, _, _, _, _, rfl, .ty _, (Dat.dct (K := K) hq).ty, (Dat.dct (K := K) hq).dict_, _, rfl, ?_⟩
      rw [decide_eq_true rfl]
      refine iteF ?_
      refine ⟨_, rfl, q, kvs, rfl, hq, ?_⟩
      refine ⟨_, rfl, x, dx, _, rfl, hx, x, ts, rfl, fa, fun pf nf => ⟨pf, _, rfl, .inl (SqL.of upd_same), rfl, _, rfl, ?_⟩⟩
      rw [List.length_map, List.length_map, len_int]
      have s1 := same_new (o := .lst ((ts.map Prod.fst).map V.str)) nf
      obtain ⟨H1, e1⟩ : ∃ X, X = upd H pf (.lst ((ts.map Prod.fst).map V.str)) := ⟨_, rfl⟩
      rw [← e1] at s1 ⊢
      by_cases el : kvs.length = ts.length
      · rw [decide_eq_true el]
        refine iteF ?_
        -- all there?
        refine ⟨_, rfl, x, dx, _, rfl, s1 _ _ hx, x, ts, rfl, fa.mono s1, fun pg ng => ⟨pg, rfl, ⟨_, SqL.of upd_same⟩, fun D nD => ?_⟩⟩
        obtain ⟨H2, e2⟩ : ∃ X, X = upd H1 pg (.lst ((ts.map Prod.fst).map V.str)) := ⟨_, rfl⟩
        have s12 : Same H1 H2 := e2 ▸ same_new ng
        have a2 : H2 pg = some (.lst ((ts.map Prod.fst).map V.str)) := by rw [e2]; exact upd_same
        have s2 := s1.trans s12
        rw [← e2] at nD ⊢
        refine lc_it walk_list (fun i H' => Same H2 H' ∧ H' D = some (.lst ((((ts.map Prod.fst).take i).map fun a => (valV kvs (Sum.inr a)).isSome).map V.bl))) ⟨same_new nD, upd_same⟩ (fun i H' _ z => SqL.of (z.1 _ _ a2)) ?_ ?_
        · intro i y Ha Hb hi ⟨q1, q2⟩ ⟨eb, ex⟩
          subst eb
          obtain ⟨a, ha, rfl⟩ := map_of ex
          refine ⟨rfl, ?_⟩
          refine ⟨_, rfl, _, rfl, q, _, rfl, DGet.k (k := Sum.inr a) (q1 _ _ (s2 _ _ hq)), _, q2, ?_, Same.put q1 nD, ?_⟩
          · rw [List.length_map, List.length_map, List.length_take, List.length_map]
            omega
          · rw [upd_same, take_more ha, List.map_append, List.map_append] <;> rfl
        · intro H3 ⟨q1, q2⟩
          have s3 := s2.trans q1
          rw [List.length_map, List.take_length] at q2
          refine ⟨D, _, rfl, SqL.of q2, _, rfl, ?_⟩
          have eall : (((ts.map Prod.fst).map fun a => (valV kvs (Sum.inr a)).isSome)).all id = (ts.map Prod.fst).all fun a => (valV kvs (Sum.inr a)).isSome := by rw [List.all_map] <;> rfl
          rw [eall]
          cases ea : (ts.map Prod.fst).all fun a => (valV kvs (Sum.inr a)).isSome with
          | false =>
            refine iteT (out1 (H := H) ?_ s3)
            have e : feE CS ts n (some kvs) = some (.e1 CS "place" .non) := by
              unfold feE
              rw [feas_some, if_neg (fun z => z el), if_pos ea] <;> rfl
            rw [e] at k
            exact k
          | true =>
            refine iteF ?_
            have there : ∀ a ∈ ts.map Prod.fst, ∃ v, valV kvs (Sum.inr a) = some v := fun a ha => Option.isSome_iff_exists.mp (List.all_eq_true.mp ea a ha)
            -- one by one
            refine ⟨_, rfl, x, dx, _, rfl, s3 _ _ hx, x, ts, rfl, fa.mono s3, fun ph nh => ⟨ph, rfl, ⟨_, SqL.of upd_same⟩, ?_⟩⟩
            obtain ⟨H4, e4⟩ : ∃ X, X = upd H3 ph (.lst ((ts.map Prod.fst).map V.str)) := ⟨_, rfl⟩
            have s4 : Same H H4 := s3.trans (e4 ▸ same_new nh)
            have a4 : H4 ph = some (.lst ((ts.map Prod.fst).map V.str)) := by rw [e4]; exact upd_same
            rw [← e4]
            refine for_it walk_list (fun j σ' H' => (∃ u3, σ' = [some (.ref x), some (.int n), some (.ref q), u3, none, none]) ∧ Same H4 H' ∧ ((ts.map Prod.fst).take j).find? (badKey kvs) = none)
              ⟨⟨none, rfl⟩, Same.refl, rfl⟩ (fun j σ' H' _ z => SqL.of (z.2.1 _ _ a4)) ?_ ?_
            · intro j y σ' Ha Hb hj ⟨⟨u3, e⟩, sa, good⟩ ⟨eb, ex⟩
              subst e
              subst eb
              obtain ⟨a, ha, rfl⟩ := map_of ex
              obtain ⟨v, hv⟩ := there a (List.mem_of_getElem? ha)
              have s0 := s4.trans sa
              refine ⟨_, rfl, _, rfl, q, v, rfl, by have z := DGet.k (k := Sum.inr a) (s0 _ _ hq); rw [hv] at z; exact z, v, 0, rfl, (dat _ (valV_mem hv)).mono s0, _, rfl, ?_⟩
              cases eg : isGe v 0 with
              | true => exact iteF ⟨⟨_, rfl⟩, sa, find_more ha good (by unfold badKey; rw [hv]; show (!isGe v 0) = false; rw [eg] <;> rfl)⟩
              | false =>
                refine iteT ⟨_, rfl, out1 (H := H) ?_ s0⟩
                have e : feE CS ts n (some kvs) = some (.e1 CS "place" (.str a)) := by
                  unfold feE
                  rw [feas_some, if_neg (fun z => z el), if_neg (by rw [ea]; decide), find_at ha good (by unfold badKey; rw [hv]; show (!isGe v 0) = true; rw [eg] <;> rfl)] <;> rfl
                rw [e] at k
                exact k
            · intro σ' H5 ⟨⟨u3, e⟩, sa, good⟩
              subst e
              rw [List.length_map, List.take_length] at good
              have s5 := s4.trans sa
              have nums : ∀ a ∈ ts.map Prod.fst, valV kvs (Sum.inr a) = some (.int (szOf kvs a)) := fun a ha => by
                obtain ⟨v, hv⟩ := there a ha
                have g := List.find?_eq_none.mp good a ha
                unfold badKey at g
                rw [hv] at g
                unfold szOf
                rw [hv]
                cases v with
                | int i => rfl
                | _ => exact absurd rfl g
              refine ⟨_, rfl, _, rfl, _, rfl, x, q, n, ts, kvs, rfl, fa.mono s5, o, s5 _ _ hq, nums, fun F H6 s56 nF aF => ?_⟩
              have s6 := s5.trans s56
              have nF0 := s5.free nF
              refine ⟨F, _, aF, trivial, fun od => ⟨_, rfl, F, od, rfl, .inl ⟨_, upd_same, ?_⟩⟩⟩
              obtain ⟨pls, epl⟩ : ∃ l, l = (("" : Str) :: ts.map Prod.fst) := ⟨_, rfl⟩
              rw [← epl] at aF ⊢
              have ek : feE CS ts n (some kvs) = ((pls.find? fun p => decide (resid ts n (szOf kvs) p < 0)).map V.str).map fun v => .e1 CS "place" v := by
                unfold feE
                rw [feas_some, if_neg (fun z => z el), if_neg (by rw [ea]; decide), good, epl]
              rw [ek] at k
              refine for_it walk_keys (fun j σ' H' => (∃ u5, σ' = [some (.ref x), some (.int n), some (.ref q), u3, some (.ref F), u5]) ∧ Same H H' ∧ H' F = some (.frz od (.dK (tblI pls (resid ts n (szOf kvs))))) ∧ (pls.take j).find? (fun p => decide (resid ts n (szOf kvs) p < 0)) = none)
                ⟨⟨none, rfl⟩, Same.put s6 nF0, upd_same, rfl⟩ (fun j σ' H' _ z => z.2.2.1) ?_ ?_
              · intro j y σ' Ha Hb hj ⟨⟨u5, e⟩, sa, aF', good'⟩ ⟨eb, kk, vv, hk, ey⟩
                subst e
                subst eb
                subst ey
                obtain ⟨a, ha, rfl, rfl⟩ := tblI_at hk
                refine ⟨_, rfl, _, rfl, F, .int (resid ts n (szOf kvs) a), rfl, .inl ⟨_, Sum.inr a, .inr ⟨od, aF'⟩, rfl, (tblI_val (List.mem_of_getElem? ha)).symm⟩, _, _, rfl, rfl, _, rfl, ?_⟩
                by_cases neg : resid ts n (szOf kvs) a < 0
                · rw [decide_eq_true neg]
                  refine iteT ⟨_, rfl, out1 (H := H) ?_ sa⟩
                  rw [find_at ha good' (decide_eq_true neg)] at k
                  exact k
                · rw [decide_eq_false neg]
                  exact iteF ⟨⟨_, rfl⟩, sa, aF', find_more ha good' (decide_eq_false neg)⟩
              · intro σ' H7 ⟨⟨u5, e⟩, sa, aF', good'⟩
                rw [tblI_len, List.take_length] at good'
                rw [good'] at k
                exact ⟨aF', k _ (Same.put sa nF0)⟩
      · rw [decide_eq_false el]
        show if true = true then _ else _
        rw [if_pos rfl]
        refine out1 (H := H) ?_ s1
        have e : feE CS ts n (some kvs) = some (.e1 CS "place" .non) := by
          unfold feE
          rw [feas_some, if_pos el] <;> rfl
        rw [e] at k
        exact k
end
end FT


/-! Own: repr over the layer. repr asks what calls of repr are under way (A.guards), and the layer's contracts do not tell it: a contract FnG that tells it too, its rule for a def's body, its call, the end. -/
namespace L2
open PySem PySem.Spec PyProof.Rows
/-- no repr is under way -/
abbrev Clr (A : Around) : Prop := A.guards = some []
theorem Clr.deeper {A : Around} {env : Env} (h : Clr A) : Clr (A.deeper env) := by
  have h' : A.guards = some [] := h
  show (A.deeper env).guards = some []
  first
    | exact h'
    | (simp [Around.deeper, h', pushGuards, Code.guards, Code.isGuard])
structure FnG (P : Program) (w : World) (K : PySem.W.Frag) (mg : Str → Option Value) (base : Heap) (CX : CXT) (k : Nat) (f : Addr) (fd : FuncData) (ps : List Str) (sp : Sp) : Prop where
  len : ∀ vs H Q E, sp vs H Q E → vs.length = ps.length
  run : ∀ (A : Around) (outer : List Env) (s : Shared) (H : Hp) (args : Args) (us : List Value) (vs : List V) (Q : VK) (E : XK), Clr A → Room k A → Env0 P w K mg base A outer s H → BindsTo s fd args (ps.zip us) → Vals vs us → sp vs H Q E →
    codeAny (model P w) A (.call (.ref f) args) (CR CX outer P w H s Q E) s
theorem FnOk.g {P : Program} {w : World} {K : PySem.W.Frag} {mg : Str → Option Value} {base : Heap} {CX : CXT} {k : Nat} {f : Addr} {fd : FuncData} {ps : List Str} {sp : Sp} (F : FnOk P w K mg base CX k f fd ps sp) : FnG P w K mg base CX k f fd ps sp :=
  ⟨F.len, fun A outer s H args us vs Q E _ => F.run A outer s H args us vs Q E⟩
section
variable {P : Program} {w : World} {K : PySem.W.Frag} {mg : Str → Option Value} {base : Heap}
/-- a def by its body, where nothing is raised out of it -/
theorem Fun.okG {x qual : Str} {st : Stmt} {f : Addr} {fd : FuncData} {N ps : List Str} {k : Nat} {sp : Sp} (F : Fun K x qual st f fd) (S : FnScope N ps (defScope st)) (len : ∀ vs H Q E, sp vs H Q E → vs.length = ps.length)
    (body : ∀ (cdv : Value) (A : Around) (outer : List Env) (s : Shared) (H : Hp) (vs : List V) (Q : VK) (E : XK), Clr A → Room k (A.deeper (envOfC qual (defScope st) s.heap.objs.size f cdv)) → sp vs H Q E →
      ∃ t, PSs (cxOf CX0 P w K mg base N qual (defScope st) f cdv A outer s H E).nox (defBody st) t ∧ t { nx := fun _ H' => Q .non H', rt := Q } (start N vs) H) : FnG P w K mg base CX0 (k + 1) f fd ps sp := by
  obtain ⟨oc, od, kV, doc, pm, an, cdv, ct, osl, rfl, lk, code⟩ := F.ex
  refine ⟨len, fun A outer s H args us vs Q E clr room e0 binds rel want => ?_⟩
  have nps := len _ _ _ _ want
  have KX : K.In s.heap := e0.mod.kin.keeps fun b o e => (e0.bs b o e).1
  have lim : s.heap.NoLimit := e0.mod.nolimit.keeps fun b o e => (e0.bs b o e).1
  refine codeAny_call_function room.depth (KX _ _ lk) rfl S.co S.gen rfl (PySem.W.codeRec_of KX code) (binds _ _ _ _ (wpAny_newFunctionEnv_cells S.kind (fun y hy => ?_) fun env he s1 x => ?_))
  · obtain ⟨n, v⟩ := y
    exact (S.par n (List.of_mem_zip hy).1).elim .inl fun q => .inr ⟨q, PySem.W.cellsFrom_some _ _ _ (.inl q)⟩
  · subst he
    obtain ⟨t, term, q⟩ := body cdv A outer s H vs Q E clr (room.deeper _) want
    have I : Inv (cxOf CX0 P w K mg base N qual (defScope st) f cdv A outer s H E) [] (start N vs) H s1 := inv_start S room.hd e0 nps rel x
    refine ⟨lim.keeps x.toInCall.keep, codeAny_func (wpAny_mono (term.nox.run [] s1 (start N vs) H _ I q) (fun fl s' z => ?_) fun _ _ z => z)⟩
    match fl, z with
    | .ret u, ⟨v, _, H', J, rv, q⟩ => exact ⟨v, H', J.os, J.bare, J.base, J.hok, rv, q⟩
    | .next, ⟨_, H', J, q⟩ => exact ⟨.non, H', J.os, J.bare, J.base, J.hok, rfl, q⟩
    | .brk, ⟨_, _, _, q⟩ => exact q.elim
    | .cont, ⟨_, _, _, q⟩ => exact q.elim
end
section
variable {X : Cx} {CX : CXT} {k : Nat} {f : Addr} {fd : FuncData} {ps : List Str} {sp : Sp} {dvs : List V} {ds : List Value} {E : XK} {x : Str} {p pos : Pos} {e : Expr} {es : List Expr} {t : TA}
/-! ### repr -/
/-- what is shown: data without dicts, or the empty dict -/
def Shw (K : PySem.W.Frag) (H : Hp) (x : V) (d : PyData) : Prop := (Dp K H x d ∧ d.hasDict = false) ∨ ∃ a, x = .ref a ∧ H a = some (.dK []) ∧ d = .dict []
def rRepr (K : PySem.W.Frag) : List V → Hp → VK → Prop := fun xs H Q => ∃ (x : V) (d : PyData), xs = [x] ∧ Shw K H x d ∧ d.showable = true ∧ d.depth ≤ 60 ∧ d.shown.length ≤ sizeLine ∧ Q (.str d.shown) H
theorem Shw.reads {pins : List (Addr × Obj)} {σ : St} {H : Hp} {s : Shared} {x : V} {u : Value} {d : PyData} (h : Shw X.K H x d) (I : Inv X pins σ H s) (r : RelV x u) : ∃ as, Reads s.heap u d as ∧ (d.hasDict = true → sysModules ∉ as) := by
  rcases h with ⟨h, nd⟩ | ⟨a, rfl, e, rfl⟩
  · obtain ⟨as, q⟩ := Dp.reads I d x u h r
    exact ⟨as, q, PyData.noDict_hsm nd⟩
  · obtain rfl : u = Value.ref a := r
    obtain ⟨_, ns, vs, kv, o, es, ep, h1, h2, h3, h4⟩ := (show ObjOk X.prog X.w H s.heap a (.dK []) from I.hok a _ e)
    cases kv
    have hes : es.toList = [] := by
      obtain ⟨_, h5, _⟩ := h4
      revert h5
      generalize es.toList = l
      intro h5
      cases h5
      rfl
    refine ⟨a :: [] ++ [], .dict h1 h2.1 h3 (by rw [hes]; exact .nil) (by rw [hes]; exact .nil), fun _ hm => ?_⟩
    have hm' : sysModules = a := by simpa using hm
    rw [hm'] at ns
    simp at ns
theorem call_repr (clr : Clr X.A) (hu : X.A.units + 64 < cLine) : CallR X (.builtin "repr") (rRepr X.K) := by
  intro pins s σ H xs us Q I r h
  obtain ⟨x, d, rfl, sh, ok, dep, few, q⟩ := h
  obtain ⟨u, rfl, ru⟩ := vals1 r
  obtain ⟨as, rd, sm⟩ := sh.reads I ru
  have fin : ∀ h' (t : Tok) tk, (∀ b o, s.heap.get? b = some o → h'.get? b = some o) → EP X pins σ Q (.str d.shown t) { s with heap := h', toks := tk } := fun h' t tk kp => ⟨.str d.shown, H, I.kept kp, ⟨t, rfl⟩, q⟩
  cases u with
  | ref a => exact repr_of_reads' rd ok sm clr (by omega) (fun _ _ z => z) fin few
  | none => cases rd; exact PySem.P.repr_of_none (fin _ _ _ fun _ _ z => z)
  | bool b => cases rd; exact PySem.P.repr_of_bool (fin _ _ _ fun _ _ z => z)
  | int i t => cases rd; exact PySem.P.repr_of_int (by simpa [PyData.showable] using ok) (fin _ _ _ fun _ _ z => z)
  | str y t => cases rd; exact PySem.P.repr_of_str (fin _ _ _ fun _ _ z => z) few
  | _ => cases rd
end
end L2


/-! a dict with one key that is None or a tuple beside ints and texts: it is stored, counted, walked by keys, its class is asked -/
namespace PySem
open Sem (wp)
section
variable {prog : Program} {w : World} {A : Around} {E : Value → Shared → Prop} {s : Shared}
/-- no stored key is this one: what is stored is carried by value -/
structure Missed (s : Shared) (k : NestedKey) (es : Array DictEntry) : Prop where
  all : ∀ e ∈ es, carriedByValue e.key = true ∧ ∃ k', NestedIs s.heap k' e.key ∧ k'.depth = 0 ∧ NestedKey.beq k' k = false
end
end PySem
namespace PySem
open Sem (wp)
section
variable {prog : Program} {w : World} {A : Around} {E : Value → Shared → Prop} {s : Shared}
end
end PySem
namespace L2
open PySem PySem.Spec PyProof.Rows
/-- a plain dict whose keys may be of any kind: what is stored, in order -/
def RawO (d : Addr) (rows : List (V × V)) : HO := .ext fun h => (d == sysModules) = false ∧ rows.length ≤ sizeLine ∧ ∃ es ep, h.DictRaw d es ep ∧ Paired (fun (r : V × V) (e : DictEntry) => RelV r.1 e.key ∧ RelV r.2 e.val) rows es.toList
def rowsK (kvs : List (Key × V)) : List (V × V) := kvs.map fun p => (kV p.1, p.2)
/-- None, or a tracked tuple of ints and texts -/
def OddK (H : Hp) (y : V) : Prop := y = .non ∨ ∃ (b : Addr) (ks : List Key), y = .ref b ∧ H b = some (.tup (ks.map kV))
def nkK : Key → NestedKey
  | .inl i => .num i
  | .inr x => .text x
theorem raw_of {P : Program} {w : World} {H : Hp} {h : Heap} {d : Addr} {rows : List (V × V)} (x : ObjOk P w H h d (RawO d rows)) :
    (d == sysModules) = false ∧ rows.length ≤ sizeLine ∧ ∃ es ep, h.DictRaw d es ep ∧ Paired (fun (r : V × V) (e : DictEntry) => RelV r.1 e.key ∧ RelV r.2 e.val) rows es.toList := x.1
/-- d[y] = v, y None or a tuple, d a dict of ints and texts -/
def RPut (H : Hp) (a : Addr) (y v : V) (H' : Hp) : Prop := ∃ kvs, H a = some (.dK kvs) ∧ OddK H y ∧ kvs.length < sizeLine ∧ H' = upd H a (RawO a (rowsK kvs ++ [(y, v)]))
section
variable {X : Cx} {pins : List (Addr × Obj)} {σ : St} {H : Hp} {s : Shared} {a : Addr} {y v : V} {u r : Value} {A : Around} {E : Value → Shared → Prop}
end
end L2
namespace L2
open PySem PySem.Spec PyProof.Rows
/-- d[y] = v, y of any kind -/
def sRPut (td ty tv : TE) : TS := fun D σ H => tv σ H fun v H1 => td σ H1 fun x H2 => ty σ H2 fun y H3 => ∃ a H4, x = .ref a ∧ (DPut H3 a y v H4 ∨ RPut H3 a y v H4) ∧ D.nx σ H4
/-- the rows of a dict: of ints and texts, or of any keys -/
def RowsO (d : Addr) (u : HO) (rows : List (V × V)) : Prop := (∃ kvs, u = .dK kvs ∧ rows = rowsK kvs) ∨ u = RawO d rows
def Itkr (d : Addr) (o : Obj) (rows : List (V × V)) : It :=
  ⟨fun i H => H d = some (.frz o (RawO d rows)) ∧ i < rows.length, fun i H x H' => H' = H ∧ ∃ v, rows[i]? = some (x, v), fun i H => H d = some (.frz o (RawO d rows)) ∧ rows.length ≤ i⟩
section
variable {X : Cx} {pins : List (Addr × Obj)} {σ : St} {H : Hp} {s : Shared} {d : Addr} {o : Obj} {rows : List (V × V)}
end
section
variable {P : Program} {w : World} {K : PySem.W.Frag} {tg : Expr} {d : Addr} {o : Obj} {es : Array DictEntry} {ep : Nat}
end
/-- for k in d: d of ints and texts, or of any keys (locked) -/
def iKeysO (td : TE) : TI := fun σ H R => td σ H fun x H1 => ∃ (d : Addr) (o : Obj) (u : HO) (rows : List (V × V)), x = .ref d ∧ H1 d = some (.frz o u) ∧ RowsO d u rows ∧
  ∀ J, Walk J rows.length (fun H => H d = some (.frz o u)) (fun i H x H' => H' = H ∧ ∃ v, rows[i]? = some (x, v)) → R J H1
section
variable {X : Cx} {tg e : Expr} {td : TE}
/-- isinstance(d, dict), d of any keys -/
theorem call_isiR : CallR X (.builtin "isinstance") (fun xs H Q => ∃ (a : Addr) (rows : List (V × V)) (o : Option Obj), xs = [.ref a, .ty "dict"] ∧ (H a = some (RawO a rows) ∨ ∃ o, H a = some (.frz o (RawO a rows))) ∧ Q (.bl true) H) := by
  intro pins s σ H xs us Q I r h
  obtain ⟨a, rows, _, rfl, ha, q⟩ := h
  obtain ⟨u1, u2, rfl, r1, r2⟩ := vals2 r
  cases (show u1 = Value.ref a from r1)
  cases (show u2 = Value.type "dict" from r2)
  have ok : ObjOk X.prog X.w H s.heap a (RawO a rows) := by
    rcases ha with ha | ⟨o, ha⟩
    · exact I.hok a _ ha
    · exact (show s.heap.get? a = some o ∧ ObjOk X.prog X.w H s.heap a (RawO a rows) from I.hok a _ ha).2
  obtain ⟨_, _, es, ep, ⟨o, ho, hx, _⟩, _⟩ := raw_of ok
  exact PySem.W.kia_one PySem.W.kitx_dict I.kIn ⟨o, ho, hx.1⟩ (kit_ty (r := true) (by decide +kernel)) (fun z => nomatch z) fun tk => ⟨.bl true, H, I.tok tk, rfl, q⟩
theorem call_len_raw {pr : Program} {wd : World} {A : Around} {E : Value → Shared → Prop} {s : Shared} {d : Addr} {es : Array DictEntry} {ep : Nat} {Q : Value → Shared → Prop} (hd : (d == sysModules) = false) (hm : s.heap.DictRaw d es ep) (hfit : (es.size : Int) < 2 ^ 63)
    (h : Q (.int es.size (s.toks + 1)) { s with toks := s.toks + 1 + 1 }) : wpAny (model pr wd) A (call (.builtin "len") [.ref d]) Q E s := by
  refine Calls.call_function_entry kind_len plain_len entry_len (args_len1 _) ?_
  unfold Builtin.«len»
  refine wpAny_bind (m := oneArg "len" _) (wpAny_pure ?_)
  refine wpAny_bind (m := callSpecial? (.ref d) (Str.ofString "__len__")) (wpAny_callSpecial?_slot (name := Str.ofString "__len__") hm.typeIs F.slot_dict_len
    (call_meetsIn F.slot_dict_len hm.typeIs F.entry_dict_len (F.args_dict_len_1 _) (meets_dict_len_raw d hd) ⟨es, ep, hm, ?_⟩))
  show wpAny _ _ _ _ _ { s with toks := s.toks + 1 }
  refine wpAny_bind (wpAny_holding (wpAny_pure ?_))
  refine wpAny_bind (wpAny_letGo ?_)
  show wpAny _ _ (if ((es.size : Nat) : Int) < 0 then _ else _) _ _ _
  rw [if_neg (by omega)]
  show wpAny _ _ (if ((es.size : Nat) : Int) ≥ 2 ^ 63 then _ else _) _ _ _
  rw [if_neg (by omega)]
  exact wpAny_bind (wpAny_mkInt (wpAny_pure ⟨_, rfl, h⟩))
def rLenR : List V → Hp → VK → Prop := fun xs H Q => ∃ (a : Addr) (rows : List (V × V)), xs = [V.ref a] ∧ H a = some (RawO a rows) ∧ Q (.int ((rows.length : Nat) : Int)) H
theorem call_lenR : CallR X (.builtin "len") rLenR := by
  intro pins s σ H xs us Q I r h
  obtain ⟨a, rows, rfl, ha, q⟩ := h
  obtain ⟨u, rfl, ru⟩ := vals1 r
  obtain rfl : u = .ref a := ru
  obtain ⟨hs, z, es, ep, dr, p⟩ := raw_of (I.hok a _ ha)
  have hl : rows.length = es.size := by
    have l := Paired.length p
    rw [Array.length_toList] at l
    exact l
  refine call_len_raw hs dr (by rw [← hl]; rw [sizeLine_eq] at z; omega) ?_
  rw [← hl]
  exact ⟨.int ((rows.length : Nat) : Int), H, I.tok _, ⟨_, rfl⟩, q⟩
end
end L2


/-! need_feasible, where the sizes may be a dict with a key of another kind -/
namespace FT
open PySem L2 TL ClX
theorem FnOk.or {P : Program} {w : World} {K : PySem.W.Frag} {mg : Str → Option Value} {base : Heap} {CX : CXT} {k : Nat} {f : Addr} {fd : FuncData} {ps : List Str} {sp sp' : Sp} (h : FnOk P w K mg base CX k f fd ps sp) (h' : FnOk P w K mg base CX k f fd ps sp') :
    FnOk P w K mg base CX k f fd ps (fun vs H Q E => sp vs H Q E ∨ sp' vs H Q E) := by
  refine ⟨fun vs H Q E q => ?_, fun A outer s H args us vs Q E r e0 b v q => ?_⟩
  · rcases q with q | q
    · exact h.len _ _ _ _ q
    · exact h'.len _ _ _ _ q
  · rcases q with q | q
    · exact h.run A outer s H args us vs Q E r e0 b v q
    · exact h'.run A outer s H args us vs Q E r e0 b v q
def spFeasR (CF CS : Addr) : Sp := fun vs H _ E => ∃ (x b : Addr) (n : Int) (ts : List (Str × Str)) (rows : List (V × V)), vs = [.ref x, .int n, .ref b] ∧ FAt CF H x ts ∧ TreeOk ts ∧ H b = some (RawO b rows) ∧ rows.length ≠ ts.length ∧ Out H E (.e1 CS "place" .non)
def spFeasM (K : PySem.W.Frag) (CF CS : Addr) : Sp := fun vs H Q E => spFeas K CF CS vs H Q E ∨ spFeasR CF CS vs H Q E
section
variable {P : Program} {w : World} {K : PySem.W.Frag} {mg : Str → Option Value} {base : Heap}
theorem ok_feasM {f fR fI CF CS IS p1 g1 : Addr} {fd fdR fdI dS fd1 : FuncData} (F : Fun K "need_feasible" "need_feasible" s_need_feasible f fd) (T : Nm mg) (O : FoC K CF) (S : Er1 P w K mg base "InvalidSizes" "place" CS IS dS)
    (R : Dn P w K mg base CX0 4 "residents_of" ["forest", "users", "sizes"] (spResid CF) fR fdR) (I : Dn P w K mg base CX0 1 "is_integer" ["value", "least"] (spIsInt K) fI fdI) (L1 : Pr1 P w K mg base CF "flags" (spFFlags CF) p1 g1 fd1) :
    FnOk P w K mg base (L2.CX P w) 5 f fd ["forest", "users", "sizes"] (spFeasM K CF CS) := by
  refine FnOk.or (ok_feas F T O S R I L1) ?_
  refine F.okX scFe (fun vs H Q E h => ?_) (fun cdv A outer s H vs Q E hr h => ?_)
  · obtain ⟨x, b, n, ts, rows, rfl, _⟩ := h
    rfl
  · obtain ⟨x, b, n, ts, rows, rfl, fa, o, hb, ne, k⟩ := h
    have hu := hu_of hr
    have hr2 : Room 2 _ := hr.mono (by decide)
    have big : 1000 ≤ sizeLine := by decide
    have few := o.few
    refine ⟨_, pss_cons (ps_if (PW.pt (pw_or (pt_not (pt_val (pe_callB call_isiR (by rfl) T.isi (by decide +kernel) (pa_cons (pv 2) (pa_cons (pe_bltn (v := .ty "dict") (u := .type "dict") (by rfl) T.dct (by decide +kernel) rfl) pa_nil)))))
        (pw_or1 (pt_cmpR op_ne (pe_callB call_lenR (by rfl) T.len PySem.boot_len (pa_cons (pv 2) pa_nil)) (pe_callB call_len_seq (by rfl) T.len PySem.boot_len (pa_cons (pe_prop (pv 0) O.cl L1.pr L1.fn hr2 L1.bn .nil pass0 (by rfl)) pa_nil)) (nomark _)))))
        (pss_one (ps_err1 S rfl (takes_of rfl rfl rfl rfl) hr2 rfl pe_non)) pss_nil)
      (pss_cons (ps_if (pt_not (pt_val (pe_callB (cr_all rfl) (by rfl) T.all (by decide +kernel) (pa_cons (pe_lc (own := [("name", 3)]) (g := gName 3) (tt := tYes) rfl scFe.nd (pi_list (pe_prop (pv 0) O.cl L1.pr L1.fn hr2 L1.bn .nil pass0 (by rfl)))
          (blkOk_by (N := NFe) (sc := defScope s_need_feasible) (by decide +kernel))
          (fun _ _ _ _ _ => pg_name (i := 3) scFe.nd rfl (Or.inl rfl)) (fun _ _ _ _ _ => pts_nil) (fun _ _ _ _ _ => pe_cmp (pc_din hu (pv 3) (pv 2)) rfl)) pa_nil))))
        (pss_one (ps_err1 S rfl (takes_of rfl rfl rfl rfl) hr2 rfl pe_non)) pss_nil)
      (pss_cons (ps_for (passes_of rfl) rfl (pi_list (pe_prop (pv 0) O.cl L1.pr L1.fn hr2 L1.bn .nil pass0 (by rfl))) (pg_name (i := 3) scFe.nd rfl (.inl rfl))
        (pss_one (ps_if (pt_not (pt_val (pe_call I.ok (hr.mono (by decide)) rfl I.mgn I.kp I.bn .nil pass0 (pa_cons (pe_dget hu (pv 2) (pv 3) (fun _ _ => rfl)) (pa_cons pe_int pa_nil))))) (pss_one (ps_err1 S rfl (takes_of rfl rfl rfl rfl) hr2 rfl (pv 3))) pss_nil)))
      (pss_cons (ps_set (i := 4) scFe.nd rfl (.inl rfl) (pe_call R.ok hr rfl R.mgn R.kp R.bn .nil pass0 (pa_cons (pv 0) (pa_cons (pv 1) (pa_cons (pv 2) pa_nil)))))
      (pss_one (ps_lock (ps_for (passes_of rfl) rfl (pi_keys (pv 4)) (pg_name (i := 5) scFe.nd rfl (.inl rfl))
        (pss_one (ps_if (pt_cmpR op_lt (pe_dget hu (pv 4) (pv 5) (fun _ _ => rfl)) pe_int (nomark _)) (pss_one (ps_err1 S rfl (takes_of rfl rfl rfl rfl) hr2 rfl (pv 5))) pss_nil)))))))), ?_⟩
    obtain ⟨dx, dq, hx, hd⟩ := id fa
    refine ⟨_, rfl, b, rows, none, rfl, .inl hb, _, rfl, iteF ?_⟩
    refine ⟨_, rfl, b, rows, rfl, hb, ?_⟩
    refine ⟨_, rfl, x, dx, _, rfl, hx, x, ts, rfl, fa, fun pf nf => ⟨pf, _, rfl, .inl (SqL.of upd_same), rfl, _, rfl, ?_⟩⟩
    rw [List.length_map, List.length_map, len_int]
    have s1 := same_new (o := .lst ((ts.map Prod.fst).map V.str)) nf
    rw [decide_eq_false ne]
    exact iteT (out1 (H := H) k s1)
end
end FT


/-! sizes of any kind: data, or a dict with a key of another kind -/
namespace FT
open PySem L2 TL ClX
/-- a value for sizes of m flags: a dict with the entries o, or no dict of as many entries -/
def SzM (K : PySem.W.Frag) (H : Hp) (m : Nat) (sv : V) (o : Option (List (Key × V))) : Prop := SzV K H sv o ∨ (o = none ∧ ∃ b rows, sv = .ref b ∧ H b = some (RawO b rows) ∧ rows.length ≠ m)
theorem SzM.mono {K : PySem.W.Frag} {H H' : Hp} {m : Nat} {sv : V} {o : Option (List (Key × V))} (s : Same H H') (h : SzM K H m sv o) : SzM K H' m sv o := by
  rcases h with h | ⟨e, b, rows, e1, e2, e3⟩
  · exact .inl (h.mono s)
  · exact .inr ⟨e, b, rows, e1, s _ _ e2, e3⟩
theorem SzM.some {K : PySem.W.Frag} {H : Hp} {m : Nat} {sv : V} {kvs : List (Key × V)} (h : SzM K H m sv (some kvs)) : SzV K H sv (some kvs) := by
  rcases h with h | ⟨e, _⟩
  · exact h
  · cases e
def spFeasZ (K : PySem.W.Frag) (CF CS : Addr) : Sp := fun vs H Q E => ∃ (x : Addr) (n : Int) (sv : V) (ts : List (Str × Str)) (o : Option (List (Key × V))), vs = [.ref x, .int n, sv] ∧ FAt CF H x ts ∧ TreeOk ts ∧ SzM K H ts.length sv o ∧ Res H Q E (feE CS ts n o)
theorem spFeasZ_imp {K : PySem.W.Frag} {CF CS : Addr} : ∀ vs H Q E, spFeasZ K CF CS vs H Q E → spFeasM K CF CS vs H Q E := by
  rintro vs H Q E ⟨x, n, sv, ts, o, rfl, fa, to, hz, k⟩
  rcases hz with hz | ⟨rfl, b, rows, rfl, hb, ne⟩
  · exact .inl ⟨x, n, sv, ts, o, rfl, fa, to, hz, k⟩
  · exact .inr ⟨x, b, n, ts, rows, rfl, fa, to, hb, ne, k⟩
/-! ### sizes that a law has bent -/
def KeyB : Key → Prop
  | .inl i => i = 3
  | .inr z => NameL z ∨ z = ""
def RawK (H : Hp) (x : V) : Prop := x = .non ∨ (∃ z, x = .str z ∧ NameL z) ∨ ∃ c, x = .ref c ∧ H c = some (.tup [.str "a"])
def BentV (K : PySem.W.Frag) (H : Hp) (m : Nat) (sv : V) : Option (List (Key × V)) → Prop
  | some kvs => ∃ q, sv = .ref q ∧ H q = some (.dK kvs) ∧ (∀ p ∈ kvs, IsDat K H p.2) ∧ (kvs.map (·.1)).Nodup ∧ kvs.length ≤ 13 ∧ ∀ p ∈ kvs, KeyB p.1
  | none => (∃ T, Dat K H sv T ∧ T ≠ "dict") ∨ ∃ b rows, sv = .ref b ∧ H b = some (RawO b rows) ∧ rows.length = m + 1 ∧ rows.length ≤ 13 ∧ ∀ r ∈ rows, RawK H r.1
theorem BentV.mono {K : PySem.W.Frag} {H H' : Hp} {m : Nat} {sv : V} {o : Option (List (Key × V))} (s : Same H H') (h : BentV K H m sv o) : BentV K H' m sv o := by
  cases o with
  | some kvs =>
    obtain ⟨q, e, h1, h2, h3⟩ := h
    exact ⟨q, e, s _ _ h1, fun p hp => (h2 p hp).mono s, h3⟩
  | none =>
    rcases h with ⟨T, d, n⟩ | ⟨b, rows, e, h1, h2, h4, h3⟩
    · exact .inl ⟨T, d.mono s, n⟩
    · refine .inr ⟨b, rows, e, s _ _ h1, h2, h4, fun r hr => ?_⟩
      rcases h3 r hr with z | z | ⟨c, z, hc⟩
      · exact .inl z
      · exact .inr (.inl z)
      · exact .inr (.inr ⟨c, z, s _ _ hc⟩)
end FT


/-! feasible sizes are at most the users (plain maths) -/
namespace FT
open PySem L2 TL ClX
theorem sum_nnW {f : Str → Int} : ∀ {l : List Str}, (∀ a ∈ l, 0 ≤ f a) → 0 ≤ (l.map f).sum
  | [], _ => Int.le_refl _
  | a :: l, h => by
    rw [List.map_cons, List.sum_cons]
    have := h a (List.mem_cons_self ..)
    have := sum_nnW fun b hb => h b (List.mem_cons_of_mem a hb)
    omega
theorem le_sumW {f : Str → Int} {b : Str} : ∀ {l : List Str}, (∀ a ∈ l, 0 ≤ f a) → b ∈ l → f b ≤ (l.map f).sum
  | a :: l, h, m => by
    rw [List.map_cons, List.sum_cons]
    have h1 := h a (List.mem_cons_self ..)
    have h2 : ∀ c ∈ l, 0 ≤ f c := fun b hb => h b (List.mem_cons_of_mem a hb)
    rcases List.mem_cons.mp m with rfl | m
    · have := sum_nnW h2
      omega
    · have := le_sumW h2 m
      omega
theorem fea_leW {ts : List (Str × Str)} {n : Int} {s : Str → Int} (o : TreeOk ts) (f : Fea ts n s) : ∀ a ∈ ts.map Prod.fst, s a ≤ n := by
  obtain ⟨rk, r⟩ := o.up
  have key : ∀ (m : Nat) (a : Str), a ∈ ts.map Prod.fst → rk a ≤ m → s a ≤ n := by
    intro m
    induction m with
    | zero =>
      intro a ha hm
      obtain ⟨p, hp, h, _⟩ := o.step r ha
      rcases h with e | ⟨_, l⟩
      · have := f.res p (by rw [e]; exact List.mem_cons_self ..)
        have l1 := le_sumW (f := s) (fun c hc => f.nn c (kids_sub hc)) (mem_kids.mpr (par_mem hp))
        unfold resid at this
        rw [if_pos e] at this
        omega
      · omega
    | succ m ih =>
      intro a ha hm
      obtain ⟨p, hp, h, _⟩ := o.step r ha
      have l1 := le_sumW (f := s) (fun c hc => f.nn c (kids_sub hc)) (mem_kids.mpr (par_mem hp))
      rcases h with e | ⟨mp, l⟩
      · have := f.res p (by rw [e]; exact List.mem_cons_self ..)
        unfold resid at this
        rw [if_pos e] at this
        omega
      · have := f.res p (List.mem_cons_of_mem _ mp)
        have ne : p ≠ "" := fun z => o.root (by rw [← z]; exact mp)
        unfold resid at this
        rw [if_neg ne] at this
        have := ih p mp (by omega)
        omega
  exact fun a ha => key (rk a) a ha (Nat.le_refl _)
end FT


/-! fixed -/
namespace FT
open PySem L2 TL ClX LiI Sg
def starI (ts : List (Str × Str)) (n : Int) (sz : Str → Int) (a : Str) : Int := if (pathOf ts a)[0]? = (kids ts "")[0]? then 0 else n - sz a
def setN (a : Str) (from_ : Nat) : Nat → List Str → List Str
  | 0, zs => zs
  | k + 1, zs => (setN a from_ k zs).set (from_ + k) a
def fixS (ts : List (Str × Str)) (n : Int) (sz : Str → Int) (zs : List Str) (y : Str × Int) : List Str := setN y.1 (starI ts n sz y.1).toNat (sz y.1).toNat zs
def fixP (ts : List (Str × Str)) (n : Int) (sz : Str → Int) : List Str := (rowsW ts).foldl (fixS ts n sz) (List.replicate n.toNat "")
theorem setN_len (a : Str) (f : Nat) (zs : List Str) : ∀ k, (setN a f k zs).length = zs.length
  | 0 => rfl
  | k + 1 => by show ((setN a f k zs).set (f + k) a).length = _; rw [List.length_set, setN_len a f zs k]
/-! ### those present -/
def preC (ts : List (Str × Str)) (n : Int) (s1 s2 : Str → Int) (p : Str) : Int := (if p = "" then n else max (s1 p) (s2 p)) - ((kids ts p).map fun c => min (s1 c) (s2 c)).sum
theorem rep_strsW (n : Nat) (a : Str) : (List.replicate n [V.str a]).flatten = (List.replicate n a).map V.str := by
  rw [List.map_replicate]
  induction n with
  | zero => rfl
  | succ n ih => rw [List.replicate_succ, List.flatten_cons, ih, List.replicate_succ] <;> rfl
theorem setN_mem {a : Str} {f : Nat} {zs : List Str} : ∀ {k : Nat} {z : Str}, z ∈ setN a f k zs → z = a ∨ z ∈ zs
  | 0, _, h => .inr h
  | k + 1, z, h => by
    rcases List.mem_or_eq_of_mem_set (show z ∈ (setN a f k zs).set (f + k) a from h) with h | h
    · exact setN_mem h
    · exact .inl h
theorem fix_ok {ts : List (Str × Str)} {n : Int} {sz : Str → Int} : ∀ (rows : List (Str × Int)) (zs : List Str), (∀ y ∈ rows, y.1 ∈ ts.map Prod.fst) → (∀ z ∈ zs, Pl ts z) → (rows.foldl (fixS ts n sz) zs).length = zs.length ∧ ∀ z ∈ rows.foldl (fixS ts n sz) zs, Pl ts z
  | [], _, _, h => ⟨rfl, h⟩
  | y :: rows, zs, hr, h => by
    obtain ⟨h1, h2⟩ := fix_ok rows (fixS ts n sz zs y) (fun q hq => hr q (List.mem_cons_of_mem _ hq)) fun z hz => (setN_mem hz).elim (fun e => .inr (e ▸ hr y List.mem_cons_self)) (h z)
    exact ⟨h1.trans (setN_len _ _ _ _), h2⟩
theorem at0W {α : Type} {xs : List α} {v : α} (h : xs[0]? = some v) : atI xs 0 = some v := by
  cases xs with
  | nil => cases h
  | cons b r =>
    unfold atI ixN
    rw [if_pos (Int.le_refl 0), if_pos (by rw [List.length_cons]; omega)]
    exact h
def spFixed (K : PySem.W.Frag) (CF CA CS CU CN : Addr) : Sp := fun vs H Q E => ∃ (x : Addr) (v sv : V) (ts : List (Str × Str)) (so : Option (List (Key × V))), vs = [.ref x, v, sv] ∧ FAt CF H x ts ∧ TreeOk ts ∧ IsDat K H v ∧ SzM K H ts.length sv so ∧
  if usersOk v 60 = true then ∃ n : Int, v = .int n ∧ if memC ts v = true then match feE CS ts n so with
      | some e => Out H E e
      | none => ∀ r H', Same H H' → H r = none → AAt CA H' r x (fixP ts n (szOf (so.getD []))) → Q (.ref r) H'
    else Out H E (.e0 CN)
  else Out H E (.e0 CU)
section
variable {P : Program} {w : World} {K : PySem.W.Frag} {mg : Str → Option Value} {base : Heap}
abbrev NFx : List Str := ["forest", "users", "sizes", "places", "name", "depth", "is_first", "start", "user"]
theorem scFx : FnScope NFx ["forest", "users", "sizes"] (defScope s_fixed) := ⟨rfl, rfl, rfl, by decide +kernel, rfl, by decide +kernel, by decide +kernel⟩
/-- a generator that is a method -/
structure MtG (P : Program) (w : World) (K : PySem.W.Frag) (mg : Str → Option Value) (base : Heap) (k : Nat) (C : Addr) (m : Str) (ps : List Str) (sp : SpG2) (f : Addr) (fd : FuncData) : Prop where
  mt : Meth K C m f
  fn : GFn2 P w K mg base k f fd ps sp
  bn : Binds K fd ps []
theorem ok_fixed {f fU fM fG fP fC fW fI CF CA CS CU CN IN : Addr} {mc mcA : Value} {fd fdU fdM fdG fdP fdC fdW fdI dN : FuncData} (F : Fun K "fixed" "fixed" s_fixed f fd) (T : Nm mg) (O : FoC K CF) (Z : Fc K mg CF mc) (B : Ac K mg CA mcA)
    (U : Dn P w K mg base (L2.CX P w) 3 "need_users" ["users", "most"] (spUsers K CU) fU fdU) (ME : Dn P w K mg base (L2.CX P w) 4 "is_memoryless" ["forest", "users"] (spMem K CF CU) fM fdM) (NM : Er0 P w K mg base "NeedsMemory" CN IN dN)
    (G : Dn P w K mg base (L2.CX P w) 5 "need_feasible" ["forest", "users", "sizes"] (spFeasM K CF CS) fG fdG) (DP : Dn P w K mg base CX0 1 "path_in" ["above", "place"] spPathIn fP fdP)
    (DC : Mt P w K mg base CX0 2 CF "children" ["self", "place"] (spKids CF) fC fdC) (WK : MtG P w K mg base 15 CF "walk" ["self"] (spWalk CF) fW fdW)
    (M : Mk K CA fI) (FI : FnOk P w K mg base CX0 1 fI fdI ["self", "forest", "places"] (spAInit CF CA)) (bI : Binds K fdI ["self", "forest", "places"] []) :
    FnOk P w K mg base (L2.CX P w) 17 f fd ["forest", "users", "sizes"] (spFixed K CF CA CS CU CN) := by
  obtain ⟨ur, cr⟩ := Z.root
  obtain ⟨um, cm⟩ := B.most
  refine F.okX scFx (fun vs H Q E h => ?_) (fun cdv A outer s H vs Q E hr h => ?_)
  · obtain ⟨x, v, sv, ts, so, rfl, _⟩ := h
    rfl
  · obtain ⟨x, v, sv, ts, so, rfl, fa, o, dv, hz, k⟩ := h
    have hu := hu_of hr
    have nd := scFx.nd
    have hr1 : Room 1 _ := hr.mono (by decide)
    have hr2 : Room 2 _ := hr.mono (by decide)
    have hr3 : Room 3 _ := hr.mono (by decide)
    have hr4 : Room 4 _ := hr.mono (by decide)
    have hr5 : Room 5 _ := hr.mono (by decide)
    have hr15 : Room 15 _ := hr.mono (by decide)
    have hr16 : Room 16 _ := hr.mono (by decide)
    have big : 2000 ≤ sizeLine := by decide
    have few := o.few
    refine ⟨_, pss_cons (ps_expr (pe_call U.ok hr3 rfl U.mgn U.kp U.bn .nil (passes_call (takes_of rfl rfl rfl rfl) (fun _ _ _ _ h => h)) (pa_cons (pv 1) (pa_cons (pe_cval (pe_glob (v := .ref CA) (by rfl) B.gA rfl)) pa_nil))))
      (pss_cons (ps_if (pt_not (pt_val (pe_call ME.ok hr4 rfl ME.mgn ME.kp ME.bn .nil (passes_call (takes_of rfl rfl rfl rfl) (fun _ _ _ _ h => h)) (pa_cons (pv 0) (pa_cons (pv 1) pa_nil))))) (pss_one (ps_err0 NM rfl (takes_of rfl rfl rfl rfl) hr2 rfl)) pss_nil)
      (pss_cons (ps_expr (pe_call G.ok hr5 rfl G.mgn G.kp G.bn .nil (passes_call (takes_of rfl rfl rfl rfl) (fun _ _ _ _ h => h)) (pa_cons (pv 0) (pa_cons (pv 1) (pa_cons (pv 2) pa_nil)))))
      (pss_cons (ps_set (i := 3) nd rfl (.inl rfl) (pe_op op_rep (pe_lst (pa_cons (pe_cval (pe_glob (v := .ref CF) (by rfl) Z.gF rfl)) pa_nil)) (pv 1)))
      (pss_cons (ps_forG (passes_of rfl) swX_cx rfl hr16 ⟨rfl, rfl⟩ (pgen2_meth0 (pv 0) O.cl WK.mt WK.fn hr15 WK.bn .nil) (pg_tup rfl (pgs_cons (pg_name (i := 4) nd rfl (.inl rfl)) (pgs_cons (pg_name (i := 5) nd rfl (.inl rfl)) pgs_nil)))
        (pss_cons (ps_set (i := 6) nd rfl (.inl rfl) (pe_cmpR op_eq (pe_ix ix_tup (pe_call DP.ok hr1 rfl DP.mgn DP.kp DP.bn .nil pass0 (pa_cons (pe_fld (pv 0) rfl) (pa_cons (pv 4) pa_nil))) pe_int (fun _ _ => rfl)) (pe_ix ix_list (pe_meth (pv 0) O.cl DC.mt DC.fn hr2 DC.bn .nil pass0 (pa_cons (pe_cval (pe_glob (v := .ref CF) (by rfl) Z.gF rfl)) pa_nil)) pe_int (fun _ _ => rfl)) (nomark _)))
        (pss_cons (ps_set (i := 7) nd rfl (.inl rfl) (pe_ifExp (pt_val (pv 6)) pe_int (pe_op op_sub (pv 1) (pe_dget hu (pv 2) (pv 4) (fun _ _ => rfl)))))
        (pss_one (ps_for (passes_of rfl) rfl (pi_range2 rfl T.rng (pa_cons (pv 7) (pa_cons (pe_op op_add (pv 7) (pe_dget hu (pv 2) (pv 4) (fun _ _ => rfl))) pa_nil))) (pg_name (i := 8) nd rfl (.inl rfl))
          (pss_one (ps_asg (pv 4) (pg_sub (pv 3) (pv 8) set_list))))))))
      (pss_one (ps_ret (pe_make M FI hr2 (by rfl) B.gA bI .nil pass0 (pa_cons (pv 0) (pa_cons (pv 3) pa_nil))))))))), ?_⟩
    refine ⟨_, rfl, CA, mcA, _, um, rfl, B.rd, cm, v, 60, rfl, dv, ?_⟩
    by_cases uo : usersOk v 60 = true
    rotate_left
    · rw [if_neg uo] at k ⊢
      exact k
    rw [if_pos uo] at k ⊢
    obtain ⟨n, rfl, k⟩ := k
    intro H1 s1
    refine ⟨_, rfl, _, rfl, x, ts, .int n, rfl, fa.mono s1, o, dv.mono s1, ?_⟩
    have n1 : 1 ≤ n := by
      have z : (decide (1 ≤ n) && decide (n ≤ 60)) = true := uo
      exact of_decide_eq_true (Bool.and_eq_true_iff.mp z).1
    have n60 : n ≤ 60 := by
      have z : (decide (1 ≤ n) && decide (n ≤ 60)) = true := uo
      exact of_decide_eq_true (Bool.and_eq_true_iff.mp z).2
    have big30 : usersOk (.int n) (10 ^ 30) = true := by
      show (decide (1 ≤ n) && decide (n ≤ 10 ^ 30)) = true
      rw [decide_eq_true n1, decide_eq_true (by omega)] <;> rfl
    rw [if_pos big30]
    intro H2 s2
    have s02 := s1.trans s2
    refine ⟨_, rfl, ?_⟩
    by_cases me : memC ts (.int n) = true
    rotate_left
    · rw [if_neg me] at k
      rw [show memC ts (.int n) = false by cases q : memC ts (.int n) with | true => exact absurd q me | false => rfl]
      exact iteT (out0 k s02)
    rw [if_pos me] at k
    rw [me]
    refine iteF ?_
    refine ⟨_, rfl, _, rfl, _, rfl, spFeasZ_imp _ _ _ _ ⟨x, n, sv, ts, so, rfl, fa.mono s02, o, hz.mono s02, ?_⟩⟩
    cases ef : feE CS ts n so with
    | some e =>
      rw [ef] at k
      exact Out.mono s02 k
    | none =>
      rw [ef] at k
      intro H3 s3
      have s03 := s02.trans s3
      cases so with
      | none => exact absurd ef feE_none
      | some kvs =>
        have hz' : SzV K H sv (some kvs) := hz.resolve_right fun z => by cases z.1
        obtain ⟨qs, rfl, hqs, _⟩ := hz'
        obtain ⟨fl, fv, fr⟩ := feE_ok ef
        have fea : Fea ts n (szOf kvs) := ⟨fun a ha => (fv a ha).2, fun p hp => fr p hp⟩
        have fle := fea_leW o fea
        obtain ⟨sz, esz⟩ : ∃ sz, sz = szOf kvs := ⟨_, rfl⟩
        have k : ∀ r H', Same H H' → H r = none → AAt CA H' r x (fixP ts n sz) → Q (.ref r) H' := by rw [esz]; exact k
        obtain ⟨dx, dq, hx, hd⟩ := id fa
        refine ⟨CF, mc, _, ur, rfl, Z.rd, cr, by show 1 ≤ sizeLine; omega, fun p1 np1 => ?_⟩
        have t1 := same_new (o := .lst [V.str ("" : Str)]) np1
        refine ⟨_, rfl, p1, n, _, rfl, rfl, upd_same, by omega, by omega, by show 1 * _ ≤ sizeLine; omega, fun l nl => ?_⟩
        rw [rep_strsW]
        have t2 := same_new (o := .lst ((List.replicate n.toNat ("" : Str)).map V.str)) nl
        obtain ⟨H4, e4⟩ : ∃ X, X = upd (upd H3 p1 (.lst [V.str ("" : Str)])) l (.lst ((List.replicate n.toNat ("" : Str)).map V.str)) := ⟨_, rfl⟩
        have s4 : Same H H4 := e4 ▸ s03.trans (t1.trans t2)
        have nlH : H l = none := s03.free (t1.free nl)
        have hl4 : H4 l = some (.lst ((List.replicate n.toNat ("" : Str)).map V.str)) := by rw [e4, upd_same]
        rw [← e4]
        obtain ⟨zI, ezI⟩ : ∃ zI : Nat → List Str, zI = fun i => ((rowsW ts).take i).foldl (fixS ts n sz) (List.replicate n.toNat "") := ⟨_, rfl⟩
        have old : ∀ {H' : Hp}, KpM (fun b => b = l) H4 H' → Same H H' := fun {H'} km b u e => km b u (s4 _ _ e) fun z => by rw [z, nlH] at e; cases e
        refine ⟨_, rfl, x, dx, _, rfl, s4 _ _ hx, rfl, _, ⟨x, ts, rfl, o, rowsW_few o, rfl⟩, itWalk (rowsW ts) (fun b => b = l), ⟨fun b => b = l, fun H' km => fa.mono (old km), rfl⟩,
          fun i m Hs σ H' => m = (rowsW ts).length - i ∧ i ≤ (rowsW ts).length ∧ (∃ u4 u5 u6 u7 u8, σ = [some (.ref x), some (.int n), some (.ref qs), some (.ref l), u4, u5, u6, u7, u8]) ∧ KpM (fun b => b = l) Hs H' ∧ KpM (fun b => b = l) H4 H' ∧ H' l = some (.lst ((zI i).map V.str)),
          ⟨_, rfl, Nat.zero_le _, ⟨_, _, _, _, _, rfl⟩, fun b u e _ => e, fun b u e _ => e, by rw [ezI]; exact hl4⟩, fun i m Hs σ Hc w => ?_⟩
        obtain ⟨rfl, hi, ⟨u4, u5, u6, u7, u8, rfl⟩, kms, km4, hlc⟩ := w
        refine ⟨⟨kms, fun b eb => by rw [eb, hlc]; exact fun z => by cases z⟩, fun _ _ _ z => z, fun Hd fin => ?_, fun v Hd yy => ?_⟩
        · obtain ⟨ei, sd⟩ := fin
          have sHd := (old km4).trans sd
          have hld := sd _ _ hlc
          have ezl : zI i = fixP ts n sz := by rw [ezI, ei]; show ((rowsW ts).take (rowsW ts).length).foldl _ _ = _; rw [List.take_length] <;> rfl
          rw [ezl] at hld
          obtain ⟨l1, l2⟩ := fix_ok (ts := ts) (n := n) (sz := sz) (rowsW ts) (List.replicate n.toNat "") (fun y hy => walk_flags o _ _ _ y hy) fun z hz => .inl (List.eq_of_mem_replicate hz)
          rw [List.length_replicate] at l1
          have l1 : (fixP ts n sz).length = n.toNat := l1
          refine ⟨_, rfl, _, rfl, fun a da na nda daa => ?_⟩
          have sN : Same Hd (upd (upd Hd da (.own a)) a (.ins CA da [])) := fun b u e => by
            rw [upd_ne (ne_of_none e na), upd_ne (ne_of_none e nda)]
            exact e
          refine ⟨a, x, l, da, ts, fixP ts n sz, rfl, upd_same, (fa.mono sHd).mono sN, o, sN _ _ hld, by omega, by omega, l2, fun He aa oth => ⟨rfl, ?_⟩⟩
          have sHe : Same H He := fun b u e => oth b u (ne_of_none (sHd _ _ e) na) (sN _ _ (sHd _ _ e))
          exact k a He sHe (sHd.free na) aa
        · obtain ⟨sd, r, ⟨a, dep⟩, rfl, hrow, hr1⟩ := yy
          refine ⟨fun σ' H' => (rowsW ts).length - (i + 1) = (rowsW ts).length - (i + 1) ∧ i + 1 ≤ (rowsW ts).length ∧ (∃ u4 u5 u6 u7 u8, σ' = [some (.ref x), some (.int n), some (.ref qs), some (.ref l), u4, u5, u6, u7, u8]) ∧ KpM (fun b => b = l) Hd H' ∧ KpM (fun b => b = l) H4 H' ∧ H' l = some (.lst ((zI (i + 1)).map V.str)),
            fun σ' H' z => ⟨_, ?_, z⟩, ?_⟩
          · have := (List.getElem?_eq_some_iff.mp hrow).1
            omega
          · have sHd := (old km4).trans sd
            have hld := sd _ _ hlc
            have ma : a ∈ ts.map Prod.fst := walk_flags o _ _ _ _ (List.mem_of_getElem? hrow)
            have an : a ≠ "" := fun z => o.root (z ▸ ma)
            have sa0 : 0 ≤ sz a := by rw [esz]; exact fea.nn a ma
            have sa1 : sz a ≤ n := by rw [esz]; exact fle a ma
            have km4d : KpM (fun b => b = l) H4 Hd := fun b u e nb => sd _ _ (km4 b u e nb)
            have pe := path_endW o (.inr ma) an
            obtain ⟨c0, hc0⟩ : ∃ c0, (pathOf ts a)[0]? = some c0 := by
              cases q : pathOf ts a with
              | nil => rw [q] at pe; cases pe
              | cons b r => exact ⟨b, rfl⟩
            obtain ⟨k0, hk0⟩ : ∃ k0, (kids ts "")[0]? = some k0 := by
              obtain ⟨rk, r⟩ := o.up
              obtain ⟨c, h1, _⟩ := child_on o r (a := "") (.inl rfl) (rk a + 1) a (Nat.lt_succ_self _) ma an (.inl rfl)
              cases q : kids ts "" with
              | nil => rw [q] at h1; cases h1
              | cons b r => exact ⟨b, rfl⟩
            refine ⟨r, _, rfl, .inl (.inl hr1), rfl, _, _, rfl, _, _, rfl, rfl, ?_⟩
            refine ⟨_, rfl, x, CF, dx, _, .ref dq, rfl, sHd _ _ hx, O.cl, O.nA, rfl, _, rfl, dq, ts, a, rfl, .inl (sHd _ _ hd), o, .inr ma, fun p5 H5 s5 n5 h5 => ?_⟩
            refine ⟨p5, _, 0, .str c0, rfl, rfl, SqT.of h5, at0W (by rw [List.getElem?_map, hc0] <;> rfl), ?_⟩
            refine ⟨_, rfl, x, dx, _, rfl, s5 _ _ (sHd _ _ hx), rfl, CF, mc, _, ur, rfl, Z.rd, cr, x, ts, "", rfl, fa.mono (sHd.trans s5), o, .inl rfl, fun p6 H6 s6 n6 h6 => ⟨p6, _, 0, .str k0, rfl, rfl, SqL.of h6, at0W (by rw [List.getElem?_map, hk0] <;> rfl), rfl, ?_⟩⟩
            have s06 := (sHd.trans s5).trans s6
            have sd6 := s5.trans s6
            have dgz : ∀ {H' : Hp}, Same H H' → DGet H' qs (.str a) (some (.int (sz a))) := fun {H'} s => .inl ⟨kvs, Sum.inr a, .inl (s _ _ hqs), rfl, by rw [(fv a ma).1, esz]⟩
            have hl6 := sd6 _ _ hld
            have km6 : KpM (fun b => b = l) H4 H6 := fun b u e nb => sd6 _ _ (km4d b u e nb)
            have lz : (zI i).length = n.toNat := by
              rw [ezI]
              have z := (fix_ok (ts := ts) (n := n) (sz := sz) ((rowsW ts).take i) (List.replicate n.toNat "") (fun y hy => walk_flags o _ _ _ y (List.mem_of_mem_take hy)) fun z hz => .inl (List.eq_of_mem_replicate hz)).1
              rw [List.length_replicate] at z
              exact z
            have ezn : zI (i + 1) = setN a (starI ts n sz a).toNat (sz a).toNat (zI i) := by
              rw [ezI]
              show ((rowsW ts).take (i + 1)).foldl (fixS ts n sz) _ = _
              rw [take_more hrow, List.foldl_append] <;> rfl
            have il := (List.getElem?_eq_some_iff.mp hrow).1
            refine ⟨_, rfl, _, rfl, ?_⟩
            refine ite2 (fun yes => ?_) (fun no => ?_)
            · have e : c0 = k0 := V.str.inj (of_decide_eq_true yes)
              obtain ⟨s0, es0⟩ : ∃ s0 : Int, s0 = starI ts n sz a := ⟨_, rfl⟩
              have e0 : s0 = 0 := by rw [es0]; unfold starI; rw [hc0, hk0, e, if_pos rfl]
              rw [show V.int 0 = V.int s0 by rw [e0]]
              have r0 : 0 ≤ s0 := by omega
              have r1 : s0 + sz a ≤ n := by omega
              refine ⟨_, rfl, _, rfl, _, rfl, _, rfl, qs, _, rfl, dgz s06, _, _, rfl, rfl, s0, s0 + sz a, rfl, ⟨by omega, by omega, by omega, by omega⟩, ?_⟩
              rw [show s0 + sz a - s0 = sz a by omega]
              refine for_it walk_range (fun j σ' H' => (∃ u8, σ' = [some (.ref x), some (.int n), some (.ref qs), some (.ref l), some (.str a), some (.int dep), some (.bl (decide (V.str c0 = V.str k0))), some (.int s0), u8]) ∧ KpM (fun b => b = l) H6 H' ∧ H' l = some (.lst ((setN a s0.toNat j (zI i)).map V.str)))
                ⟨⟨_, rfl⟩, fun b u e _ => e, hl6⟩ (fun j σ' H' _ z => trivial) ?_ ?_
              · intro j yv σ' Hz Ha hj ⟨⟨u8, eσ⟩, ka, hla⟩ ⟨eb, ey⟩
                subst eσ
                subst eb
                subst ey
                refine ⟨_, rfl, _, rfl, _, rfl, l, _, _, s0.toNat + j, rfl, rfl, hla, ?_, ⟨_, rfl⟩, fun b u e nb => by rw [upd_ne nb]; exact ka b u e nb, by rw [upd_same, ← List.map_set] <;> rfl⟩
                rw [List.length_map, setN_len, lz]
                unfold ixN
                rw [if_pos (by omega), if_pos (by omega)]
                congr 1
                omega
              · intro σ' H7 ⟨⟨u8, eσ⟩, ka, hla⟩
                subst eσ
                rw [es0, ← ezn] at hla
                exact ⟨rfl, il, ⟨_, _, _, _, _, rfl⟩, fun b u e nb => ka b u (sd6 _ _ e) nb, fun b u e nb => ka b u (km6 b u e nb) nb, hla⟩
            · have e : ¬ c0 = k0 := fun z => no (decide_eq_true (by rw [z]))
              refine ⟨_, rfl, _, rfl, _, rfl, qs, _, rfl, dgz s06, _, _, rfl, rfl, ?_⟩
              obtain ⟨s0, es0⟩ : ∃ s0 : Int, s0 = starI ts n sz a := ⟨_, rfl⟩
              have e0 : s0 = n - sz a := by rw [es0]; unfold starI; rw [hc0, hk0, if_neg fun z => e (Option.some.inj z)]
              rw [show (fun i j => V.int (i - j)) n (sz a) = V.int s0 by rw [e0]]
              have r0 : 0 ≤ s0 := by omega
              have r1 : s0 + sz a ≤ n := by omega
              refine ⟨_, rfl, _, rfl, _, rfl, _, rfl, qs, _, rfl, dgz s06, _, _, rfl, rfl, s0, s0 + sz a, rfl, ⟨by omega, by omega, by omega, by omega⟩, ?_⟩
              rw [show s0 + sz a - s0 = sz a by omega]
              refine for_it walk_range (fun j σ' H' => (∃ u8, σ' = [some (.ref x), some (.int n), some (.ref qs), some (.ref l), some (.str a), some (.int dep), some (.bl (decide (V.str c0 = V.str k0))), some (.int s0), u8]) ∧ KpM (fun b => b = l) H6 H' ∧ H' l = some (.lst ((setN a s0.toNat j (zI i)).map V.str)))
                ⟨⟨_, rfl⟩, fun b u e _ => e, hl6⟩ (fun j σ' H' _ z => trivial) ?_ ?_
              · intro j yv σ' Hz Ha hj ⟨⟨u8, eσ⟩, ka, hla⟩ ⟨eb, ey⟩
                subst eσ
                subst eb
                subst ey
                refine ⟨_, rfl, _, rfl, _, rfl, l, _, _, s0.toNat + j, rfl, rfl, hla, ?_, ⟨_, rfl⟩, fun b u e nb => by rw [upd_ne nb]; exact ka b u e nb, by rw [upd_same, ← List.map_set] <;> rfl⟩
                rw [List.length_map, setN_len, lz]
                unfold ixN
                rw [if_pos (by omega), if_pos (by omega)]
                congr 1
                omega
              · intro σ' H7 ⟨⟨u8, eσ⟩, ka, hla⟩
                subst eσ
                rw [es0, ← ezn] at hla
                exact ⟨rfl, il, ⟨_, _, _, _, _, rfl⟩, fun b u e nb => ka b u (sd6 _ _ e) nb, fun b u e nb => ka b u (km6 b u e nb) nb, hla⟩
end
end FT


/-! plain: where fixed places the users -/
namespace FT
open PySem L2 TL
theorem setN_at (a : Str) (f : Nat) (zs : List Str) : ∀ (k u : Nat), f + k ≤ zs.length → (setN a f k zs)[u]? = if f ≤ u ∧ u < f + k then some a else zs[u]?
  | 0, u, _ => by rw [if_neg (by omega)] <;> rfl
  | k + 1, u, h => by
    show ((setN a f k zs).set (f + k) a)[u]? = _
    rw [List.getElem?_set, setN_len, setN_at a f zs k u (by omega)]
    by_cases e : f + k = u
    · rw [if_pos e, if_pos (by omega), if_pos (by omega)]
    · rw [if_neg e]
      by_cases q : f ≤ u ∧ u < f + k
      · rw [if_pos q, if_pos (by omega)]
      · rw [if_neg q, if_neg (by omega)]
/-- a user's place: the last flag of the walk whose users hold it -/
theorem fix_at {ts : List (Str × Str)} {n : Int} {sz : Str → Int} {u : Nat} : ∀ (rows : List (Str × Int)) (zs : List Str), (∀ y ∈ rows, 0 ≤ starI ts n sz y.1 ∧ 0 ≤ sz y.1 ∧ (starI ts n sz y.1).toNat + (sz y.1).toNat ≤ zs.length) →
    (rows.foldl (fixS ts n sz) zs)[u]? = ((rows.reverse.find? fun y => decide (starI ts n sz y.1 ≤ (u : Int) ∧ (u : Int) < starI ts n sz y.1 + sz y.1)).map Prod.fst).or zs[u]?
  | [], _, _ => rfl
  | y :: rows, zs, h => by
    have hy := h y List.mem_cons_self
    have len : (fixS ts n sz zs y).length = zs.length := setN_len _ _ _ _
    rw [List.foldl_cons, fix_at rows (fixS ts n sz zs y) (fun q hq => by rw [len]; exact h q (List.mem_cons_of_mem _ hq)), List.reverse_cons, List.find?_append]
    cases e : rows.reverse.find? fun y => decide (starI ts n sz y.1 ≤ (u : Int) ∧ (u : Int) < starI ts n sz y.1 + sz y.1) with
    | some z => rfl
    | none =>
      show (fixS ts n sz zs y)[u]? = _
      unfold fixS
      rw [setN_at _ _ _ _ _ hy.2.2]
      by_cases q : starI ts n sz y.1 ≤ (u : Int) ∧ (u : Int) < starI ts n sz y.1 + sz y.1
      · rw [if_pos (by omega), List.find?_cons_of_pos (p := fun y : Str × Int => decide (starI ts n sz y.1 ≤ (u : Int) ∧ (u : Int) < starI ts n sz y.1 + sz y.1)) (decide_eq_true q)] <;> rfl
      · rw [if_neg (by omega), List.find?_cons_of_neg (p := fun y : Str × Int => decide (starI ts n sz y.1 ≤ (u : Int) ∧ (u : Int) < starI ts n sz y.1 + sz y.1)) (by rw [decide_eq_true_iff]; exact q)] <;> rfl
end FT


/-! Assignment.at -/
namespace FT
open PySem L2 TL ClX LiI
section
variable {P : Program} {w : World} {K : PySem.W.Frag} {mg : Str → Option Value} {base : Heap}
abbrev NAt : List Str := ["self", "place", "user", "other"]
end
end FT


/-! plain: the users that fixed gives to a flag are an interval; between two of these assignments a flag only gets or only loses users -/
namespace FT
open PySem L2 TL
section
variable {ts : List (Str × Str)} {n : Int} {sz : Str → Int}
def inI (ts : List (Str × Str)) (n : Int) (sz : Str → Int) (u : Nat) (a : Str) : Prop := starI ts n sz a ≤ (u : Int) ∧ (u : Int) < starI ts n sz a + sz a
theorem path_ltW (o : TreeOk ts) {rk : Str → Nat} (r : Rk ts rk) {a z : Str} (h : Pl ts a) (m : z ∈ pathOf ts a) (n : z ≠ a) : rk z < rk a := by
  by_cases e : a = ""
  · rw [e, path_root] at m
    cases m
  · obtain ⟨p, ep, hp, _⟩ := o.step r (h.resolve_left e)
    rw [path_step o (h.resolve_left e) ep] at m
    rcases List.mem_append.mp m with m | m
    · rcases hp with e0 | ⟨hp, lt⟩
      · rw [e0, path_root] at m
        cases m
      · have := path_rank o r (rk p + 1) p (.inr hp) (fun _ => Nat.lt_succ_self _) z m
        omega
    · exact absurd (List.mem_singleton.mp m) n
theorem path_transW (o : TreeOk ts) {rk : Str → Nat} (r : Rk ts rk) {y z : Str} : ∀ (k : Nat) (x : Str), rk x < k → x ∈ ts.map Prod.fst → y ∈ pathOf ts x → z ∈ pathOf ts y → z ∈ pathOf ts x := by
  intro k
  induction k with
  | zero => intro x h; exact absurd h (Nat.not_lt_zero _)
  | succ k ih =>
    intro x hk mx my mz
    obtain ⟨p, ep, hp, _⟩ := o.step r mx
    have st := path_step o mx ep
    rw [st] at my
    rcases List.mem_append.mp my with m | m
    · rcases hp with e | ⟨mp, lt⟩
      · rw [e, path_root] at m
        cases m
      · rw [st]
        exact List.mem_append_left _ (ih p (by omega) mp m mz)
    · rw [← List.mem_singleton.mp m]
      exact mz
theorem kid_leW (o : TreeOk ts) (f : Fea ts n sz) {p a : Str} (h : par ts a = some p) (pp : Pl ts p) : sz a ≤ if p = "" then n else sz p := by
  have := f.res p (pp.elim (fun e => e ▸ List.mem_cons_self) fun m => List.mem_cons_of_mem _ m)
  have l1 := le_sumW (f := sz) (fun c hc => f.nn c (kids_sub hc)) (mem_kids.mpr (par_mem h))
  unfold resid at this
  omega
theorem in_upI (o : TreeOk ts) (f : Fea ts n sz) {u : Nat} (hu : (u : Int) < n) {p a : Str} (ma : a ∈ ts.map Prod.fst) (h : par ts a = some p) (mp : p ∈ ts.map Prod.fst) (i : inI ts n sz u a) : inI ts n sz u p := by
  have pne : p ≠ "" := fun z => o.root (z ▸ mp)
  have le := kid_leW o f h (.inr mp)
  rw [if_neg pne] at le
  have pe := path_endW o (.inr mp) pne
  have e : (pathOf ts a)[0]? = (pathOf ts p)[0]? := by
    rw [path_step o ma h, List.getElem?_append_left (List.length_pos_of_mem pe)]
  unfold inI starI at i ⊢
  rw [e] at i
  by_cases q : (pathOf ts p)[0]? = (kids ts "")[0]?
  · rw [if_pos q] at i ⊢
    omega
  · rw [if_neg q] at i ⊢
    omega
theorem in_pathI (o : TreeOk ts) (f : Fea ts n sz) {u : Nat} (hu : (u : Int) < n) {rk : Str → Nat} (r : Rk ts rk) : ∀ (k : Nat) (a : Str), rk a < k → a ∈ ts.map Prod.fst → inI ts n sz u a → ∀ g ∈ pathOf ts a, inI ts n sz u g := by
  intro k
  induction k with
  | zero => intro a h; exact absurd h (Nat.not_lt_zero _)
  | succ k ih =>
    intro a hk ma i g mg
    obtain ⟨p, ep, hp, _⟩ := o.step r ma
    rw [path_step o ma ep] at mg
    rcases List.mem_append.mp mg with m | m
    · rcases hp with e | ⟨mp, lt⟩
      · rw [e, path_root] at m
        cases m
      · exact ih p (by omega) mp (in_upI o f hu ma ep mp i) g m
    · rw [List.mem_singleton.mp m]
      exact i
def Apart (ts : List (Str × Str)) (n : Int) (sz : Str → Int) (u : Nat) : Prop := ∀ p, Pl ts p → ∀ c ∈ kids ts p, ∀ d ∈ kids ts p, inI ts n sz u c → inI ts n sz u d → c = d
theorem two_sumW {f : Str → Int} {c d : Str} (ne : c ≠ d) : ∀ {l : List Str}, (∀ a ∈ l, 0 ≤ f a) → c ∈ l → d ∈ l → f c + f d ≤ (l.map f).sum
  | a :: l, h, mc, md => by
    rw [List.map_cons, List.sum_cons]
    have h1 := h a (List.mem_cons_self ..)
    have h2 : ∀ c ∈ l, 0 ≤ f c := fun b hb => h b (List.mem_cons_of_mem a hb)
    rcases List.mem_cons.mp mc with e1 | mc'
    · rcases List.mem_cons.mp md with e2 | md'
      · exact absurd (e1.trans e2.symm) ne
      · have := le_sumW h2 md'
        rw [← e1]
        omega
    · rcases List.mem_cons.mp md with e2 | md'
      · have := le_sumW h2 mc'
        rw [← e2]
        omega
      · have := two_sumW ne h2 mc' md'
        omega
theorem apart_one (o : TreeOk ts) (f : Fea ts 1 sz) : Apart ts 1 sz 0 := by
  intro p pp c mc d md ic id
  by_cases ne : c = d
  · exact ne
  exfalso
  have s1 : 1 ≤ sz c := by
    unfold inI starI at ic
    by_cases q : (pathOf ts c)[0]? = (kids ts "")[0]?
    · rw [if_pos q] at ic; omega
    · rw [if_neg q] at ic; omega
  have s2 : 1 ≤ sz d := by
    unfold inI starI at id
    by_cases q : (pathOf ts d)[0]? = (kids ts "")[0]?
    · rw [if_pos q] at id; omega
    · rw [if_neg q] at id; omega
  have h := two_sumW (f := sz) ne (fun a ha => f.nn a (kids_sub ha)) mc md
  have h2 := f.res p (pp.elim (fun e => e ▸ List.mem_cons_self) fun m => List.mem_cons_of_mem _ m)
  unfold resid at h2
  by_cases e : p = ""
  · rw [if_pos e] at h2
    omega
  · rw [if_neg e] at h2
    have := fea_leW o f p (pp.resolve_left e)
    omega
theorem top_pathW (o : TreeOk ts) {x : Str} (m : x ∈ kids ts "") : (pathOf ts x)[0]? = some x := by
  rw [path_step o (kids_sub m) ((kid_par o).mp m), path_root] <;> rfl
theorem apart_two (o : TreeOk ts) (tw : twoC ts = true) (f : Fea ts n sz) {u : Nat} (hu : (u : Int) < n) : Apart ts n sz u := by
  intro p pp c mc d md ic id
  unfold twoC at tw
  rw [Bool.and_eq_true, decide_eq_true_iff, List.all_eq_true] at tw
  obtain ⟨t0, t1⟩ := tw
  by_cases e : p = ""
  · subst e
    by_cases ne : c = d
    · exact ne
    exfalso
    have h := two_sumW (f := sz) ne (fun a ha => f.nn a (kids_sub ha)) mc md
    have h2 := f.res "" List.mem_cons_self
    unfold resid at h2
    rw [if_pos rfl] at h2
    unfold inI starI at ic id
    rw [top_pathW o mc] at ic
    rw [top_pathW o md] at id
    have hk : ∃ a, kids ts "" = [a, c] ∧ a = d ∨ kids ts "" = [a, d] ∧ a = c := by
      match hq : kids ts "" with
      | [] => rw [hq] at mc; cases mc
      | [a] =>
        rw [hq] at mc md
        exact absurd ((List.mem_singleton.mp mc).trans (List.mem_singleton.mp md).symm) ne
      | [a, b] =>
        rw [hq] at mc md
        rcases List.mem_cons.mp mc with e1 | mc'
        · rcases List.mem_cons.mp md with e2 | md'
          · exact absurd (e1.trans e2.symm) ne
          · have e2 := List.mem_singleton.mp md'
            exact ⟨a, .inr ⟨by rw [e2], e1.symm⟩⟩
        · rcases List.mem_cons.mp md with e2 | md'
          · have e1 := List.mem_singleton.mp mc'
            exact ⟨a, .inl ⟨by rw [e1], e2.symm⟩⟩
          · exact absurd ((List.mem_singleton.mp mc').trans (List.mem_singleton.mp md').symm) ne
      | a :: b :: c :: l =>
        rw [hq] at t0
        rw [List.length_cons, List.length_cons, List.length_cons] at t0
        omega
    obtain ⟨a, ⟨ek, ea⟩ | ⟨ek, ea⟩⟩ := hk
    · subst ea
      rw [ek] at ic id
      have n1 : ¬ (some c = ([a, c] : List Str)[0]?) := fun z => ne (Option.some.inj z)
      rw [if_neg n1] at ic
      rw [if_pos (show some a = ([a, c] : List Str)[0]? from rfl)] at id
      omega
    · subst ea
      rw [ek] at ic id
      have n1 : ¬ (some d = ([a, d] : List Str)[0]?) := fun z => ne (Option.some.inj z).symm
      rw [if_neg n1] at id
      rw [if_pos (show some a = ([a, d] : List Str)[0]? from rfl)] at ic
      omega
  · have := of_decide_eq_true (t1 p (pp.resolve_left e))
    match hq : kids ts p with
    | [] => rw [hq] at mc; cases mc
    | [a] =>
      rw [hq] at mc md
      exact (List.mem_singleton.mp mc).trans (List.mem_singleton.mp md).symm
    | a :: b :: l =>
      rw [hq, List.length_cons, List.length_cons] at this
      omega
theorem in_lineI (o : TreeOk ts) (f : Fea ts n sz) {u : Nat} (hu : (u : Int) < n) (ap : Apart ts n sz u) {rk : Str → Nat} (r : Rk ts rk) {g : Str} (mg : g ∈ ts.map Prod.fst) (ig : inI ts n sz u g) : ∀ (k : Nat) (a : Str), rk a < k → a ∈ ts.map Prod.fst → inI ts n sz u a → a ∈ pathOf ts g ∨ g ∈ pathOf ts a := by
  have below : ∀ {p a : Str}, a ∈ ts.map Prod.fst → par ts a = some p → Pl ts p → inI ts n sz u a → g ≠ p → (p = "" ∨ p ∈ pathOf ts g) → a ∈ pathOf ts g := by
    intro p a ma ep pp ia ne h
    obtain ⟨c, h1, h2, _⟩ := child_on o r pp (rk g + 1) g (Nat.lt_succ_self _) mg ne h
    have ic := in_pathI o f hu r (rk g + 1) g (Nat.lt_succ_self _) mg ig c h2
    rw [ap p pp a ((kid_par o).mpr ep) c h1 ia ic]
    exact h2
  intro k
  induction k with
  | zero => intro a h; exact absurd h (Nat.not_lt_zero _)
  | succ k ih =>
    intro a hk ma ia
    obtain ⟨p, ep, hp, _⟩ := o.step r ma
    rcases hp with e | ⟨mp, lt⟩
    · exact .inl (below ma ep (.inl e) ia (fun z => o.root (by rw [← e, ← z]; exact mg)) (.inl e))
    · have st := path_step o ma ep
      rcases ih p (by omega) mp (in_upI o f hu ma ep mp ia) with h | h
      · by_cases e : g = p
        · refine .inr ?_
          rw [st, e]
          exact List.mem_append_left _ (path_endW o (.inr mp) fun z => o.root (z ▸ mp))
        · exact .inl (below ma ep (.inr mp) ia e (.inr h))
      · refine .inr ?_
        rw [st]
        exact List.mem_append_left _ h
theorem walk_mem (o : TreeOk ts) {m : Nat} {a : Str} {d : Int} (pa : Pl ts a) (hm : (pathOf ts a).length + m = ts.length + 1) {y : Str × Int} (h : y ∈ walkN ts m a d) : y.1 ≠ a ∧ (a = "" ∨ a ∈ pathOf ts y.1) := by
  have c := walk_count o (walk_flags o _ _ _ y h) m a d pa hm
  by_cases q : y.1 ≠ a ∧ (a = "" ∨ a ∈ pathOf ts y.1)
  · exact q
  · rw [if_neg q, List.count_eq_zero] at c
    exact absurd (List.mem_map.mpr ⟨y, h, rfl⟩) c
theorem walk_ord (o : TreeOk ts) : ∀ (m : Nat) (a : Str) (d : Int), Pl ts a → (pathOf ts a).length + m = ts.length + 1 → (walkN ts m a d).Pairwise fun x y => y.1 ∉ pathOf ts x.1 := by
  obtain ⟨rk, r⟩ := o.up
  intro m
  induction m with
  | zero => intro a d _ _; exact List.Pairwise.nil
  | succ m ih =>
    intro a d pa hm
    have get : ∀ z ∈ ts, ∀ x, x ∈ (if z.2 = a then (z.1, d) :: walkN ts m z.1 (d + 1) else []) → z.2 = a ∧ z.1 ∈ pathOf ts x.1 ∧ x.1 ∈ ts.map Prod.fst := by
      intro z hz x hx
      have mz : z.1 ∈ ts.map Prod.fst := List.mem_map.mpr ⟨z, hz, rfl⟩
      have zn : z.1 ≠ "" := fun q => o.root (q ▸ mz)
      by_cases e : z.2 = a
      · rw [if_pos e] at hx
        have ep := par_of o.nd (show (z.1, z.2) ∈ ts from hz)
        rcases List.mem_cons.mp hx with rfl | hx
        · exact ⟨e, path_endW o (.inr mz) zn, mz⟩
        · have := walk_mem o (.inr mz) (by rw [path_step o mz ep, e, List.length_append, List.length_singleton]; omega) hx
          exact ⟨e, this.2.resolve_left zn, walk_flags o _ _ _ x hx⟩
      · rw [if_neg e] at hx
        cases hx
    show (ts.flatMap _).Pairwise _
    rw [List.pairwise_flatMap]
    refine ⟨fun z hz => ?_, ?_⟩
    · have mz : z.1 ∈ ts.map Prod.fst := List.mem_map.mpr ⟨z, hz, rfl⟩
      have zn : z.1 ≠ "" := fun q => o.root (q ▸ mz)
      have ep := par_of o.nd (show (z.1, z.2) ∈ ts from hz)
      by_cases e : z.2 = a
      · have hl : (pathOf ts z.1).length + m = ts.length + 1 := by rw [path_step o mz ep, e, List.length_append, List.length_singleton]; omega
        rw [if_pos e, List.pairwise_cons]
        refine ⟨fun y hy mem => ?_, ih z.1 (d + 1) (.inr mz) hl⟩
        obtain ⟨h1, h2⟩ := walk_mem o (.inr mz) hl hy
        have l1 := path_ltW o r (.inr mz) mem h1
        have l2 := path_ltW o r (.inr (walk_flags o _ _ _ y hy)) (h2.resolve_left zn) (fun q => h1 q.symm)
        omega
      · rw [if_neg e]
        exact List.Pairwise.nil
    · have nd : ts.Pairwise fun z w => z.1 ≠ w.1 := List.pairwise_map.mp o.nd
      refine nd.imp_of_mem fun {z w} hz hw ne x hx y hy mem => ?_
      obtain ⟨e1, p1, m1⟩ := get z hz x hx
      obtain ⟨e2, p2, m2⟩ := get w hw y hy
      have mz : z.1 ∈ ts.map Prod.fst := List.mem_map.mpr ⟨z, hz, rfl⟩
      have ep := par_of o.nd (show (z.1, z.2) ∈ ts from hz)
      have ew := par_of o.nd (show (w.1, w.2) ∈ ts from hw)
      rw [e1] at ep
      rw [e2] at ew
      have p3 := path_transW o r (rk x.1 + 1) x.1 (Nat.lt_succ_self _) m1 mem p2
      have xa : x.1 ≠ a := fun q => by
        rw [q] at p1
        exact not_above o ep p1
      have up : a = "" ∨ a ∈ pathOf ts x.1 := path_upW o r ep (rk x.1 + 1) x.1 (Nat.lt_succ_self _) m1 p1
      obtain ⟨c, _, _, h3⟩ := child_on o r pa (rk x.1 + 1) x.1 (Nat.lt_succ_self _) m1 xa up
      exact ne ((h3 z.1 ((kid_par o).mpr ep) p1).trans (h3 w.1 ((kid_par o).mpr ew) p3).symm)
theorem rowsW_ord (o : TreeOk ts) : (rowsW ts).Pairwise fun x y => y.1 ∉ pathOf ts x.1 := walk_ord o _ _ _ (.inl rfl) (by rw [path_root]; show 0 + _ = _; omega)
theorem star_ok (o : TreeOk ts) (f : Fea ts n sz) {a : Str} (ma : a ∈ ts.map Prod.fst) : 0 ≤ starI ts n sz a ∧ 0 ≤ sz a ∧ (starI ts n sz a).toNat + (sz a).toNat ≤ n.toNat := by
  have h1 := f.nn a ma
  have h2 := fea_leW o f a ma
  unfold starI
  by_cases q : (pathOf ts a)[0]? = (kids ts "")[0]?
  · rw [if_pos q]; omega
  · rw [if_neg q]; omega
/-- who has a flag under fixed: the users of its interval -/
theorem fixP_at (o : TreeOk ts) (f : Fea ts n sz) {u : Nat} (hu : (u : Int) < n) (ap : Apart ts n sz u) {z : Str} (h : (fixP ts n sz)[u]? = some z) {a : Str} (ma : a ∈ ts.map Prod.fst) : a ∈ pathOf ts z ↔ inI ts n sz u a := by
  obtain ⟨rk, r⟩ := o.up
  have wf : ∀ y ∈ rowsW ts, y.1 ∈ ts.map Prod.fst := fun y hy => walk_flags o _ _ _ y hy
  have e := fix_at (u := u) (rowsW ts) (List.replicate n.toNat "") (fun y hy => by rw [List.length_replicate]; exact star_ok o f (wf y hy))
  unfold fixP at h
  rw [e, List.getElem?_replicate, if_pos (by omega)] at h
  have min : a ∈ (rowsW ts).map Prod.fst := (rowsW_perm o).mem_iff.mpr ma
  obtain ⟨w, hw, rfl⟩ := List.mem_map.mp min
  cases q : (rowsW ts).reverse.find? fun y => decide (starI ts n sz y.1 ≤ (u : Int) ∧ (u : Int) < starI ts n sz y.1 + sz y.1) with
  | none =>
    rw [q] at h
    have ez : z = "" := (Option.some.inj (show some ("" : Str) = some z from h)).symm
    rw [ez, path_root]
    refine ⟨fun m => absurd m List.not_mem_nil, fun i => ?_⟩
    have := List.find?_eq_none.mp q w (List.mem_reverse.mpr hw)
    exact absurd (decide_eq_true (show starI ts n sz w.1 ≤ (u : Int) ∧ (u : Int) < starI ts n sz w.1 + sz w.1 from i)) this
  | some y =>
    rw [q] at h
    have ez : z = y.1 := (Option.some.inj (show some y.1 = some z from h)).symm
    rw [ez]
    obtain ⟨hp, as, bs, el, hn⟩ := List.find?_eq_some_iff_append.mp q
    have iy : inI ts n sz u y.1 := (of_decide_eq_true hp : starI ts n sz y.1 ≤ (u : Int) ∧ (u : Int) < starI ts n sz y.1 + sz y.1)
    have er : rowsW ts = bs.reverse ++ y :: as.reverse := by
      have := congrArg List.reverse el
      rw [List.reverse_reverse] at this
      rw [this, List.reverse_append, List.reverse_cons, List.append_assoc] <;> rfl
    have my : y.1 ∈ ts.map Prod.fst := wf y (by rw [er]; exact List.mem_append_right _ List.mem_cons_self)
    refine ⟨fun m => in_pathI o f hu r _ y.1 (Nat.lt_succ_self _) my iy w.1 m, fun i => ?_⟩
    rcases in_lineI o f hu ap r my iy _ w.1 (Nat.lt_succ_self _) ma i with m | m
    · exact m
    · have od := rowsW_ord o
      rw [er] at hw od
      rcases List.mem_append.mp hw with hb | hb
      · exact absurd m ((List.pairwise_append.mp od).2.2 w hb y List.mem_cons_self)
      · rcases List.mem_cons.mp hb with rfl | hb
        · exact path_endW o (.inr my) fun z => o.root (z ▸ my)
        · have := hn w (List.mem_reverse.mp hb)
          rw [decide_eq_true (show starI ts n sz w.1 ≤ (u : Int) ∧ (u : Int) < starI ts n sz w.1 + sz w.1 from i)] at this
          cases this
theorem cnt_iv {p : Str → Bool} : ∀ (l : List Str) (s k : Nat), s + k ≤ l.length → (∀ u z, l[u]? = some z → (p z = true ↔ s ≤ u ∧ u < s + k)) → (l.filter p).length = k
  | [], s, k, h, _ => by
    rw [List.length_nil] at h
    show 0 = k
    omega
  | x :: l, s, k, h, hp => by
    rw [List.length_cons] at h
    have h0 := hp 0 x rfl
    have hs : ∀ u z, l[u]? = some z → (p z = true ↔ s ≤ u + 1 ∧ u + 1 < s + k) := fun u z hz => hp (u + 1) z hz
    rw [List.filter_cons]
    cases s with
    | zero =>
      cases k with
      | zero =>
        rw [if_neg (fun w => by have := h0.mp w; omega)]
        exact cnt_iv l 0 0 (Nat.zero_le _) fun u z hz => (hs u z hz).trans (by omega)
      | succ k =>
        rw [if_pos (h0.mpr (by omega)), List.length_cons, cnt_iv l 0 k (by omega) fun u z hz => (hs u z hz).trans (by omega)]
    | succ s =>
      rw [if_neg (fun w => by have := h0.mp w; omega)]
      exact cnt_iv l s k (by omega) fun u z hz => (hs u z hz).trans (by omega)
theorem fixP_len (o : TreeOk ts) : (fixP ts n sz).length = n.toNat := by
  have := (fix_ok (ts := ts) (n := n) (sz := sz) (rowsW ts) (List.replicate n.toNat "") (fun y hy => walk_flags o _ _ _ y hy) (fun z hz => .inl (List.eq_of_mem_replicate hz))).1
  rw [List.length_replicate] at this
  exact this
theorem fixP_pl (o : TreeOk ts) : ∀ z ∈ fixP ts n sz, Pl ts z :=
  (fix_ok (ts := ts) (n := n) (sz := sz) (rowsW ts) (List.replicate n.toNat "") (fun y hy => walk_flags o _ _ _ y hy) (fun z hz => .inl (List.eq_of_mem_replicate hz))).2
theorem apart_mem (o : TreeOk ts) (f : Fea ts n sz) (mc : memC ts (.int n) = true) {u : Nat} (hu : (u : Int) < n) : Apart ts n sz u := by
  unfold memC at mc
  rcases Bool.or_eq_true _ _ |>.mp mc with h | h
  · have e : n = 1 := by have := of_decide_eq_true h; injection this
    subst e
    have e0 : u = 0 := by omega
    subst e0
    exact apart_one o f
  · exact apart_two o h f hu
theorem fixP_has (o : TreeOk ts) (f : Fea ts n sz) (mc : memC ts (.int n) = true) {u : Nat} {z : Str} (h : (fixP ts n sz)[u]? = some z) {a : Str} (ma : a ∈ ts.map Prod.fst) : a ∈ pathOf ts z ↔ inI ts n sz u a := by
  have hu : (u : Int) < n := by
    obtain ⟨hl, _⟩ := List.getElem?_eq_some_iff.mp h
    rw [fixP_len o] at hl
    omega
  exact fixP_at o f hu (apart_mem o f mc hu) h ma
/-- the sizes of a fixed assignment are the given ones -/
theorem fixP_sz (o : TreeOk ts) (f : Fea ts n sz) (mc : memC ts (.int n) = true) {a : Str} (ma : a ∈ ts.map Prod.fst) : szZ ts (fixP ts n sz) a = sz a := by
  obtain ⟨h1, h2, h3⟩ := star_ok o f ma
  unfold szZ
  rw [cnt_iv (fixP ts n sz) (starI ts n sz a).toNat (sz a).toNat (by rw [fixP_len o]; exact h3) fun u z hz => by
    rw [decide_eq_true_iff, fixP_has o f mc hz ma]
    unfold inI
    omega]
  omega
/-- between two fixed assignments a flag only gets or only loses users -/
theorem fixP_btw (o : TreeOk ts) {s1 s2 : Str → Int} (f1 : Fea ts n s1) (f2 : Fea ts n s2) (mc : memC ts (.int n) = true) {a : Str} (ma : a ∈ ts.map Prod.fst) {u v : Nat} {y1 y2 z1 z2 : Str}
    (hu1 : (fixP ts n s1)[u]? = some y1) (hu2 : (fixP ts n s2)[u]? = some y2) (hv1 : (fixP ts n s1)[v]? = some z1) (hv2 : (fixP ts n s2)[v]? = some z2)
    (a1 : a ∈ pathOf ts y1) (a2 : a ∉ pathOf ts y2) (b1 : a ∉ pathOf ts z1) (b2 : a ∈ pathOf ts z2) : False := by
  have lu : (u : Int) < n := by
    obtain ⟨hl, _⟩ := List.getElem?_eq_some_iff.mp hu1
    rw [fixP_len o] at hl
    omega
  have lv : (v : Int) < n := by
    obtain ⟨hl, _⟩ := List.getElem?_eq_some_iff.mp hv1
    rw [fixP_len o] at hl
    omega
  rw [fixP_has o f1 mc hu1 ma] at a1
  rw [fixP_has o f2 mc hu2 ma] at a2
  rw [fixP_has o f1 mc hv1 ma] at b1
  rw [fixP_has o f2 mc hv2 ma] at b2
  unfold inI starI at a1 a2 b1 b2
  by_cases q : (pathOf ts a)[0]? = (kids ts "")[0]?
  · rw [if_pos q] at a1 a2 b1 b2
    omega
  · rw [if_neg q] at a1 a2 b1 b2
    omega
end
end FT


/-! plain: the sizes of a witness have no three assignments that are best changes of each other -/
namespace FT
open PySem L2 TL ClX
/-- who has a flag, user by user -/
def Hs (ts : List (Str × Str)) (zs : List Str) (a : Str) : List Bool := zs.map fun z => decide (a ∈ pathOf ts z)
theorem Hs_len (ts : List (Str × Str)) (zs : List Str) (a : Str) : (Hs ts zs a).length = zs.length := by unfold Hs; rw [List.length_map]
theorem Hs_get {ts : List (Str × Str)} {zs : List Str} {a : Str} {u : Nat} {z : Str} (h : zs[u]? = some z) : (Hs ts zs a)[u]? = some (decide (a ∈ pathOf ts z)) := by
  unfold Hs
  rw [List.getElem?_map, h] <;> rfl
theorem Hs_true {ts : List (Str × Str)} {zs : List Str} {a : Str} {u : Nat} (h : (Hs ts zs a)[u]? = some true) : ∃ z, zs[u]? = some z ∧ a ∈ pathOf ts z := by
  unfold Hs at h
  rw [List.getElem?_map] at h
  obtain ⟨z, hz, e⟩ := Option.map_eq_some_iff.mp h
  exact ⟨z, hz, of_decide_eq_true e⟩
theorem Hs_cnt (ts : List (Str × Str)) (zs : List Str) (a : Str) : ((Hs ts zs a).count true : Int) = szZ ts zs a := by
  unfold Hs szZ
  induction zs with
  | nil => rfl
  | cons z l ih =>
    rw [List.map_cons, List.filter_cons]
    by_cases h : a ∈ pathOf ts z
    · rw [decide_eq_true h, List.count_cons_self, if_pos rfl, List.length_cons]
      omega
    · rw [decide_eq_false h, List.count_cons_of_ne (by decide), if_neg (by decide)]
      exact ih
def LeB (l m : List Bool) : Prop := ∀ i : Nat, l[i]? = some true → m[i]? = some true
theorem LeB.tail {x y : Bool} {l m : List Bool} (h : LeB (x :: l) (y :: m)) : LeB l m := fun i e => by
  have := h (i + 1) (by rw [List.getElem?_cons_succ]; exact e)
  rwa [List.getElem?_cons_succ] at this
theorem LeB.head {x y : Bool} {l m : List Bool} (h : LeB (x :: l) (y :: m)) (e : x = true) : y = true := by
  have := h 0 (by rw [e] <;> rfl)
  exact Option.some.inj this
theorem LeB.cnt : ∀ {l m : List Bool}, l.length = m.length → LeB l m → l.count true ≤ m.count true
  | [], [], _, _ => Nat.le_refl _
  | x :: l, y :: m, e, h => by
    have ih := LeB.cnt (l := l) (m := m) (Nat.succ.inj e) h.tail
    cases x with
    | false =>
      rw [List.count_cons_of_ne (by decide)]
      exact Nat.le_trans ih (List.count_le_count_cons)
    | true =>
      rw [h.head rfl, List.count_cons_self, List.count_cons_self]
      omega
theorem LeB.eq : ∀ {l m : List Bool}, l.length = m.length → LeB l m → l.count true = m.count true → l = m
  | [], [], _, _, _ => rfl
  | x :: l, y :: m, e, h, c => by
    have le := LeB.cnt (l := l) (m := m) (Nat.succ.inj e) h.tail
    cases x with
    | false =>
      rw [List.count_cons_of_ne (by decide)] at c
      cases y with
      | false =>
        rw [List.count_cons_of_ne (by decide)] at c
        rw [LeB.eq (Nat.succ.inj e) h.tail c]
      | true =>
        rw [List.count_cons_self] at c
        omega
    | true =>
      have hy := h.head rfl
      subst hy
      rw [List.count_cons_self, List.count_cons_self] at c
      rw [LeB.eq (Nat.succ.inj e) h.tail (by omega)]
/-- as many, and one way: the same -/
theorem same_B {l m : List Bool} (e : l.length = m.length) (c : l.count true = m.count true) (h : LeB l m ∨ LeB m l) : l = m := by
  rcases h with h | h
  · exact h.eq e c
  · exact (h.eq e.symm c.symm).symm
theorem has_B : ∀ {l : List Bool}, 1 ≤ l.count true → ∃ u : Nat, l[u]? = some true
  | [], h => absurd h (by decide)
  | true :: l, _ => ⟨0, rfl⟩
  | false :: l, h => by
    rw [List.count_cons_of_ne (by decide)] at h
    obtain ⟨u, hu⟩ := has_B h
    exact ⟨u + 1, by rw [List.getElem?_cons_succ]; exact hu⟩
theorem one_B : ∀ {l : List Bool}, l.count true = 1 → ∀ {u v : Nat}, l[u]? = some true → l[v]? = some true → u = v
  | [], h, _, _, _, _ => absurd h (by decide)
  | true :: l, h, u, v, hu, hv => by
    rw [List.count_cons_self] at h
    have z : ∀ i : Nat, l[i]? ≠ some true := fun i e => by
      have := List.count_pos_iff.mpr (List.mem_of_getElem? e)
      omega
    cases u with
    | zero =>
      cases v with
      | zero => rfl
      | succ v => rw [List.getElem?_cons_succ] at hv; exact absurd hv (z v)
    | succ u => rw [List.getElem?_cons_succ] at hu; exact absurd hu (z u)
  | false :: l, h, u, v, hu, hv => by
    rw [List.count_cons_of_ne (by decide)] at h
    cases u with
    | zero => cases hu
    | succ u =>
      cases v with
      | zero => cases hv
      | succ v =>
        rw [List.getElem?_cons_succ] at hu hv
        rw [one_B h hu hv]
/-- two that never meet and are all together -/
theorem all_B : ∀ {l m : List Bool}, l.length = m.length → (∀ i : Nat, l[i]? = some true → m[i]? = some true → False) → l.length ≤ l.count true + m.count true → ∀ i, i < l.length → l[i]? = some true ∨ m[i]? = some true := by
  have low : ∀ {l m : List Bool}, l.length = m.length → (∀ i : Nat, l[i]? = some true → m[i]? = some true → False) → l.count true + m.count true ≤ l.length := by
    intro l
    induction l with
    | nil => intro m e _; cases m with
      | nil => exact Nat.le_refl _
      | cons _ _ => cases e
    | cons x l ih =>
      intro m e d
      cases m with
      | nil => cases e
      | cons y m =>
        have q := ih (m := m) (Nat.succ.inj e) fun i h1 h2 => d (i + 1) (by rw [List.getElem?_cons_succ]; exact h1) (by rw [List.getElem?_cons_succ]; exact h2)
        have d0 := d 0
        cases x <;> cases y <;> simp [List.count_cons] at d0 ⊢ <;> omega
  intro l
  induction l with
  | nil => intro m _ _ _ i hi; exact absurd hi (Nat.not_lt_zero _)
  | cons x l ih =>
    intro m e d c i hi
    cases m with
    | nil => cases e
    | cons y m =>
      have dl : ∀ i : Nat, l[i]? = some true → m[i]? = some true → False := fun i h1 h2 => d (i + 1) (by rw [List.getElem?_cons_succ]; exact h1) (by rw [List.getElem?_cons_succ]; exact h2)
      have q := low (l := l) (m := m) (Nat.succ.inj e) dl
      have d0 := d 0
      cases i with
      | zero =>
        cases x with
        | true => exact .inl rfl
        | false =>
          cases y with
          | true => exact .inr rfl
          | false =>
            rw [List.count_cons_of_ne (by decide), List.count_cons_of_ne (by decide), List.length_cons] at c
            omega
      | succ i =>
        rw [List.getElem?_cons_succ, List.getElem?_cons_succ]
        refine ih (Nat.succ.inj e) dl ?_ i (Nat.lt_of_succ_lt_succ hi)
        cases x <;> cases y <;> simp [List.count_cons] at d0 c ⊢ <;> omega
section
variable {ts : List (Str × Str)}
/-- two children of one place are never on one path -/
theorem sib_path (o : TreeOk ts) {p b c x : Str} (px : Pl ts x) (pp : Pl ts p) (hb : b ∈ kids ts p) (hc : c ∈ kids ts p) (ne : b ≠ c) (mb : b ∈ pathOf ts x) (mc : c ∈ pathOf ts x) : False := by
  obtain ⟨rk, r⟩ := o.up
  have pb := (kid_par o).mp hb
  have mbf := par_flag pb
  have mx : x ∈ ts.map Prod.fst := px.resolve_left fun e => by rw [e, path_root] at mb; cases mb
  obtain ⟨q, eq, alt, _⟩ := o.step r mbf
  rw [pb] at eq
  cases eq
  have np : b ≠ p := fun e => by
    rcases alt with h | ⟨_, h⟩
    · exact o.root (by rw [← h, ← e]; exact mbf)
    · rw [e] at h; exact Nat.lt_irrefl _ h
  have nx : x ≠ p := fun e => by
    rw [e] at mb
    have lt := path_ltW o r pp mb np
    rcases alt with h | ⟨_, h⟩
    · rw [h, path_root] at mb; cases mb
    · omega
  have up : p = "" ∨ p ∈ pathOf ts x := path_upW o r pb (rk x + 1) x (Nat.lt_succ_self _) mx mb
  obtain ⟨d, _, _, one⟩ := child_on o r pp (rk x + 1) x (Nat.lt_succ_self _) mx nx up
  exact ne ((one b hb mb).trans (one c hc mc).symm)
/-- three assignments, each the best change of the others: flag by flag one way -/
def OneWay (ts : List (Str × Str)) (z1 z2 : List Str) : Prop := ∀ a ∈ ts.map Prod.fst, LeB (Hs ts z1 a) (Hs ts z2 a) ∨ LeB (Hs ts z2 a) (Hs ts z1 a)
theorem eqH (o : TreeOk ts) {z1 z2 : List Str} {n : Nat} (l1 : z1.length = n) (l2 : z2.length = n) (w : OneWay ts z1 z2) {a : Str} (ma : a ∈ ts.map Prod.fst) (e : szZ ts z1 a = szZ ts z2 a) : Hs ts z1 a = Hs ts z2 a := by
  refine same_B (by rw [Hs_len, Hs_len, l1, l2]) ?_ (w a ma)
  have h1 := Hs_cnt ts z1 a
  have h2 := Hs_cnt ts z2 a
  omega
theorem cntH {z : List Str} {a : Str} {k : Nat} (h : szZ ts z a = k) : (Hs ts z a).count true = k := by
  have := Hs_cnt ts z a
  omega
/-- three top flags -/
theorem no_three (o : TreeOk ts) {z1 z2 z3 : List Str} {n : Nat} (l1 : z1.length = n) (l2 : z2.length = n) (l3 : z3.length = n) (p1 : ∀ z ∈ z1, Pl ts z) (p2 : ∀ z ∈ z2, Pl ts z) (p3 : ∀ z ∈ z3, Pl ts z) (w12 : OneWay ts z1 z2) (w13 : OneWay ts z1 z3) (w23 : OneWay ts z2 z3)
    {a b c : Str} (ha : a ∈ kids ts "") (hb : b ∈ kids ts "") (hc : c ∈ kids ts "") (ab : a ≠ b) (ac : a ≠ c) (bc : b ≠ c)
    (a1 : szZ ts z1 a = 1) (b1 : szZ ts z1 b = (n : Int) - 1) (b2 : szZ ts z2 b = (n : Int) - 1) (c2 : szZ ts z2 c = 1) (a3 : szZ ts z3 a = 1) (c3 : szZ ts z3 c = 1) : False := by
  have fl : ∀ {k : Str}, k ∈ kids ts "" → k ∈ ts.map Prod.fst := fun h => par_flag ((kid_par o).mp h)
  have eA := eqH o l1 l3 w13 (fl ha) (by rw [a1, a3])
  have eB := eqH o l1 l2 w12 (fl hb) (by rw [b1, b2])
  have eC := eqH o l2 l3 w23 (fl hc) (by rw [c2, c3])
  obtain ⟨u, hu⟩ := has_B (l := Hs ts z1 a) (by rw [cntH (k := 1) a1]; exact Nat.le_refl _)
  have hu3 := hu
  rw [eA] at hu3
  obtain ⟨x1, hx1, m1⟩ := Hs_true hu
  obtain ⟨x3, hx3, m3⟩ := Hs_true hu3
  have un : u < n := by rw [← l1]; exact (List.getElem?_eq_some_iff.mp hx1).1
  have alt := all_B (l := Hs ts z2 b) (m := Hs ts z2 c) (by rw [Hs_len, Hs_len]) (fun i h1 h2 => by
    obtain ⟨y1, hy1, q1⟩ := Hs_true h1
    obtain ⟨y2, hy2, q2⟩ := Hs_true h2
    rw [hy1] at hy2
    cases hy2
    exact sib_path o (p2 _ (List.mem_of_getElem? hy1)) (.inl rfl) hb hc bc q1 q2) (by
      have h1 := Hs_cnt ts z2 b
      have h2 := Hs_cnt ts z2 c
      rw [Hs_len]
      omega) u (by rw [Hs_len, l2]; exact un)
  rcases alt with h | h
  · rw [← eB] at h
    obtain ⟨y, hy, q⟩ := Hs_true h
    rw [hx1] at hy
    cases hy
    exact sib_path o (p1 _ (List.mem_of_getElem? hx1)) (.inl rfl) ha hb ab m1 q
  · rw [eC] at h
    obtain ⟨y, hy, q⟩ := Hs_true h
    rw [hx3] at hy
    cases hy
    exact sib_path o (p3 _ (List.mem_of_getElem? hx3)) (.inl rfl) ha hc ac m3 q
theorem up_H (o : TreeOk ts) {zs : List Str} (pl : ∀ z ∈ zs, Pl ts z) {a b : Str} (hb : b ∈ kids ts a) (na : a ≠ "") : LeB (Hs ts zs b) (Hs ts zs a) := fun u h => by
  obtain ⟨rk, r⟩ := o.up
  obtain ⟨z, hz, m⟩ := Hs_true h
  have mz : z ∈ ts.map Prod.fst := (pl z (List.mem_of_getElem? hz)).resolve_left fun e => by rw [e, path_root] at m; cases m
  have := (path_upW o r ((kid_par o).mp hb) (rk z + 1) z (Nat.lt_succ_self _) mz m).resolve_left na
  rw [Hs_get hz, decide_eq_true this]
/-- a flag with two children -/
theorem no_fork (o : TreeOk ts) {z1 z2 z3 : List Str} {n : Nat} (l1 : z1.length = n) (l2 : z2.length = n) (l3 : z3.length = n) (p1 : ∀ z ∈ z1, Pl ts z) (p2 : ∀ z ∈ z2, Pl ts z) (p3 : ∀ z ∈ z3, Pl ts z) (w12 : OneWay ts z1 z2) (w13 : OneWay ts z1 z3) (w23 : OneWay ts z2 z3)
    {a b c : Str} (ma : a ∈ ts.map Prod.fst) (hb : b ∈ kids ts a) (hc : c ∈ kids ts a) (bc : b ≠ c)
    (a1 : szZ ts z1 a = 1) (b1 : szZ ts z1 b = 1) (a2 : szZ ts z2 a = 1) (c2 : szZ ts z2 c = 1) (b3 : szZ ts z3 b = 1) (c3 : szZ ts z3 c = 1) : False := by
  have fl : ∀ {k : Str}, k ∈ kids ts a → k ∈ ts.map Prod.fst := fun h => par_flag ((kid_par o).mp h)
  have na : a ≠ "" := fun e => o.root (e ▸ ma)
  have eA := eqH o l1 l2 w12 ma (by rw [a1, a2])
  have eB := eqH o l1 l3 w13 (fl hb) (by rw [b1, b3])
  have eC := eqH o l2 l3 w23 (fl hc) (by rw [c2, c3])
  obtain ⟨u, hu⟩ := has_B (l := Hs ts z1 b) (by rw [cntH (k := 1) b1]; exact Nat.le_refl _)
  obtain ⟨v, hv⟩ := has_B (l := Hs ts z2 c) (by rw [cntH (k := 1) c2]; exact Nat.le_refl _)
  have h1 := up_H o p1 hb na u hu
  have h2 := up_H o p2 hc na v hv
  rw [eA] at h1
  have uv := one_B (cntH (k := 1) a2) h1 h2
  subst uv
  rw [eB] at hu
  rw [eC] at hv
  obtain ⟨x, hx, m⟩ := Hs_true hu
  obtain ⟨y, hy, m'⟩ := Hs_true hv
  rw [hx] at hy
  cases hy
  exact sib_path o (p3 _ (List.mem_of_getElem? hx)) (.inr ma) hb hc bc m m'
end
end FT
namespace FT
open PySem L2 TL ClX
/-! ### the witness -/
def bigW (ts : List (Str × Str)) : Bool := decide (2 < (kids ts "").length)
def abvs (ts : List (Str × Str)) : List Str := (ts.map Prod.fst).filter fun x => decide (1 < (kids ts x).length)
def abvW (ts : List (Str × Str)) : Str := (abvs ts).headD ""
def nmW (ts : List (Str × Str)) : List Str := if bigW ts = true then (kids ts "").take 3 else abvW ts :: (kids ts (abvW ts)).take 2
def bsW (ts : List (Str × Str)) (x : Str) : Int := if bigW ts = true then 0 else if x ∈ pathOf ts (abvW ts) then 2 else 0
def rwW (ts : List (Str × Str)) (n : Int) : List (List Int) := if bigW ts = true then [[1, n - 1, 0], [0, n - 1, 1], [1, n - 2, 1]] else [[1, 1, 0], [1, 0, 1], [2, 1, 1]]
def putW (f : Str → Int) : List Str → List Int → Str → Int
  | a :: l, v :: m => putW (fun x => if x = a then v else f x) l m
  | _, _ => f
def wW (ts : List (Str × Str)) (n : Int) (i : Nat) : Str → Int := putW (bsW ts) (nmW ts) ((rwW ts n).getD i [])
theorem putW3 {f : Str → Int} {a b c : Str} {r s t : Int} (ab : a ≠ b) (ac : a ≠ c) (bc : b ≠ c) : putW f [a, b, c] [r, s, t] a = r ∧ putW f [a, b, c] [r, s, t] b = s ∧ putW f [a, b, c] [r, s, t] c = t := by
  refine ⟨?_, ?_, ?_⟩
  · show (if a = c then t else if a = b then s else if a = a then r else f a) = r
    rw [if_neg ac, if_neg ab, if_pos rfl]
  · show (if b = c then t else if b = b then s else if b = a then r else f b) = s
    rw [if_neg bc, if_pos rfl]
  · show (if c = c then t else if c = b then s else if c = a then r else f c) = t
    rw [if_pos rfl]
theorem szZ_nil (ts : List (Str × Str)) (x : Str) : szZ ts [] x = 0 := rfl
theorem szZ_cons (ts : List (Str × Str)) (z : Str) (l : List Str) (x : Str) : szZ ts (z :: l) x = (if x ∈ pathOf ts z then 1 else 0) + szZ ts l x := by
  unfold szZ
  rw [List.filter_cons]
  by_cases h : x ∈ pathOf ts z
  · rw [decide_eq_true h, if_pos rfl, if_pos h, List.length_cons]
    omega
  · rw [decide_eq_false h, if_neg (by decide), if_neg h]
    omega
theorem szZ_rep (ts : List (Str × Str)) (z x : Str) : ∀ k : Nat, szZ ts (List.replicate k z) x = if x ∈ pathOf ts z then (k : Int) else 0
  | 0 => by rw [show List.replicate 0 z = [] from rfl, szZ_nil]; split <;> rfl
  | k + 1 => by
    rw [List.replicate_succ, szZ_cons, szZ_rep ts z x k]
    split <;> omega
theorem three_of {l : List Str} (h : 2 < l.length) : ∃ a b c m, l = a :: b :: c :: m := by
  match l, h with
  | a :: b :: c :: m, _ => exact ⟨a, b, c, m, rfl⟩
  | [], h => exact absurd h (by decide)
  | [_], h => exact absurd h (by show ¬ 2 < 1; decide)
  | [_, _], h => exact absurd h (by show ¬ 2 < 2; decide)
theorem two_of {l : List Str} (h : 1 < l.length) : ∃ a b m, l = a :: b :: m := by
  match l, h with
  | a :: b :: m, _ => exact ⟨a, b, m, rfl⟩
  | [], h => exact absurd h (by decide)
  | [_], h => exact absurd h (by show ¬ 1 < 1; decide)
section
variable {ts : List (Str × Str)}
/-- what the names of a witness are -/
theorem nm_big (o : TreeOk ts) (h : bigW ts = true) : ∃ a b c, nmW ts = [a, b, c] ∧ a ∈ kids ts "" ∧ b ∈ kids ts "" ∧ c ∈ kids ts "" ∧ a ≠ b ∧ a ≠ c ∧ b ≠ c := by
  obtain ⟨a, b, c, m, e⟩ := three_of (of_decide_eq_true h)
  have nd := kids_nd o ""
  rw [e] at nd
  simp only [List.nodup_cons, List.mem_cons, not_or] at nd
  refine ⟨a, b, c, by unfold nmW; rw [if_pos h, e] <;> rfl, by rw [e]; simp, by rw [e]; simp, by rw [e]; simp, nd.1.1, nd.1.2.1, nd.2.1.1⟩
theorem abv_some (h : bigW ts = false) (nt : twoC ts = false) : ∃ a m, abvs ts = a :: m ∧ abvW ts = a ∧ a ∈ ts.map Prod.fst ∧ 1 < (kids ts a).length := by
  have le : (kids ts "").length ≤ 2 := by have := of_decide_eq_false h; omega
  unfold twoC at nt
  rw [decide_eq_true le, Bool.true_and] at nt
  have : ∃ x ∈ ts.map Prod.fst, ¬ (kids ts x).length ≤ 1 := by
    by_cases z : ∃ x ∈ ts.map Prod.fst, ¬ (kids ts x).length ≤ 1
    · exact z
    · have := (List.all_eq_true (l := ts.map Prod.fst) (p := fun n => decide ((kids ts n).length ≤ 1))).mpr fun x hx => decide_eq_true (Classical.byContradiction fun q => z ⟨x, hx, q⟩)
      rw [this] at nt
      cases nt
  obtain ⟨x, mx, hx⟩ := this
  have ne : x ∈ abvs ts := List.mem_filter.mpr ⟨mx, decide_eq_true (by omega)⟩
  cases e : abvs ts with
  | nil => rw [e] at ne; cases ne
  | cons a m =>
    have ma : a ∈ abvs ts := by rw [e]; exact List.mem_cons_self
    obtain ⟨h1, h2⟩ := List.mem_filter.mp ma
    exact ⟨a, m, rfl, by unfold abvW; rw [e] <;> rfl, h1, of_decide_eq_true h2⟩
theorem nm_fork (o : TreeOk ts) (h : bigW ts = false) (nt : twoC ts = false) : ∃ a b c, abvW ts = a ∧ nmW ts = [a, b, c] ∧ a ∈ ts.map Prod.fst ∧ b ∈ kids ts a ∧ c ∈ kids ts a ∧ a ≠ b ∧ a ≠ c ∧ b ≠ c := by
  obtain ⟨a, m, _, ea, ma, two⟩ := abv_some h nt
  obtain ⟨b, c, m', e⟩ := two_of two
  have nd := kids_nd o a
  rw [e] at nd
  simp only [List.nodup_cons, List.mem_cons, not_or] at nd
  have kb : b ∈ kids ts a := by rw [e]; simp
  have kc : c ∈ kids ts a := by rw [e]; simp
  have ne : ∀ {k : Str}, k ∈ kids ts a → a ≠ k := fun hk z => by
    obtain ⟨rk, r⟩ := o.up
    obtain ⟨q, eq, alt, _⟩ := o.step r ma
    have p := (kid_par o).mp hk
    rw [← z, eq] at p
    cases p
    rcases alt with e' | ⟨_, lt⟩
    · exact o.root (e' ▸ ma)
    · exact Nat.lt_irrefl _ lt
  exact ⟨a, b, c, ea, by unfold nmW; rw [if_neg (by rw [h]; decide), ea, e] <;> rfl, ma, kb, kc, ne kb, ne kc, nd.1.1⟩
theorem top_p (o : TreeOk ts) {a : Str} (h : a ∈ kids ts "") : pathOf ts a = [a] := by
  have p := (kid_par o).mp h
  rw [path_step o (par_flag p) p, path_root] <;> rfl
theorem feaCongr {n : Int} {s s' : Str → Int} (o : TreeOk ts) (f : Fea ts n s) (e : ∀ a ∈ ts.map Prod.fst, s' a = s a) : Fea ts n s' := by
  refine ⟨fun a ha => by rw [e a ha]; exact f.nn a ha, fun p hp => ?_⟩
  have q := f.res p hp
  unfold resid at q ⊢
  have k1 : (kids ts p).map s' = (kids ts p).map s := List.map_congr_left fun k hk => e k (par_flag ((kid_par o).mp hk))
  rw [k1]
  by_cases z : p = ""
  · rw [if_pos z] at q ⊢
    exact q
  · rw [if_neg z] at q ⊢
    rw [e p ((List.mem_cons.mp hp).resolve_left z)]
    exact q
/-- the sizes are feasible -/
theorem wit_fea (o : TreeOk ts) (nt : twoC ts = false) {n : Int} (n2 : 2 ≤ n) : ∀ i, i < 3 → Fea ts n (wW ts n i) := by
  have mk : ∀ {zs : List Str} {s : Str → Int}, (zs.length : Int) = n → (∀ z ∈ zs, Pl ts z) → (∀ x ∈ ts.map Prod.fst, s x = szZ ts zs x) → Fea ts n s := fun l pl e => feaCongr o (by rw [← l]; exact fea_szZ o pl) e
  cases h : bigW ts with
  | true =>
    obtain ⟨a, b, c, en, ha, hb, hc, ab, ac, bc⟩ := nm_big o h
    have er : rwW ts n = [[1, n - 1, 0], [0, n - 1, 1], [1, n - 2, 1]] := by unfold rwW; rw [if_pos h]
    have fl : ∀ {k : Str}, k ∈ kids ts "" → Pl ts k := fun hk => .inr (par_flag ((kid_par o).mp hk))
    have pa := top_p o ha
    have pb := top_p o hb
    have pc := top_p o hc
    have bs : ∀ x, bsW ts x = 0 := fun x => by unfold bsW; rw [if_pos h]
    have sh : ∀ (r s t : Int) (x : Str), putW (bsW ts) [a, b, c] [r, s, t] x = (if x = a then r else 0) + (if x = b then s else 0) + (if x = c then t else 0) := fun r s t x => by
      show (if x = c then t else if x = b then s else if x = a then r else bsW ts x) = _
      rw [bs]
      by_cases h1 : x = a
      · have h2 : ¬ x = b := fun e => ab (h1.symm.trans e)
        have h3 : ¬ x = c := fun e => ac (h1.symm.trans e)
        simp only [if_neg h3, if_neg h2, if_pos h1]; omega
      · by_cases h2 : x = b
        · have h3 : ¬ x = c := fun e => bc (h2.symm.trans e)
          simp only [if_neg h3, if_pos h2, if_neg h1]; omega
        · by_cases h3 : x = c
          · simp only [if_pos h3, if_neg h1, if_neg h2]; omega
          · simp only [if_neg h3, if_neg h2, if_neg h1]; omega
    intro i hi
    unfold wW
    rw [en, er]
    obtain ⟨k, rfl⟩ : ∃ k : Nat, n = k + 2 := ⟨(n - 2).toNat, by omega⟩
    match i, hi with
    | 0, _ =>
      refine mk (zs := a :: List.replicate (k + 1) b) (by rw [List.length_cons, List.length_replicate]; omega) (fun z hz => ?_) fun x hx => ?_
      · rcases List.mem_cons.mp hz with e | e
        · rw [e]; exact fl ha
        · rw [(List.mem_replicate.mp e).2]; exact fl hb
      · rw [szZ_cons, szZ_rep, pa, pb]
        refine (sh _ _ _ x).trans ?_
        simp only [List.mem_singleton]
        split <;> split <;> split <;> omega
    | 1, _ =>
      refine mk (zs := c :: List.replicate (k + 1) b) (by rw [List.length_cons, List.length_replicate]; omega) (fun z hz => ?_) fun x hx => ?_
      · rcases List.mem_cons.mp hz with e | e
        · rw [e]; exact fl hc
        · rw [(List.mem_replicate.mp e).2]; exact fl hb
      · rw [szZ_cons, szZ_rep, pc, pb]
        refine (sh _ _ _ x).trans ?_
        simp only [List.mem_singleton]
        split <;> split <;> split <;> omega
    | 2, _ =>
      refine mk (zs := a :: c :: List.replicate k b) (by rw [List.length_cons, List.length_cons, List.length_replicate]; omega) (fun z hz => ?_) fun x hx => ?_
      · rcases List.mem_cons.mp hz with e | e
        · rw [e]; exact fl ha
        · rcases List.mem_cons.mp e with e | e
          · rw [e]; exact fl hc
          · rw [(List.mem_replicate.mp e).2]; exact fl hb
      · rw [szZ_cons, szZ_cons, szZ_rep, pa, pc, pb]
        refine (sh _ _ _ x).trans ?_
        simp only [List.mem_singleton]
        split <;> split <;> split <;> omega
  | false =>
    obtain ⟨a, b, c, ea, en, ma, hb, hc, ab, ac, bc⟩ := nm_fork o h nt
    have er : rwW ts n = [[1, 1, 0], [1, 0, 1], [2, 1, 1]] := by unfold rwW; rw [if_neg (by rw [h]; decide)]
    obtain ⟨rk, r⟩ := o.up
    obtain ⟨p, ep, alt, _⟩ := o.step r ma
    have pp : Pl ts p := par_pl o ep
    have st := path_step o ma ep
    have pb := (kid_par o).mp hb
    have pc := (kid_par o).mp hc
    have sb := path_step o (par_flag pb) pb
    have sc := path_step o (par_flag pc) pc
    have bs : ∀ x, bsW ts x = if x ∈ pathOf ts a then 2 else 0 := fun x => by unfold bsW; rw [if_neg (by rw [h]; decide), ea]
    have nap : a ∉ pathOf ts p := fun z => by
      have := path_ltW o r pp z (fun e => by
        rcases alt with w | ⟨_, w⟩
        · exact o.root (by rw [← w, ← e]; exact ma)
        · rw [e] at w; exact Nat.lt_irrefl _ w)
      rcases alt with w | ⟨_, w⟩
      · rw [w, path_root] at z; cases z
      · omega
    have nk : ∀ {k : Str}, k ∈ kids ts a → k ∉ pathOf ts a := fun {k} hk z => by
      have ne : k ≠ a := fun e => by
        have := (kid_par o).mp hk
        rw [e] at this
        exact par_once o this this
      have lt := path_ltW o r (.inr ma) z ne
      obtain ⟨q, eq, alt', _⟩ := o.step r (par_flag ((kid_par o).mp hk))
      rw [(kid_par o).mp hk] at eq
      cases eq
      rcases alt' with w | ⟨_, w⟩
      · exact o.root (w ▸ ma)
      · omega
    have sh : ∀ (r s t : Int) (x : Str), putW (bsW ts) [a, b, c] [r, s, t] x = if x = c then t else if x = b then s else if x = a then r else if x ∈ pathOf ts a then 2 else 0 := fun r s t x => by rw [← bs]; rfl
    have low : ∀ x, (x ∈ pathOf ts a ↔ x ∈ pathOf ts p ∨ x = a) := fun x => by rw [st, List.mem_append, List.mem_singleton]
    have lb : ∀ x, (x ∈ pathOf ts b ↔ x ∈ pathOf ts a ∨ x = b) := fun x => by rw [sb, List.mem_append, List.mem_singleton]
    have lc : ∀ x, (x ∈ pathOf ts c ↔ x ∈ pathOf ts a ∨ x = c) := fun x => by rw [sc, List.mem_append, List.mem_singleton]
    have nr : ∀ x, ¬ x ∈ pathOf ts "" := fun x z => by rw [path_root] at z; cases z
    intro i hi
    unfold wW
    rw [en, er]
    obtain ⟨k, rfl⟩ : ∃ k : Nat, n = k + 2 := ⟨(n - 2).toNat, by omega⟩
    have plz : ∀ {y z : Str}, Pl ts y → Pl ts z → ∀ w ∈ y :: z :: List.replicate k "", Pl ts w := fun h1 h2 w hw => by
      rcases List.mem_cons.mp hw with e | e
      · rw [e]; exact h1
      · rcases List.mem_cons.mp e with e | e
        · rw [e]; exact h2
        · rw [(List.mem_replicate.mp e).2]; exact .inl rfl
    have lz : ∀ (y z : Str), (((y :: z :: List.replicate k "").length : Nat) : Int) = (k : Int) + 2 := fun y z => by rw [List.length_cons, List.length_cons, List.length_replicate]; omega
    have fb : Pl ts b := .inr (par_flag pb)
    have fc : Pl ts c := .inr (par_flag pc)
    have wa := nk hb
    have wc := nk hc
    match i, hi with
    | 0, _ =>
      refine mk (zs := b :: p :: List.replicate k "") (lz _ _) (plz fb pp) fun x hx => (sh _ _ _ x).trans ?_
      rw [szZ_cons, szZ_cons, szZ_rep, if_neg (nr x)]
      by_cases xc : x = c
      · subst xc
        rw [if_pos rfl, if_neg (fun z => by rcases (lb _).mp z with z | z; exact wc z; exact bc z.symm), if_neg (fun z => wc ((low _).mpr (.inl z)))]; rfl
      rw [if_neg xc]
      by_cases xb : x = b
      · subst xb
        rw [if_pos rfl, if_pos ((lb _).mpr (.inr rfl)), if_neg (fun z => wa ((low _).mpr (.inl z)))]; rfl
      rw [if_neg xb]
      by_cases xa : x = a
      · subst xa
        rw [if_pos rfl, if_pos ((lb _).mpr (.inl ((low _).mpr (.inr rfl)))), if_neg nap]; rfl
      rw [if_neg xa]
      by_cases xp : x ∈ pathOf ts p
      · rw [if_pos ((low _).mpr (.inl xp)), if_pos ((lb _).mpr (.inl ((low _).mpr (.inl xp)))), if_pos xp]; rfl
      · rw [if_neg (fun z => ((low _).mp z).elim xp xa), if_neg (fun z => ((lb _).mp z).elim (fun z => ((low _).mp z).elim xp xa) xb), if_neg xp]; rfl
    | 1, _ =>
      refine mk (zs := c :: p :: List.replicate k "") (lz _ _) (plz fc pp) fun x hx => (sh _ _ _ x).trans ?_
      rw [szZ_cons, szZ_cons, szZ_rep, if_neg (nr x)]
      by_cases xc : x = c
      · subst xc
        rw [if_pos rfl, if_pos ((lc _).mpr (.inr rfl)), if_neg (fun z => wc ((low _).mpr (.inl z)))]; rfl
      rw [if_neg xc]
      by_cases xb : x = b
      · subst xb
        rw [if_pos rfl, if_neg (fun z => by rcases (lc _).mp z with z | z; exact wa z; exact bc z), if_neg (fun z => wa ((low _).mpr (.inl z)))]; rfl
      rw [if_neg xb]
      by_cases xa : x = a
      · subst xa
        rw [if_pos rfl, if_pos ((lc _).mpr (.inl ((low _).mpr (.inr rfl)))), if_neg nap]; rfl
      rw [if_neg xa]
      by_cases xp : x ∈ pathOf ts p
      · rw [if_pos ((low _).mpr (.inl xp)), if_pos ((lc _).mpr (.inl ((low _).mpr (.inl xp)))), if_pos xp]; rfl
      · rw [if_neg (fun z => ((low _).mp z).elim xp xa), if_neg (fun z => ((lc _).mp z).elim (fun z => ((low _).mp z).elim xp xa) xc), if_neg xp]; rfl
    | 2, _ =>
      refine mk (zs := b :: c :: List.replicate k "") (lz _ _) (plz fb fc) fun x hx => (sh _ _ _ x).trans ?_
      rw [szZ_cons, szZ_cons, szZ_rep, if_neg (nr x)]
      by_cases xc : x = c
      · subst xc
        rw [if_pos rfl, if_neg (fun z => by rcases (lb _).mp z with z | z; exact wc z; exact bc z.symm), if_pos ((lc _).mpr (.inr rfl))]; rfl
      rw [if_neg xc]
      by_cases xb : x = b
      · subst xb
        rw [if_pos rfl, if_pos ((lb _).mpr (.inr rfl)), if_neg (fun z => by rcases (lc _).mp z with z | z; exact wa z; exact bc z)]; rfl
      rw [if_neg xb]
      by_cases xa : x = a
      · subst xa
        rw [if_pos rfl, if_pos ((lb _).mpr (.inl ((low _).mpr (.inr rfl)))), if_pos ((lc _).mpr (.inl ((low _).mpr (.inr rfl))))]; rfl
      rw [if_neg xa]
      by_cases xp : x ∈ pathOf ts a
      · rw [if_pos xp, if_pos ((lb _).mpr (.inl xp)), if_pos ((lc _).mpr (.inl xp))]; rfl
      · rw [if_neg xp, if_neg (fun z => ((lb _).mp z).elim xp xb), if_neg (fun z => ((lc _).mp z).elim xp xc)]; rfl
/-- no three assignments with these sizes are best changes of each other -/
theorem wit_no (o : TreeOk ts) (nt : twoC ts = false) {n : Nat} {z1 z2 z3 : List Str} (l1 : z1.length = n) (l2 : z2.length = n) (l3 : z3.length = n) (p1 : ∀ z ∈ z1, Pl ts z) (p2 : ∀ z ∈ z2, Pl ts z) (p3 : ∀ z ∈ z3, Pl ts z)
    (s1 : ∀ a ∈ ts.map Prod.fst, szZ ts z1 a = wW ts n 0 a) (s2 : ∀ a ∈ ts.map Prod.fst, szZ ts z2 a = wW ts n 1 a) (s3 : ∀ a ∈ ts.map Prod.fst, szZ ts z3 a = wW ts n 2 a) (w12 : OneWay ts z1 z2) (w13 : OneWay ts z1 z3) (w23 : OneWay ts z2 z3) : False := by
  cases h : bigW ts with
  | true =>
    obtain ⟨a, b, c, en, ha, hb, hc, ab, ac, bc⟩ := nm_big o h
    have er : rwW ts n = [[1, (n : Int) - 1, 0], [0, (n : Int) - 1, 1], [1, (n : Int) - 2, 1]] := by unfold rwW; rw [if_pos h]
    have fl : ∀ {k : Str}, k ∈ kids ts "" → k ∈ ts.map Prod.fst := fun hk => par_flag ((kid_par o).mp hk)
    have e0 : wW ts n 0 = putW (bsW ts) [a, b, c] [1, (n : Int) - 1, 0] := by unfold wW; rw [en, er] <;> rfl
    have e1 : wW ts n 1 = putW (bsW ts) [a, b, c] [0, (n : Int) - 1, 1] := by unfold wW; rw [en, er] <;> rfl
    have e2 : wW ts n 2 = putW (bsW ts) [a, b, c] [1, (n : Int) - 2, 1] := by unfold wW; rw [en, er] <;> rfl
    rw [e0] at s1
    rw [e1] at s2
    rw [e2] at s3
    exact no_three o l1 l2 l3 p1 p2 p3 w12 w13 w23 ha hb hc ab ac bc ((s1 a (fl ha)).trans (putW3 ab ac bc).1) ((s1 b (fl hb)).trans (putW3 ab ac bc).2.1) ((s2 b (fl hb)).trans (putW3 ab ac bc).2.1) ((s2 c (fl hc)).trans (putW3 ab ac bc).2.2) ((s3 a (fl ha)).trans (putW3 ab ac bc).1) ((s3 c (fl hc)).trans (putW3 ab ac bc).2.2)
  | false =>
    obtain ⟨a, b, c, ea, en, ma, hb, hc, ab, ac, bc⟩ := nm_fork o h nt
    have er : rwW ts n = [[1, 1, 0], [1, 0, 1], [2, 1, 1]] := by unfold rwW; rw [if_neg (by rw [h]; decide)]
    have fl : ∀ {k : Str}, k ∈ kids ts a → k ∈ ts.map Prod.fst := fun hk => par_flag ((kid_par o).mp hk)
    have e0 : wW ts n 0 = putW (bsW ts) [a, b, c] [1, 1, 0] := by unfold wW; rw [en, er] <;> rfl
    have e1 : wW ts n 1 = putW (bsW ts) [a, b, c] [1, 0, 1] := by unfold wW; rw [en, er] <;> rfl
    have e2 : wW ts n 2 = putW (bsW ts) [a, b, c] [2, 1, 1] := by unfold wW; rw [en, er] <;> rfl
    rw [e0] at s1
    rw [e1] at s2
    rw [e2] at s3
    exact no_fork o l1 l2 l3 p1 p2 p3 w12 w13 w23 ma hb hc bc ((s1 a ma).trans (putW3 ab ac bc).1) ((s1 b (fl hb)).trans (putW3 ab ac bc).2.1) ((s2 a ma).trans (putW3 ab ac bc).1) ((s2 c (fl hc)).trans (putW3 ab ac bc).2.2) ((s3 b (fl hb)).trans (putW3 ab ac bc).2.1) ((s3 c (fl hc)).trans (putW3 ab ac bc).2.2)
end
end FT


/-! k22, plain: one way, fixed -/
namespace FT
open PySem L2 TL ClX
section
variable {t ts : List (Str × Str)} {n : Int}
theorem mem_hlU {zs : List Str} {a : Str} {u : Int} : u ∈ hlU t zs a ↔ ∃ (i : Nat) (z : Str), u = i ∧ zs[i]? = some z ∧ a ∈ pathOf t z := by
  unfold hlU
  rw [mem_selU]
  constructor
  · rintro ⟨i, e, il, h⟩
    unfold hasC at h
    cases ez : zs[i]? with
    | none => rw [ez] at h; cases h
    | some z =>
      rw [ez] at h
      exact ⟨i, z, e, ez, of_decide_eq_true h⟩
  · rintro ⟨i, z, e, hz, h⟩
    refine ⟨i, e, (List.getElem?_eq_some_iff.mp hz).1, ?_⟩
    unfold hasC
    rw [hz]
    exact decide_eq_true h
theorem less_nil {l m : List Int} (h : (lessU l m).length = 0) : ∀ u ∈ l, u ∈ m := fun u hu => by
  have e := List.length_eq_zero_iff.mp h
  unfold lessU at e
  have := List.filter_eq_nil_iff.mp e u hu
  exact Classical.byContradiction fun n => this (by rw [decide_eq_false n]; rfl)
theorem le_of_less (p : ts.Perm t) (o : TreeOk ts) {z1 z2 : List Str} (l : z1.length = z2.length) {a : Str} (h : ∀ u ∈ hlU t z1 a, u ∈ hlU t z2 a) : LeB (Hs ts z1 a) (Hs ts z2 a) := fun i e => by
  obtain ⟨z, hz, m⟩ := Hs_true e
  rw [path_perm o.nd p] at m
  obtain ⟨j, z', ej, hz', m'⟩ := mem_hlU.mp (h i (mem_hlU.mpr ⟨i, z, rfl, hz, m⟩))
  have : i = j := by omega
  subst this
  rw [Hs_get hz', decide_eq_true (by rw [path_perm o.nd p]; exact m')]
theorem arB_one (p : ts.Perm t) (o : TreeOk ts) {z1 z2 : List Str} (l : z1.length = z2.length) (h : arB t z1 z2 = true) : OneWay ts z1 z2 := fun a ma => by
  have := List.all_eq_true.mp h a ((p.map Prod.fst).mem_iff.mp ma)
  unfold oneB at this
  rcases Bool.or_eq_true_iff.mp this with h | h
  · exact .inr (le_of_less p o l.symm (less_nil (of_decide_eq_true h)))
  · exact .inl (le_of_less p o l (less_nil (of_decide_eq_true h)))
theorem less_some {l m : List Int} (h : ¬ (lessU l m).length = 0) : ∃ u ∈ l, u ∉ m := by
  cases e : lessU l m with
  | nil => exact absurd (by rw [e] <;> rfl) h
  | cons u r =>
    have : u ∈ lessU l m := by rw [e]; exact List.mem_cons_self
    unfold lessU at this
    obtain ⟨h1, h2⟩ := List.mem_filter.mp this
    exact ⟨u, h1, fun w => by rw [decide_eq_true w] at h2; cases h2⟩
theorem fix_arB (p : ts.Perm t) (o : TreeOk ts) {s1 s2 : Str → Int} (f1 : Fea ts n s1) (f2 : Fea ts n s2) (mc : memC ts (.int n) = true) : arB t (fixP ts n s1) (fixP ts n s2) = true := by
  refine List.all_eq_true.mpr fun a ma => ?_
  have ma' := (p.map Prod.fst).mem_iff.mpr ma
  unfold oneB
  by_cases h1 : (lessU (hlU t (fixP ts n s2) a) (hlU t (fixP ts n s1) a)).length = 0
  · rw [decide_eq_true h1, Bool.true_or]
  by_cases h2 : (lessU (hlU t (fixP ts n s1) a) (hlU t (fixP ts n s2) a)).length = 0
  · rw [decide_eq_true h2, Bool.or_true]
  exfalso
  obtain ⟨u, hu, nu⟩ := less_some h1
  obtain ⟨v, hv, nv⟩ := less_some h2
  obtain ⟨i, y2, rfl, e2, m2⟩ := mem_hlU.mp hu
  obtain ⟨j, z1, rfl, e1, m1⟩ := mem_hlU.mp hv
  have ll := fixP_len (ts := ts) (n := n) (sz := s1) o
  have ll2 := fixP_len (ts := ts) (n := n) (sz := s2) o
  have il := (List.getElem?_eq_some_iff.mp e2).1
  have jl := (List.getElem?_eq_some_iff.mp e1).1
  obtain ⟨y1, ey1⟩ : ∃ y, (fixP ts n s1)[i]? = some y := ⟨_, List.getElem?_eq_getElem (by omega)⟩
  obtain ⟨z2, ez2⟩ : ∃ y, (fixP ts n s2)[j]? = some y := ⟨_, List.getElem?_eq_getElem (by omega)⟩
  have pp : ∀ z, pathOf t z = pathOf ts z := fun z => (path_perm o.nd p z).symm
  refine fixP_btw o f1 f2 mc ma' (u := j) (v := i) e1 ez2 ey1 e2 (by rw [← pp]; exact m1) (fun w => nv (mem_hlU.mpr ⟨j, z2, rfl, ez2, by rw [pp]; exact w⟩)) (fun w => nu (mem_hlU.mpr ⟨i, y1, rfl, ey1, by rw [pp]; exact w⟩)) (by rw [← pp]; exact m2)
theorem twoC_permW {ts us : List (Str × Str)} (p : ts.Perm us) : twoC ts = twoC us := by
  unfold twoC
  rw [(kids_perm p "").length_eq]
  congr 1
  rw [Bool.eq_iff_iff, List.all_eq_true, List.all_eq_true]
  constructor
  · intro h n hn
    have := h n ((p.map Prod.fst).mem_iff.mpr hn)
    rw [(kids_perm p n).length_eq] at this
    exact this
  · intro h n hn
    have := h n ((p.map Prod.fst).mem_iff.mp hn)
    rw [← (kids_perm p n).length_eq] at this
    exact this
theorem memC_perm {us : List (Str × Str)} (p : ts.Perm us) (v : V) : memC ts v = memC us v := by
  unfold memC
  rw [twoC_permW p]
end
end FT


/-! Own: zip of two iterators of any kind (a list and a tuple), and dict(zip(a, b)). -/
namespace ZpM
open PySem PySem.Calls PySem.Spec PyProof.Rows PySem.W L2
/-- an iterator at i that reads l; Pr k: it stands at turn k -/
structure Nx (prog : Program) (w : World) (i l : Addr) (xs : Array Value) (Pr : Nat → Heap → Prop) : Prop where
  item : ∀ {A : Around} {E : Value → Shared → Prop} {s : Shared} {k : Nat} {x : Value} {Q : Value → Shared → Prop}, Pr k s.heap → xs[k]? = some x → (∀ hx, Pr (k + 1) hx → Heap.SameBut i s.heap hx → Q x { s with heap := hx }) → wpAny (model prog w) A (Builtin.SmallTypes.nextOf (.ref i)) Q E s
  stop : ∀ {A : Around} {E : Value → Shared → Prop} {s : Shared} {k : Nat} {Q : Value → Shared → Prop}, A.handled = none → Pr k s.heap → xs[k]? = none → (∀ hx e, Heap.ExtBut i s.heap hx → (∃ o, hx.get? e = some o ∧ o.cls = .type "StopIteration") → E (.ref e) { s with heap := hx }) → wpAny (model prog w) A (Builtin.SmallTypes.nextOf (.ref i)) Q E s
  keep : ∀ {k : Nat} {h g : Heap}, Pr k h → (∀ o, h.get? i = some o → g.get? i = some o) → (∀ o, h.get? l = some o → g.get? l = some o) → Pr k g
  there : ∀ {k : Nat} {h : Heap}, Pr k h → (∃ o, h.get? i = some o) ∧ ∃ o, h.get? l = some o
section
variable {prog : Program} {w : World}
theorem nx_list (i l : Addr) (xs : Array Value) (ne : l ≠ i) : Nx prog w i l xs (fun k h => h.IsListIter i l k ∧ h.IsList l xs) :=
  ⟨fun p e q => wpAny_nextOf_list_item p.1 p.2 e fun hx it sb => q hx ⟨it, p.2.at fun o e' => sb.extBut _ _ ne e'⟩ sb,
   fun hh p e q => wpAny_nextOf_list_end hh p.1 p.2 e q,
   fun p k1 k2 => ⟨p.1.at k1, p.2.at k2⟩, fun p => ⟨let ⟨o, e, _⟩ := p.1; ⟨o, e⟩, let ⟨o, e, _⟩ := p.2; ⟨o, e⟩⟩⟩
theorem nx_tup (i l : Addr) (xs : Array Value) (ne : l ≠ i) : Nx prog w i l xs (fun k h => h.IsTupleIter i l k ∧ h.IsTuple l xs) :=
  ⟨fun p e q => RZ.nextOf_tuple_item p.1 p.2 e fun hx it sb => q hx ⟨it, p.2.at fun o e' => sb.extBut _ _ ne e'⟩ sb,
   fun hh p e q => RZ.nextOf_tuple_end hh p.1 p.2 e q,
   fun p k1 k2 => ⟨let ⟨o, e, r⟩ := p.1; ⟨o, k1 o e, r⟩, p.2.at k2⟩, fun p => ⟨let ⟨o, e, _⟩ := p.1; ⟨o, e⟩, let ⟨o, e, _⟩ := p.2; ⟨o, e⟩⟩⟩
variable {A : Around} {E : Value → Shared → Prop} {s : Shared} {zz tI tO ia ib la lb : Addr} {xs ys : Array Value} {P1 P2 : Nat → Heap → Prop} {k : Nat} {x y : Value}
theorem first_item {u v : Value} {Q : Value → Shared → Prop} (N1 : Nx prog w ia la xs P1) (N2 : Nx prog w ib lb ys P2) (D : ZipApart zz tI tO ia ib la lb) (iz : IsZip s.heap zz tI tO .none) (pI : IsPair s.heap tI (.ref ia) (.ref ib)) (pO : IsPair s.heap tO u v)
    (p1 : P1 k s.heap) (p2 : P2 k s.heap) (ex : xs[k]? = some x) (ey : ys[k]? = some y)
    (q : ∀ hx, IsZip hx zz tI tO (rawInt s.heap.objs.size) → P1 (k + 1) hx → P2 (k + 1) hx → IsPair hx s.heap.objs.size x y → hx.objs.size = s.heap.objs.size + 1 → (∀ c o, c ≠ zz → c ≠ tO → c ≠ ia → c ≠ ib → s.heap.get? c = some o → hx.get? c = some o) → Q (.ref s.heap.objs.size) { s with heap := hx }) :
    wpAny (model prog w) A (Builtin.«zip.__next__» ⟨[.ref zz], []⟩) (fun fin s' => ∃ v, fin = .done (.ret v) ∧ Q v s') E s := by
  show wpAny _ _ (field (.ref zz) 2 >>= _) _ _ _
  refine wpAny_bind (wpAny_field iz rfl (x := .bool false) rfl ?_)
  show wpAny _ _ (field (.ref zz) 3 >>= _) _ _ _
  refine wpAny_bind (wpAny_field iz rfl (x := .ref tI) rfl ?_)
  refine wpAny_bind (wpAny_seqItems pI rfl ?_)
  show wpAny _ _ (Builtin.SmallTypes.ownedTupleIsFree (.ref zz) >>= _) _ _ _
  refine wpAny_bind ?_
  unfold Builtin.SmallTypes.ownedTupleIsFree
  refine wpAny_bind (wpAny_field iz rfl (x := .none) rfl (wpAny_pure ?_))
  simp only [if_true]
  refine wpAny_bind (wpAny_rule ?_)
  refine wpAny_bind (wpAny_field iz rfl (x := .ref tO) rfl ?_)
  refine wpAny_bind (wpAny_setField_rec iz (by simp) fun g1 iz1 b1 => ?_)
  replace iz1 : IsZip g1 zz tI tO .ellipsis := iz1
  refine wpAny_bind ?_
  simp only [List.zipIdx_cons, List.zipIdx_nil, List.forIn_cons, List.forIn_nil]
  refine wpAny_bind (wpAny_bind (wpAny_onRaise ?_))
  show wpAny _ _ (Builtin.SmallTypes.nextOf (.ref ia) >>= _) _ _ _
  have p1' : P1 k g1 := N1.keep p1 (fun o e => b1.extBut _ _ D.i1z e) fun o e => b1.extBut _ _ D.l1z e
  have p2' : P2 k g1 := N2.keep p2 (fun o e => b1.extBut _ _ D.i2z e) fun o e => b1.extBut _ _ D.l2z e
  refine wpAny_bind (N1.item p1' ex fun g2 r1 b2 => wpAny_pure ?_)
  have pO2 : IsPair g2 tO u v := b2.extBut _ _ D.TOi1 (b1.extBut _ _ D.TOz pO)
  have p2'' : P2 k g2 := N2.keep p2' (fun o e => b2.extBut _ _ D.i12.symm e) fun o e => b2.extBut _ _ D.l2i1 e
  refine wpAny_bind (wpAny_seqItems pO2 rfl ?_)
  refine wpAny_bind (wpAny_updateSeq_pair pO2 fun g3 pO3 b3 => ?_)
  replace pO3 : IsPair g3 tO x v := pO3
  refine wpAny_bind (wpAny_letGo (wpAny_pure ?_))
  refine wpAny_bind (wpAny_bind (wpAny_onRaise ?_))
  show wpAny _ _ (Builtin.SmallTypes.nextOf (.ref ib) >>= _) _ _ _
  have p23 : P2 k g3 := N2.keep p2'' (fun o e => b3.extBut _ _ D.TOi2.symm e) fun o e => b3.extBut _ _ D.l2TO e
  have p13 : P1 (k + 1) g3 := N1.keep r1 (fun o e => b3.extBut _ _ D.TOi1.symm e) fun o e => b3.extBut _ _ D.l1TO e
  refine wpAny_bind (N2.item p23 ey fun g4 r2 b4 => wpAny_pure ?_)
  have pO4 : IsPair g4 tO x v := b4.extBut _ _ D.TOi2 pO3
  have p14 : P1 (k + 1) g4 := N1.keep p13 (fun o e => b4.extBut _ _ D.i12 e) fun o e => b4.extBut _ _ D.l1i2 e
  refine wpAny_bind (wpAny_seqItems pO4 rfl ?_)
  refine wpAny_bind (wpAny_updateSeq_pair pO4 fun g5 pO5 b5 => ?_)
  replace pO5 : IsPair g5 tO x y := pO5
  refine wpAny_bind (wpAny_letGo (wpAny_pure (wpAny_pure ?_)))
  refine wpAny_bind (wpAny_seqItems pO5 rfl ?_)
  refine wpAny_bind (wpAny_newTuple ?_)
  have sz : g5.objs.size = s.heap.objs.size := by rw [b5.1, b4.1, b3.1, b2.1, b1.1]
  have iz5 : IsZip g5 zz tI tO .ellipsis := b5.extBut _ _ D.TOz.symm (b4.extBut _ _ D.i2z.symm (b3.extBut _ _ D.TOz.symm (b2.extBut _ _ D.i1z.symm iz1)))
  have up5 : ∀ c o, c ≠ zz → c ≠ tO → c ≠ ia → c ≠ ib → s.heap.get? c = some o → g5.get? c = some o := fun c o c1 c2 c3 c4 e =>
    b5.extBut _ _ c2 (b4.extBut _ _ c4 (b3.extBut _ _ c2 (b2.extBut _ _ c3 (b1.extBut _ _ c1 e))))
  have p15 : P1 (k + 1) g5 := N1.keep p14 (fun o e => b5.extBut _ _ D.TOi1.symm e) fun o e => b5.extBut _ _ D.l1TO e
  have p25 : P2 (k + 1) g5 := N2.keep r2 (fun o e => b5.extBut _ _ D.TOi2.symm e) fun o e => b5.extBut _ _ D.l2TO e
  have zlt : zz < g5.objs.size := Heap.lt_size iz5
  show wpAny _ _ (Builtin.SmallTypes.ownedTupleHandOut (.ref zz) (.ref g5.objs.size) >>= _) _ _ _
  refine wpAny_bind ?_
  unfold Builtin.SmallTypes.ownedTupleHandOut
  have iz6 : IsZip (g5.push { cls := .type "tuple", data := .seq #[x, y] }) zz tI tO .ellipsis := Heap.get?_push_of_some _ iz5
  refine wpAny_bind (wpAny_setField_rec iz6 (by simp) fun g7 iz7 b7 => ?_)
  replace iz7 : IsZip g7 zz tI tO (rawInt g5.objs.size) := iz7
  refine wpAny_setField_rec iz7 (by simp) fun g8 iz8 b8 => ?_
  replace iz8 : IsZip g8 zz tI tO (rawInt g5.objs.size) := iz8
  have up8 : ∀ c o, c ≠ zz → g5.get? c = some o → g8.get? c = some o := fun c o c1 e => b8.extBut _ _ c1 (b7.extBut _ _ c1 (Heap.get?_push_of_some _ e))
  have pT : IsPair g8 g5.objs.size x y := b8.extBut _ _ (Nat.ne_of_gt zlt) (b7.extBut _ _ (Nat.ne_of_gt zlt) (Heap.get?_push_size _ rfl))
  have sz8 : g8.objs.size = g5.objs.size + 1 := by rw [b8.1, b7.1, Heap.size_push]
  rw [sz] at iz8 pT sz8
  refine wpAny_pure ⟨_, rfl, ?_⟩
  rw [sz]
  exact q g8 iz8 (N1.keep p15 (fun o e => up8 _ _ D.i1z e) fun o e => up8 _ _ D.l1z e) (N2.keep p25 (fun o e => up8 _ _ D.i2z e) fun o e => up8 _ _ D.l2z e) pT sz8 fun c o c1 c2 c3 c4 e => up8 c o c1 (up5 c o c1 c2 c3 c4 e)
theorem next_item {tT : Addr} {f : Bool} {oT : Obj} {Q : Value → Shared → Prop} (N1 : Nx prog w ia la xs P1) (N2 : Nx prog w ib lb ys P2) (D : ZipApart zz tI tO ia ib la lb) (iz : IsZipHeld s.heap zz tI tO tT f) (hT : s.heap.get? tT = some oT) (pI : IsPair s.heap tI (.ref ia) (.ref ib))
    (p1 : P1 k s.heap) (p2 : P2 k s.heap) (ex : xs[k]? = some x) (ey : ys[k]? = some y)
    (q : ∀ hx, IsZipHeld hx zz tI tO tT true → P1 (k + 1) hx → P2 (k + 1) hx → IsPair hx s.heap.objs.size x y → hx.objs.size = s.heap.objs.size + 1 → (∀ c o, c ≠ zz → c ≠ ia → c ≠ ib → s.heap.get? c = some o → hx.get? c = some o) → Q (.ref s.heap.objs.size) { s with heap := hx }) :
    wpAny (model prog w) A (Builtin.«zip.__next__» ⟨[.ref zz], []⟩) (fun fin s' => ∃ v, fin = .done (.ret v) ∧ Q v s') E s := by
  show wpAny _ _ (field (.ref zz) 2 >>= _) _ _ _
  refine wpAny_bind (wpAny_field iz rfl (x := .bool false) rfl ?_)
  show wpAny _ _ (field (.ref zz) 3 >>= _) _ _ _
  refine wpAny_bind (wpAny_field iz rfl (x := .ref tI) rfl ?_)
  refine wpAny_bind (wpAny_seqItems pI rfl ?_)
  show wpAny _ _ (Builtin.SmallTypes.ownedTupleIsFree (.ref zz) >>= _) _ _ _
  refine wpAny_bind (wpAny_tupleHeld_zip iz hT fun g1 iz1 b1 => ?_)
  simp only [Bool.false_eq_true, if_false]
  refine wpAny_bind ?_
  rw [← Array.forIn_toList]
  simp only [List.forIn_cons, List.forIn_nil]
  refine wpAny_bind (wpAny_bind (wpAny_holding ?_))
  show wpAny _ _ (Builtin.SmallTypes.nextOf (.ref ia) >>= _) _ _ _
  have p1' : P1 k g1 := N1.keep p1 (fun o e => b1.extBut _ _ D.i1z e) fun o e => b1.extBut _ _ D.l1z e
  have p2' : P2 k g1 := N2.keep p2 (fun o e => b1.extBut _ _ D.i2z e) fun o e => b1.extBut _ _ D.l2z e
  refine wpAny_bind (N1.item (s := { s with heap := g1 }) p1' ex fun g2 r1 b2 => wpAny_pure ?_)
  refine wpAny_pure ?_
  have p2'' : P2 k g2 := N2.keep p2' (fun o e => b2.extBut _ _ D.i12.symm e) fun o e => b2.extBut _ _ D.l2i1 e
  refine wpAny_bind (wpAny_bind (wpAny_holding ?_))
  show wpAny _ _ (Builtin.SmallTypes.nextOf (.ref ib) >>= _) _ _ _
  refine wpAny_bind (N2.item (s := { s with heap := g2 }) p2'' ey fun g3 r2 b3 => wpAny_pure ?_)
  refine wpAny_pure (wpAny_pure ?_)
  show wpAny _ _ (newTuple [x, y] >>= _) _ _ _
  refine wpAny_bind (wpAny_newTuple ?_)
  have sz : g3.objs.size = s.heap.objs.size := by rw [b3.1, b2.1, b1.1]
  have iz3 : IsZipHeld g3 zz tI tO tT true := b3.extBut _ _ D.i2z.symm (b2.extBut _ _ D.i1z.symm iz1)
  have up : ∀ c o, c ≠ zz → c ≠ ia → c ≠ ib → s.heap.get? c = some o → g3.get? c = some o := fun c o c1 c2 c3 e => b3.extBut _ _ c3 (b2.extBut _ _ c2 (b1.extBut _ _ c1 e))
  have p13 : P1 (k + 1) g3 := N1.keep r1 (fun o e => b3.extBut _ _ D.i12 e) fun o e => b3.extBut _ _ D.l1i2 e
  refine wpAny_pure ⟨_, rfl, ?_⟩
  show Q (.ref g3.objs.size) _
  have pT : IsPair (g3.push { cls := .type "tuple", data := .seq #[x, y] }) g3.objs.size x y := Heap.get?_push_size _ rfl
  have sz4 : (g3.push { cls := .type "tuple", data := .seq #[x, y] }).objs.size = g3.objs.size + 1 := Heap.size_push ..
  rw [sz] at pT sz4 ⊢
  exact q _ (Heap.get?_push_of_some _ iz3) (N1.keep p13 (fun o e => Heap.get?_push_of_some _ e) fun o e => Heap.get?_push_of_some _ e) (N2.keep r2 (fun o e => Heap.get?_push_of_some _ e) fun o e => Heap.get?_push_of_some _ e) pT sz4 fun c o c1 c2 c3 e => Heap.get?_push_of_some _ (up c o c1 c2 c3 e)
theorem next_stop {tT : Addr} {f : Bool} {oT : Obj} {Q : Fin → Shared → Prop} (hh : A.handled = none) (N1 : Nx prog w ia la xs P1) (D : ZipApart zz tI tO ia ib la lb) (iz : IsZipHeld s.heap zz tI tO tT f) (hT : s.heap.get? tT = some oT) (pI : IsPair s.heap tI (.ref ia) (.ref ib))
    (p1 : P1 k s.heap) (ex : xs[k]? = none)
    (q : ∀ hx e, (∀ c o, c ≠ zz → c ≠ ia → s.heap.get? c = some o → hx.get? c = some o) → (∃ o, hx.get? e = some o ∧ o.cls = .type "StopIteration") → E (.ref e) { s with heap := hx }) :
    wpAny (model prog w) A (Builtin.«zip.__next__» ⟨[.ref zz], []⟩) Q E s := by
  show wpAny _ _ (field (.ref zz) 2 >>= _) _ _ _
  refine wpAny_bind (wpAny_field iz rfl (x := .bool false) rfl ?_)
  show wpAny _ _ (field (.ref zz) 3 >>= _) _ _ _
  refine wpAny_bind (wpAny_field iz rfl (x := .ref tI) rfl ?_)
  refine wpAny_bind (wpAny_seqItems pI rfl ?_)
  show wpAny _ _ (Builtin.SmallTypes.ownedTupleIsFree (.ref zz) >>= _) _ _ _
  refine wpAny_bind (wpAny_tupleHeld_zip iz hT fun g1 iz1 b1 => ?_)
  simp only [Bool.false_eq_true, if_false]
  refine wpAny_bind ?_
  rw [← Array.forIn_toList]
  simp only [List.forIn_cons, List.forIn_nil]
  refine wpAny_bind (wpAny_bind (wpAny_holding ?_))
  show wpAny _ _ (Builtin.SmallTypes.nextOf (.ref ia) >>= _) _ _ _
  have p1' : P1 k g1 := N1.keep p1 (fun o e => b1.extBut _ _ D.i1z e) fun o e => b1.extBut _ _ D.l1z e
  refine wpAny_bind (N1.stop (s := { s with heap := g1 }) hh p1' ex fun g2 e b2 he => ?_)
  exact q g2 e (fun c o c1 c2 z => b2 _ _ c2 (b1.extBut _ _ c1 z)) he
end
/-! ### dict(zip(..)) -/
section
variable {prog : Program} {w : World}
def OkZ (zz tI tO ia ib : Addr) (P1 P2 : Nat → Heap → Prop) (h : Heap) : Prop := IsZip h zz tI tO .none ∧ IsPair h tI (.ref ia) (.ref ib) ∧ (∃ u v, IsPair h tO u v) ∧ P1 0 h ∧ P2 0 h
def StZ (zz tI tO ia ib d : Addr) (P1 P2 : Nat → Heap → Prop) (k : Nat) (h : Heap) : Prop := IsPair h tI (.ref ia) (.ref ib) ∧ P1 k h ∧ P2 k h ∧ ((k = 0 ∧ IsZip h zz tI tO .none ∧ ∃ u v, IsPair h tO u v) ∨ (0 < k ∧ ∃ T f oT, IsZipHeld h zz tI tO T f ∧ h.get? T = some oT ∧ T ≠ zz ∧ T ≠ ia ∧ T ≠ ib ∧ T ≠ d))
theorem srcZ {A : Around} {zz tI tO ia ib la lb d : Addr} {xs ys : Array Value} {P1 P2 : Nat → Heap → Prop} (hh : A.handled = none) (N1 : Nx prog w ia la xs P1) (N2 : Nx prog w ib lb ys P2) (D : ZipApart zz tI tO ia ib la lb) (el : xs.size = ys.size) (pos : 0 < xs.size)
    (dz : d ≠ zz) (dI : d ≠ tI) (dO : d ≠ tO) (d1 : d ≠ ia) (d2 : d ≠ ib) (d3 : d ≠ la) (d4 : d ≠ lb) : PairSrc prog w A zz d [zz, tO, ia, ib] xs.size (fun i k v => xs[i]? = some k ∧ ys[i]? = some v) (StZ zz tI tO ia ib d P1 P2) where
  off := fun m => by
    simp only [List.mem_cons, List.not_mem_nil, or_false] at m
    rcases m with e | e | e | e
    · exact dz e
    · exact dO e
    · exact d1 e
    · exact d2 e
  frame := fun i h g st kp => by
    obtain ⟨pI, p1, p2, alt⟩ := st
    refine ⟨kp _ _ dI.symm pI, N1.keep p1 (fun o e => kp _ _ d1.symm e) (fun o e => kp _ _ d3.symm e), N2.keep p2 (fun o e => kp _ _ d2.symm e) (fun o e => kp _ _ d4.symm e), ?_⟩
    rcases alt with ⟨e0, iz, u, v, pO⟩ | ⟨e0, T, f, oT, iz, hT, n1, n2, n3, n4⟩
    · exact .inl ⟨e0, kp _ _ dz.symm iz, u, v, kp _ _ dO.symm pO⟩
    · exact .inr ⟨e0, T, f, oT, kp _ _ dz.symm iz, kp _ _ n4 hT, n1, n2, n3, n4⟩
  item := fun i s Q E hi st dl q => by
    obtain ⟨pI, p1, p2, alt⟩ := st
    have ex := Array.getElem?_eq_getElem hi
    have ey := Array.getElem?_eq_getElem (show i < ys.size from el ▸ hi)
    have up : ∀ {c : Addr}, (∃ o, s.heap.get? c = some o) → s.heap.objs.size ≠ c := fun ⟨o, e⟩ => Nat.ne_of_gt (Heap.lt_size e)
    have t1 := up (N1.there p1).1
    have t2 := up (N2.there p2).1
    unfold pyNext
    rcases alt with ⟨e0, iz, u, v, pO⟩ | ⟨e0, T, f, oT, iz, hT, n1, n2, n3, n4⟩
    · have ty : s.TypeIs (.ref zz) "zip" := ⟨_, iz, rfl⟩
      refine wpAny_bind (wpAny_attempt (wpAny_callSpecial?_slot (name := Str.ofString "__next__") ty F.slot_zip_next (wpAny_call_entry F.slot_zip_next ty F.entry_zip_next (first_item N1 N2 D iz pI pO p1 p2 ex ey fun hx z' r1 r2 pT sz kp => ?_) (F.args_zip_next_1 _))))
      refine wpAny_pure (q s.heap.objs.size _ _ hx s.toks ⟨ex, ey⟩ (.inl ⟨_, pT, rfl, _, rfl⟩) ⟨kp _ _ D.TIz D.TITO D.TIi1 D.TIi2 pI, r1, r2, .inr ⟨Nat.succ_pos _, s.heap.objs.size, false, _, z', pT, up ⟨_, iz⟩, t1, t2, Nat.ne_of_gt dl⟩⟩ fun c o hc e => ?_)
      exact kp c o (fun x => hc (by simp [x])) (fun x => hc (by simp [x])) (fun x => hc (by simp [x])) (fun x => hc (by simp [x])) e
    · have ty : s.TypeIs (.ref zz) "zip" := ⟨_, iz, rfl⟩
      refine wpAny_bind (wpAny_attempt (wpAny_callSpecial?_slot (name := Str.ofString "__next__") ty F.slot_zip_next (wpAny_call_entry F.slot_zip_next ty F.entry_zip_next (next_item N1 N2 D iz hT pI p1 p2 ex ey fun hx z' r1 r2 pT sz kp => ?_) (F.args_zip_next_1 _))))
      refine wpAny_pure (q s.heap.objs.size _ _ hx s.toks ⟨ex, ey⟩ (.inl ⟨_, pT, rfl, _, rfl⟩) ⟨kp _ _ D.TIz D.TIi1 D.TIi2 pI, r1, r2, .inr ⟨Nat.succ_pos _, T, true, oT, z', kp _ _ n1 n2 n3 hT, n1, n2, n3, n4⟩⟩ fun c o hc e => ?_)
      exact kp c o (fun x => hc (by simp [x])) (fun x => hc (by simp [x])) (fun x => hc (by simp [x])) e
  done := fun s Q E st q => by
    obtain ⟨pI, p1, p2, alt⟩ := st
    rcases alt with ⟨e0, _⟩ | ⟨e0, T, f, oT, iz, hT, n1, n2, n3, n4⟩
    · exact absurd e0 (Nat.ne_of_gt pos)
    · have ty : s.TypeIs (.ref zz) "zip" := ⟨_, iz, rfl⟩
      unfold pyNext
      refine wpAny_bind (wpAny_attempt (wpAny_callSpecial?_slot (name := Str.ofString "__next__") ty F.slot_zip_next (wpAny_call_entry F.slot_zip_next ty F.entry_zip_next (next_stop hh N1 D iz hT pI p1 (by simp) fun hx e kp he => ?_) (F.args_zip_next_1 _))))
      obtain ⟨o, ho, hc⟩ := he
      refine wpAny_bind (wpAny_isInstance (T := "StopIteration") (b := true) ⟨o, ho, hc⟩ isSubtype_stop ?_)
      exact wpAny_pure (q _ s.toks fun c o hc e => kp c o (fun x => hc (by simp [x])) (fun x => hc (by simp [x])) e)
theorem argZ {zz tI tO ia ib la lb : Addr} {xs ys : Array Value} {P1 P2 : Nat → Heap → Prop} (N1 : Nx prog w ia la xs P1) (N2 : Nx prog w ib lb ys P2) (D : ZipApart zz tI tO ia ib la lb) (el : xs.size = ys.size) (pos : 0 < xs.size) :
    PairArg prog w "zip" zz [zz, tI, tO, ia, ib, la, lb] [zz, tO, ia, ib] xs.size (fun i k v => xs[i]? = some k ∧ ys[i]? = some v) (OkZ zz tI tO ia ib P1 P2) where
  type := fun s ok => ⟨_, ok.1, rfl⟩
  notDict := by decide
  keep := fun h g ok kp => by
    obtain ⟨iz, pI, ⟨u, v, pO⟩, p1, p2⟩ := ok
    exact ⟨kp _ _ iz, kp _ _ pI, ⟨u, v, kp _ _ pO⟩, N1.keep p1 (fun o e => kp _ _ e) (fun o e => kp _ _ e), N2.keep p2 (fun o e => kp _ _ e) (fun o e => kp _ _ e)⟩
  there := fun h ok b m => by
    obtain ⟨iz, pI, ⟨u, v, pO⟩, p1, p2⟩ := ok
    simp only [List.mem_cons, List.not_mem_nil, or_false] at m
    rcases m with rfl | rfl | rfl | rfl | rfl | rfl | rfl
    · exact ⟨_, iz⟩
    · exact ⟨_, pI⟩
    · exact ⟨_, pO⟩
    · exact (N1.there p1).1
    · exact (N2.there p2).1
    · exact (N1.there p1).2
    · exact (N2.there p2).2
  sub := fun b m => by
    simp only [List.mem_cons, List.not_mem_nil, or_false] at m ⊢
    rcases m with rfl | rfl | rfl | rfl <;> simp
  noKeys := fun A s Q E hA ok q => getAttrOr_miss_zip ok.1 rfl rfl rfl zip_no_keys (by decide +kernel) hA q
  iter := fun A s d Q E hA ok dl nf q => by
    obtain ⟨iz, pI, ⟨u, v, pO⟩, p1, p2⟩ := ok
    simp only [List.mem_cons, List.not_mem_nil, or_false, not_or] at nf
    obtain ⟨dz, dI, dO, d1, d2, d3, d4⟩ := nf
    exact wpAny_pyIter_zip iz (q zz _ _ s.heap s.toks (srcZ hA N1 N2 D el pos dz dI dO d1 d2 d3 d4) ⟨pI, p1, p2, .inl ⟨rfl, iz, u, v, pO⟩⟩ (fun _ _ e => e) fun b m => .inl m)
end
/-! ### zip(a list, a tuple) -/
abbrev mx1 (h : Heap) (la : Addr) : Heap := h.push { cls := .type "list_iterator", data := .fields #[.ref la, .int 0 0] }
abbrev mx2 (h : Heap) (la lb : Addr) : Heap := (mx1 h la).push { cls := .type "tuple_iterator", data := .fields #[.ref lb, .int 0 0] }
abbrev mx3 (h : Heap) (la lb : Addr) : Heap := (mx2 h la lb).push { cls := .type "tuple", data := .seq #[.ref h.objs.size, .ref (mx1 h la).objs.size] }
abbrev mx4 (h : Heap) (la lb : Addr) : Heap := (mx3 h la lb).push { cls := .type "tuple", data := .seq #[.none, .none] }
abbrev mx5 (h : Heap) (la lb : Addr) : Heap := (mx4 h la lb).push { cls := .type "zip", data := .fields #[.none, .bool false, .bool false, .ref (mx2 h la lb).objs.size, .ref (mx3 h la lb).objs.size] }
theorem new_zipM (la lb : Addr) (xs ys : Array Value) :
    Meets (Builtin.«zip.__new__» ⟨[.type "zip", .ref la, .ref lb], []⟩) (fun _ R s => s.heap.IsList la xs ∧ s.heap.IsTuple lb ys ∧ R (.ok (.ret (.ref (mx4 s.heap la lb).objs.size))) { s with heap := mx5 s.heap la lb }) :=
  .of_wp fun prog w A R s ⟨a1, a2, q⟩ => by
    obtain ⟨hp, g, d, tk, os⟩ := s
    have hsub := sub_zip
    have u1 : Heap.IsList (Shared.heap ⟨hp, g, d, tk, os⟩) la xs := a1
    have u2 : Heap.IsTuple (Shared.heap ⟨mx1 hp la, g, d, tk, os⟩) lb ys := Heap.IsTuple.push a2 _
    wp_walk using wpAny_pyIter_list u1, wpAny_pyIter_tuple u2
    exact ⟨_, rfl, q⟩
section
variable {prog : Program} {w : World} {A : Around} {E : Value → Shared → Prop} {s : Shared}
theorem call_zipM {la lb : Addr} {xs ys : Array Value} {Q : Value → Shared → Prop} (a1 : s.heap.IsList la xs) (a2 : s.heap.IsTuple lb ys)
    (q : ∀ hx, IsZip hx (s.heap.objs.size + 4) (s.heap.objs.size + 2) (s.heap.objs.size + 3) .none → IsPair hx (s.heap.objs.size + 2) (.ref s.heap.objs.size) (.ref (s.heap.objs.size + 1)) → IsPair hx (s.heap.objs.size + 3) .none .none →
      hx.IsListIter s.heap.objs.size la 0 → hx.IsTupleIter (s.heap.objs.size + 1) lb 0 → hx.objs.size = s.heap.objs.size + 5 → (∀ c o, s.heap.get? c = some o → hx.get? c = some o) → Q (.ref (s.heap.objs.size + 4)) { s with heap := hx }) :
    wpAny (model prog w) A (call (.type "zip") [.ref la, .ref lb]) Q E s := by
  refine callType_new F.called_zip (by decide) (F.typeCall_zip_2 _ _) (F.newCall_zip_2 _ _) (fun obj => F.args_object_init_3 obj _ _) F.entry_zip_new (new_zipM la lb xs ys) ⟨a1, a2, ?_⟩
  have e1 : (mx1 s.heap la).objs.size = s.heap.objs.size + 1 := Heap.size_push ..
  have e2 : (mx2 s.heap la lb).objs.size = s.heap.objs.size + 2 := by rw [Heap.size_push, e1]
  have e3 : (mx3 s.heap la lb).objs.size = s.heap.objs.size + 3 := by rw [Heap.size_push, e2]
  have e4 : (mx4 s.heap la lb).objs.size = s.heap.objs.size + 4 := by rw [Heap.size_push, e3]
  have e5 : (mx5 s.heap la lb).objs.size = s.heap.objs.size + 5 := by rw [Heap.size_push, e4]
  have up1 : ∀ {h : Heap} {a : Obj} {c : Addr} {o : Obj}, h.get? c = some o → (h.push a).get? c = some o := fun e => Heap.get?_push_of_some _ e
  have k5 : (mx5 s.heap la lb).get? (mx4 s.heap la lb).objs.size = some _ := Heap.get?_push_size _ rfl
  have k4 : (mx5 s.heap la lb).get? (mx3 s.heap la lb).objs.size = some _ := up1 (Heap.get?_push_size _ rfl)
  have k3 : (mx5 s.heap la lb).get? (mx2 s.heap la lb).objs.size = some _ := up1 (up1 (Heap.get?_push_size _ rfl))
  have k2 : (mx5 s.heap la lb).get? (mx1 s.heap la).objs.size = some _ := up1 (up1 (up1 (Heap.get?_push_size _ rfl)))
  have k1 : (mx5 s.heap la lb).get? s.heap.objs.size = some _ := up1 (up1 (up1 (up1 (Heap.get?_push_size _ rfl))))
  show _ ∧ _
  rw [e2, e3, e4] at k5
  rw [e1, e2] at k3
  rw [e3] at k4
  rw [e1] at k2
  rw [e4]
  exact ⟨⟨_, k5, rfl⟩, q _ k5 k3 k4 ⟨_, k1, rfl, rfl⟩ ⟨_, k2, rfl, rfl⟩ e5 fun c o e => up1 (up1 (up1 (up1 (up1 e))))⟩
end
def tDictZip (K : PySem.W.Frag) (ta : TA) : TE := fun σ H Q => ta σ H fun vs H1 => ∃ (a b : Addr) (ks : List Key) (ys : List V), vs = [.ref a, .ref b] ∧ SqL K H1 a (ks.map kV) ∧ SqT K H1 b ys ∧ ks.length = ys.length ∧ 0 < ks.length ∧
  ∀ p, H1 p = none → Q (.ref p) (upd H1 p (.dK (mergeK [] (ks.zip ys))))
section
variable {X : Cx}
theorem pair_back {α β : Type} {G : α → β → Prop} : ∀ {l : List α} {m : List β}, Paired G l m → ∀ {i : Nat} {b : β}, m[i]? = some b → ∃ a, l[i]? = some a ∧ G a b
  | _, _, .nil, _, _, e => by cases e
  | _, _, .cons g r, 0, _, e => ⟨_, rfl, by cases e; exact g⟩
  | _, _, .cons g r, i + 1, b, e => by
    rw [List.getElem?_cons_succ] at e
    obtain ⟨a, ea, ga⟩ := pair_back r e
    exact ⟨a, by rw [List.getElem?_cons_succ]; exact ea, ga⟩
theorem kv_zip : ∀ {ks : List Key} {ys : List V} {us : List Value}, Vals ys us → KV (ks.zip ys) (ks.zip us)
  | [], _, _, _ => .nil
  | _ :: _, _, _, .nil => .nil
  | _ :: ks, _, _, .cons r rr => .cons ⟨rfl, r⟩ (kv_zip (ks := ks) rr)
/-- dict(zip(a list, a tuple)) -/
theorem pe_dictZip {e1 e2 : Expr} {ta : TA} {p p2 pos pos2 : Pos} (hc : X.calm = true) (ha : PA X [e1, e2] ta) (hg : Gl X "dict") (hm : X.mg "dict" = none) (hg2 : Gl X "zip") (hm2 : X.mg "zip" = none)
    (hv : bootBuiltins "dict" = some (.type "dict") := by decide +kernel) (hs : starEach [.Call (.Name "zip" p2) [e1, e2] [] pos2] X.env = (false, eval (.Call (.Name "zip" p2) [e1, e2] [] pos2) X.env) :: starEach [] X.env := by rfl)
    (hs2 : starEach [e1, e2] X.env = (false, eval e1 X.env) :: starEach [e2] X.env := by rfl) (hpl : (backTo pos2 (starEach [e2] X.env)).any (·.1) = false := by rfl) :
    PE X (.Call (.Name "dict" p) [.Call (.Name "zip" p2) [e1, e2] [] pos2] [] pos) (tDictZip X.K ta) := by
  refine ⟨fun pins s σ H Q I hq => ?_⟩
  refine wpAny_Call_Name_kw (ld_blt I hg hm hv ?_)
  refine PyProof.Rows.callWith_type1 ?_ hs rfl
  rw [hs]
  show wpAny _ _ (spliced ((false, eval (.Call (.Name "zip" p2) [e1, e2] [] pos2) X.env) :: backTo pos (starEach [] X.env))) _ _ s
  refine Calls.spliced_cons ?_
  refine wpAny_Call_Name_kw (ld_blt I hg2 hm2 PyProof.Rows.boot_zip ?_)
  refine PyProof.Rows.callWith_type1 (thn (ha.run pos2 pins s σ H _ I hq) fun us s1 ⟨vs, H1, I1, r1, q1⟩ => ?_) hs2 hpl
  obtain ⟨a, b, ks, ys, ex, hqx, hqy, el, pos, q⟩ := q1
  subst ex
  cases r1 with
  | cons r rr =>
    cases rr with
    | cons r' rr =>
      cases rr
      cases r
      cases r'
      obtain ⟨its, rv, p1, fx⟩ := I1.list hqx
      obtain ⟨its2, rv2, p2, fy⟩ := I1.tuple hqy
      have ll1 := rv.length
      have ll2 := rv2.length
      rw [List.length_map] at ll1
      obtain ⟨o2, ho2, _⟩ := id p2
      have la : a < s1.heap.objs.size := p1.lt
      have lb : b < s1.heap.objs.size := Heap.lt_size ho2
      have up : ∀ {c : Addr} (n : Nat), c < s1.heap.objs.size → c ≠ s1.heap.objs.size + n := fun n h => Nat.ne_of_lt (Nat.lt_of_lt_of_le h (Nat.le_add_right _ _))
      refine call_zipM p1.isList (show s1.heap.IsTuple b its2.toArray from p2) fun hx hz hTI hTO h1 h2 hsz hk => ?_
      refine Calls.spliced_nil ?_
      have A0 := PySem.W.ktu_apart s1.heap.objs.size a b la lb
      refine PySem.call_dict_pairs (s := { s1 with heap := hx }) (knd := mixKind X.prog X.w) (kvs := ks.zip its2) (argZ (nx_list s1.heap.objs.size a its.toArray (up 0 la)) (nx_tup (s1.heap.objs.size + 1) b its2.toArray (up 1 lb)) A0 (by rw [List.size_toArray, List.size_toArray]; omega) (by rw [List.size_toArray]; omega))
        (I1.ok.hd hc) ⟨hz, hTI, ⟨_, _, hTO⟩, ⟨h1, p1.isList.at fun o e => hk _ _ e⟩, ⟨h2, Heap.IsTuple.at (show s1.heap.IsTuple b its2.toArray from p2) fun o e => hk _ _ e⟩⟩ ?_ (by rw [List.size_toArray]; omega) fun h'' tk hd' hk' => ?_
      · refine ⟨by rw [List.length_zip, List.size_toArray]; omega, fun i key v ⟨e1, e2⟩ => ?_⟩
        have e1 : its[i]? = some key := by simpa using e1
        have e2 : its2[i]? = some v := by simpa using e2
        obtain ⟨kx, hkx, isk⟩ := pair_back (paired_keys (prog := X.prog) (w := X.w) rv) e1
        exact ⟨kx, List.getElem?_zip_eq_some.mpr ⟨hkx, e2⟩, isk⟩
      · have kp : ∀ c o, s1.heap.get? c = some o → h''.get? c = some o := fun c o e => by
          have lt := Heap.lt_size e
          refine hk' c o (fun m => ?_) (hk c o e)
          simp only [List.mem_cons, List.not_mem_nil, or_false] at m
          rcases m with z | z | z | z
          · exact up 4 lt z
          · exact up 3 lt z
          · exact up 0 lt z
          · exact up 1 lt z
        have big : s1.heap.objs.size ≤ hx.objs.size := by rw [hsz]; exact Nat.le_add_right _ _
        have nm : (hx.objs.size == sysModules) = false := beq_eq_false_iff_ne.mpr (Nat.ne_of_gt (Nat.lt_of_lt_of_le I1.big big))
        have few : (mergeK [] (ks.zip ys)).length ≤ sizeLine := by
          refine Nat.le_trans (length_mergeK _ []) ?_
          rw [List.length_nil, Nat.zero_add, List.length_zip]
          omega
        exact ⟨.ref hx.objs.size, upd H1 hx.objs.size (.dK (mergeK [] (ks.zip ys))), I1.laid (t' := tk) kp big (show ObjOk X.prog X.w _ _ _ (.dK (mergeK [] (ks.zip ys))) from ⟨few, nm, merged [] (ks.zip its2), KV.merge (kv_zip rv2) .nil, hd'⟩), rfl, q _ (I1.hok.fresh big)⟩
end
end ZpM


/-! Own: {**a, **b} of two dicts -/
namespace DsT
open PySem PySem.Spec PyProof.Rows L2
section
variable {prog : Program} {w : World} {K : Type} [DecidableEq K] {knd : KeyKind prog w K} {A : Around} {E : Value → Shared → Prop} {s : Shared}
theorem put_pairs {d : Addr} {kvs : List (K × Value)} {x : K} {key v : Value} {Q : Unit → Shared → Prop} (hx : knd.is x key = true) (hm : s.heap.DictOf knd d kvs) (few : kvs.length ≤ sizeLine)
    (q : ∀ g, g.DictOf knd d (stored kvs x v) → Heap.SameBut d s.heap g → Q () { s with heap := g }) : wpAny (model prog w) A (dictPut d (knd.hash x) key v) Q E s := by
  obtain ⟨ob, en, pt, go, cd, dd, kn, pr, nn⟩ := hm
  have room : en.size ≤ sizeLine := by
    have l1 := pr.length
    have l2 : en.toList.length = en.size := by simp
    omega
  unfold dictPut
  refine wpAny_bind (wpAny_dictFind_of hx go dd kn ?_)
  have same : (en.findIdx? fun e => knd.is x e.key) = kvs.findIdx? fun kv => decide (kv.1 = x) := by
    rw [← pr.findIdx x]
    obtain ⟨l⟩ := en
    simp
  cases at_ : en.findIdx? fun e => knd.is x e.key with
  | some i =>
    have al : (en.toList.findIdx? fun e => knd.is x e.key) = some i := by
      rw [← at_]
      obtain ⟨l⟩ := en
      simp
    have hit := any_of_findIdx_some (same ▸ at_)
    refine wpAny_updateDict go dd (q _ ⟨_, _, pt, Heap.get?_update_self _ go (Obj.isFreed_of_dict (Obj.data_mapDict dd _)), cd.mapDict _, Obj.data_mapDict dd _, kn.modify _ _, ?_, ?_⟩ (Heap.SameBut.update ..))
    · have z := pr.modify nn al v
      rw [stored, if_pos hit]
      obtain ⟨l⟩ := en
      simpa using z
    · rw [stored, if_pos hit, keys_map_store]
      exact nn
  | none =>
    have off : x ∉ kvs.map (·.1) := not_mem_of_findIdx_none (same ▸ at_)
    have miss : ¬ (kvs.any fun kv => decide (kv.1 = x)) = true := fun z => by
      obtain ⟨kv, mk, e⟩ := List.any_eq_true.mp z
      exact off (List.mem_map.mpr ⟨kv, mk, of_decide_eq_true e⟩)
    refine wpAny_updateDictKeys (hz := room) go dd (q _ ⟨_, _, pt + 1, Heap.get?_update_self _ go (Obj.isFreed_of_dict (Obj.data_mapDictKeys dd _)), cd.mapDictKeys _, Obj.data_mapDictKeys dd _, kn.push hx _, ?_, ?_⟩ (Heap.SameBut.update ..))
    · have z := pr.append hx (knd.hash x) v
      rw [stored, if_neg miss]
      obtain ⟨l⟩ := en
      simpa using z
    · rw [stored, if_neg miss, List.map_append, List.nodup_append]
      refine ⟨nn, by simp, fun a ma b mb => ?_⟩
      simp only [List.map_cons, List.map_nil, List.mem_singleton] at mb
      subst mb
      exact fun e => off (e ▸ ma)
theorem merge_map {d o : Addr} {kvs more : List (K × Value)} {Q : Unit → Shared → Prop} (ne : d ≠ o) (so : (o == sysModules) = false) (hd : s.heap.DictOf knd d kvs) (ho : s.heap.DictOf knd o more) (few : kvs.length + more.length ≤ sizeLine)
    (q : ∀ g, g.DictOf knd d (merged kvs more) → g.DictOf knd o more → Heap.SameBut d s.heap g → Q () { s with heap := g }) : wpAny (model prog w) A (mergeMapping d (.ref o) false) Q E s := by
  obtain ⟨od, ed, pd, god, cd, dd, kd, pdd, nd⟩ := id hd
  obtain ⟨oo, eo, po, goo, co, doo, ko, poo, no⟩ := id ho
  have lm : more.length = eo.size := by rw [← poo.length]; simp
  unfold mergeMapping
  refine wpAny_bind (wpAny_isInstance ho.typeIs isSubtype_dict_dict ?_)
  simp only [if_true]
  refine wpAny_bind (wpAny_specialOf ho.typeIs F.slot_dict_iter.lookup ?_)
  refine wpAny_bind (wpAny_pure ?_)
  simp only [beq_self_eq_true, so, Bool.false_eq_true, if_false]
  have rest : ∀ {Z : Unit → Shared → Prop}, (∀ g, g.DictOf knd d (merged kvs more) → g.DictOf knd o more → Heap.SameBut d s.heap g → Z () { s with heap := g }) → wpAny (model prog w) A (do
      let es ← dictEntries o
      let size : Nat := es.size
      let epoch ← dictEpoch o
      forIn (List.range size) PUnit.unit fun i (_ : PUnit) => (do
          let es' ← dictEntries o
          match es'[i]? with
            | some e => do
              holding [e.key, e.val] (dictPut d e.hash e.key e.val)
              let ep ← dictEpoch o
              if (ep != epoch) = true then do
                  (unsupported "dict.changed-during-merge" : Sem PUnit)
                  pure (ForInStep.yield PUnit.unit)
                else pure (ForInStep.yield PUnit.unit)
            | x => do
              (unsupported "dict.changed-during-merge" : Sem PUnit)
              pure (ForInStep.yield PUnit.unit) : Sem (ForInStep PUnit))
      pure ()) Z E s := by
    intro Z z
    refine wpAny_bind (wpAny_dictEntries goo doo ?_)
    refine wpAny_bind (wpAny_dictEpoch goo doo ?_)
    refine wpAny_bind ?_
    rw [List.range_eq_range']
    refine wpAny_forIn_list _ (fun left _ s' => ∃ g i, s' = { s with heap := g } ∧ left = List.range' i (eo.size - i) ∧ i ≤ eo.size ∧ g.DictOf knd d (merged kvs (more.take i)) ∧ g.get? o = some oo ∧ Heap.SameBut d s.heap g) _ ?_ ?_ _ _ ⟨s.heap, 0, rfl, by simp, Nat.zero_le _, by simpa [merged] using hd, goo, Heap.SameBut.refl _ _⟩
    · rintro j left b s' ⟨g, i, rfl, hl, hi, dg, og, sg⟩
      have lt : i < eo.size := Nat.lt_of_not_le fun le => by
        rw [Nat.sub_eq_zero_of_le le] at hl
        simp at hl
      obtain ⟨rfl, hl2⟩ : j = i ∧ left = List.range' (i + 1) (eo.size - (i + 1)) := by
        rw [show eo.size - i = (eo.size - (i + 1)) + 1 by omega, List.range'_succ] at hl
        injection hl with h1 h2
        exact ⟨h1, h2⟩
      refine wpAny_bind (wpAny_dictEntries og doo ?_)
      rw [Array.getElem?_eq_getElem lt]
      obtain ⟨⟨x, v⟩, hkv⟩ : ∃ kv, more[j]? = some kv := ⟨more[j]'(by rw [lm]; exact lt), List.getElem?_eq_getElem _⟩
      obtain ⟨key, val⟩ := poo.get? (e := eo[j]) (by simp [lt]) hkv
      obtain ⟨x', key', hash⟩ := ko eo[j] (Array.getElem_mem lt)
      obtain rfl : x' = x := knd.inj _ _ _ key' key
      show wpAny _ _ (holding [eo[j].key, eo[j].val] (dictPut d eo[j].hash eo[j].key eo[j].val) >>= _) _ _ _
      rw [hash, val]
      have room : (merged kvs (more.take j)).length ≤ sizeLine := by
        have e1 := merged_length_le kvs (more.take j)
        have e2 : (more.take j).length ≤ more.length := by rw [List.length_take]; omega
        omega
      refine wpAny_bind (wpAny_holding (put_pairs key dg room fun g' dg' sg' => ?_))
      have og' : g'.get? o = some oo := (sg'.2 o (Ne.symm ne)).trans og
      refine wpAny_bind (wpAny_dictEpoch og' doo ?_)
      rw [if_neg (by simp)]
      exact wpAny_pure ⟨g', j + 1, rfl, hl2, lt, by rw [merged_take_succ kvs more j (x', v) hkv]; exact dg', og', sg.trans sg'⟩
    · rintro b s' ⟨g, i, rfl, hl, hi, dg, og, sg⟩
      have hin : i = eo.size := Nat.le_antisymm hi (Nat.le_of_not_lt fun lt => by
        rw [show eo.size - i = (eo.size - (i + 1)) + 1 by omega, List.range'_succ] at hl
        exact nomatch hl)
      refine wpAny_pure (z g ?_ ⟨oo, eo, po, og, co, doo, ko, poo, no⟩ sg)
      rw [hin, ← lm, List.take_length] at dg
      exact dg
  refine wpAny_bind (wpAny_dictEntries god dd ?_)
  split
  · refine wpAny_bind (wpAny_dictEntries goo doo ?_)
    refine wpAny_bind ?_
    rw [← Array.forIn_toList]
    refine wpAny_forIn_list _ (fun left _ s' => s' = s ∧ ∀ e ∈ left, carriedByValue e.key = true) _ ?_ ?_ _ _ ⟨rfl, fun e he => ?_⟩
    · rintro ⟨hh, kk, vv⟩ left b s' ⟨rfl, al⟩
      have c0 := al _ List.mem_cons_self
      have cl : ∀ e ∈ left, carriedByValue e.key = true := fun e he => al e (List.mem_cons_of_mem _ he)
      cases kk with
      | ref a => cases c0
      | _ => exact wpAny_pure ⟨rfl, cl⟩
    · rintro b s' ⟨rfl, _⟩
      exact rest q
    · obtain ⟨x, kx, _⟩ := ko e (Array.mem_toList_iff.mp he)
      exact knd.byValue _ _ kx
  · exact rest q
end
def tDstar (ta tb : TE) : TE := fun σ H Q => ∀ D, H D = none → ta σ (upd H D (.dK [])) fun x H1 => ∃ (p : Addr) (kp : List (Key × V)), x = .ref p ∧ Rd H1 p (.dK kp) ∧ p ≠ D ∧ H1 D = some (.dK []) ∧ kp.length ≤ sizeLine ∧
  tb σ (upd H1 D (.dK (mergeK [] kp))) fun y H2 => ∃ (r : Addr) (kr kd : List (Key × V)), y = .ref r ∧ Rd H2 r (.dK kr) ∧ r ≠ D ∧ H2 D = some (.dK kd) ∧ kd.length + kr.length ≤ sizeLine ∧ Q (.ref D) (upd H2 D (.dK (mergeK kd kr)))
section
variable {X : Cx}
theorem merge_in {pins : List (Addr × Obj)} {σ : L2.St} {H : Hp} {s : Shared} {E : Value → Shared → Prop} {d o : Addr} {kd ko : List (Key × V)} {Q : Unit → Shared → Prop} (I : Inv X pins σ H s) (hd : H d = some (.dK kd)) (ho : Rd H o (.dK ko)) (ne : d ≠ o) (few : kd.length + ko.length ≤ sizeLine)
    (q : ∀ s', Inv X pins σ (upd H d (.dK (mergeK kd ko))) s' → Q () s') : wpAny (model X.prog X.w) X.A (mergeMapping d (.ref o) false) Q E s := by
  obtain ⟨zd, sd, xs, rel, dd⟩ := dk_of I.hok hd
  obtain ⟨zo, so, ys, relo, doo⟩ := dk_rd I.hok ho
  have l1 := rel.length
  have l2 := relo.length
  have lm := length_mergeK ko kd
  refine merge_map (knd := mixKind X.prog X.w) ne so dd doo (by omega) fun g dg _ same => ?_
  have there : ∃ q, g.get? d = some q := let ⟨q, _, _, hq, _⟩ := dg; ⟨q, hq⟩
  exact q _ (d_write (t' := s.toks) I (by rw [hd]; exact True.intro) same there (dk_new (by omega) sd (KV.merge relo rel) dg))
/-- {**a, **b} -/
theorem pe_dstar {a b : Expr} {ta tb : TE} {pos : Pos} (ha : PE X a ta) (hb : PE X b tb) : PE X (.Dict [none, none] [a, b] pos) (tDstar ta tb) := by
  refine ⟨fun pins s σ H Q I h => ?_⟩
  rw [arm_eval_Dict]
  refine wpAny_bind (wpAny_standAt ?_)
  show wpAny _ _ (dictDisplay [(none, (do let x ← eval a X.env; standAt pos; pure x)), (none, (do let x ← eval b X.env; standAt pos; pure x))]) _ _ s
  unfold dictDisplay
  simp only [List.forIn_cons, List.forIn_nil, List.isEmpty_nil, if_true]
  refine wpAny_bind (wpAny_bind (wpAny_bind (wpAny_pure ?_)))
  refine wpAny_bind (wpAny_alloc ?_)
  have nD : H s.heap.objs.size = none := I.hok.fresh (Nat.le_refl _)
  have I0 : Inv X pins σ (upd H s.heap.objs.size (.dK [])) { s with heap := s.heap.push { cls := .type "dict", data := .dict #[] } } :=
    I.laid (t' := s.toks) (fun b o e => Heap.get?_push_of_some _ e) (Nat.le_refl _) (dk_empty s.heap I.big)
  refine wpAny_bind (wpAny_holding (wpAny_bind (thn (ha.run pins _ σ _ _ I0 (h _ nD)) fun v s1 ⟨x, H1, I1, r1, q1⟩ => ?_)))
  obtain ⟨p, kp, rfl, hp, np, hD, fp, q1⟩ := q1
  cases r1
  refine wpAny_bind (wpAny_standAt (wpAny_pure ?_))
  refine wpAny_bind (wpAny_onRaise (wpAny_tryCatch (wpAny_onRaise (wpAny_holding (merge_in I1 hD hp np.symm (by rw [List.length_nil, Nat.zero_add]; exact fp) fun s2 I2 => ?_)))))
  refine wpAny_pure ?_
  refine wpAny_bind (wpAny_bind (wpAny_pure ?_))
  refine wpAny_bind (wpAny_pure ?_)
  refine wpAny_bind (wpAny_holding (wpAny_bind (thn (hb.run pins s2 σ _ _ I2 q1) fun v s3 ⟨y, H3, I3, r3, q3⟩ => ?_)))
  obtain ⟨r, kr, kd, rfl, hr, nr, hD3, fr, q3⟩ := q3
  cases r3
  refine wpAny_bind (wpAny_standAt (wpAny_pure ?_))
  refine wpAny_bind (wpAny_onRaise (wpAny_tryCatch (wpAny_onRaise (wpAny_holding (merge_in I3 hD3 hr nr.symm fr fun s4 I4 => ?_)))))
  refine wpAny_pure ?_
  refine wpAny_pure ?_
  refine wpAny_bind (wpAny_pure ?_)
  exact wpAny_pure ⟨.ref s.heap.objs.size, _, I4, rfl, q3⟩
end
end DsT


/-! d.update(o) of a dict -/
namespace UpD
open PySem PySem.Spec PyProof.Rows L2
def rUpd : V → List V → Hp → VK → Prop := fun x vs H Q => ∃ (d o : Addr) (kd ko : List (Key × V)), x = .ref d ∧ vs = [.ref o] ∧ H d = some (.dK kd) ∧ Rd H o (.dK ko) ∧ d ≠ o ∧ kd.length + ko.length ≤ sizeLine ∧ Q .non (upd H d (.dK (mergeK kd ko)))
theorem mtd_update {X : Cx} : MtR X "dict.update" rUpd := by
  intro pins s σ H x vs v us Q I rx rv h
  obtain ⟨d, o, kd, ko, rfl, rfl, hd, ho, ne, fit, q⟩ := h
  cases rx
  rw [Vals.ref1 rv]
  obtain ⟨zd, sd, xs, rel, dd⟩ := dk_of I.hok hd
  obtain ⟨zo, so, ys, relo, doo⟩ := dk_rd I.hok ho
  have l1 := rel.length
  have l2 := relo.length
  have lm := length_mergeK ko kd
  refine call_meetsIn PySem.F.slot_dict_update dd.typeIs PySem.F.entry_dict_update (PySem.F.args_dict_update_2 _ _) (meets_dict_update (mixKind X.prog X.w) d o ne so) ⟨xs, ys, dd, doo, by omega, fun h' dd' _ same => ?_⟩
  have there : ∃ q, h'.get? d = some q := let ⟨q, _, _, hq, _⟩ := dd'; ⟨q, hq⟩
  exact ⟨.non, _, d_write (t' := s.toks) I (by rw [hd]; exact True.intro) same there (dk_new (by omega) sd (KV.merge relo rel) dd'), rfl, q⟩
end UpD


/-! witness -/
namespace FT
open PySem L2 TL ClX LiI
/-- a witness: a list of three dicts of sizes, all new -/
structure WitAt (ts : List (Str × Str)) (n : Int) (R q0 q1 q2 : Addr) (H H' : Hp) : Prop where
  hR : H' R = some (.lst [.ref q0, .ref q1, .ref q2])
  h0 : H' q0 = some (.dK (tblI (ts.map Prod.fst) (wW ts n 0)))
  h1 : H' q1 = some (.dK (tblI (ts.map Prod.fst) (wW ts n 1)))
  h2 : H' q2 = some (.dK (tblI (ts.map Prod.fst) (wW ts n 2)))
  nR : H R = none
  n0 : H q0 = none
  n1 : H q1 = none
  n2 : H q2 = none
def spWit (K : PySem.W.Frag) (CF CU : Addr) : Sp := fun vs H Q E => ∃ (x : Addr) (ts : List (Str × Str)) (v : V), vs = [.ref x, v] ∧ FAt CF H x ts ∧ TreeOk ts ∧ IsDat K H v ∧
  if usersOk v (10 ^ 30) = true then (if memC ts v = true then ∀ H', Same H H' → Q .non H' else ∃ n, v = .int n ∧ ∀ R q0 q1 q2 H', Same H H' → WitAt ts n R q0 q1 q2 H H' → Q (.ref R) H') else Out H E (.e0 CU)
theorem pss_imp22 {X : Cx} {ss : List Stmt} {t t' : TS} (h : PSs X ss t) (m : ∀ D σ H, t' D σ H → t D σ H) : PSs X ss t' := ⟨fun pins s σ H D I q => h.run pins s σ H D I (m _ _ _ q)⟩
theorem merge_put {L : List Str} : ∀ {names : List Str} {row : List Int} {f : Str → Int}, (∀ a ∈ names, a ∈ L) → names.length = row.length → mergeK (tblI L f) ((names.map Sum.inr).zip (row.map V.int)) = tblI L (putW f names row)
  | [], [], f, _, _ => by
    show tblI L f = tblI L (putW f [] [])
    unfold putW
    rfl
  | a :: names, r :: row, f, h, e => by
    show mergeK (putK (tblI L f) (Sum.inr a) (.int r)) ((names.map Sum.inr).zip (row.map V.int)) = _
    rw [tblI_put (h a List.mem_cons_self), merge_put (fun b hb => h b (List.mem_cons_of_mem _ hb)) (Nat.succ.inj e)]
    rfl
theorem zip_kv {names : List Str} {row : List Int} : ((names.map Sum.inr : List Key).zip (row.map V.int)) = kvT (names.zip (row.map V.int)) := by
  unfold kvT
  induction names generalizing row with
  | nil => rfl
  | cons a l ih =>
    cases row with
    | nil => rfl
    | cons r row =>
      show (_ :: _) = _
      rw [List.map_cons, List.zip_cons_cons, List.map_cons, ← ih] <;> rfl
theorem zip_fst {α β : Type} : ∀ (l : List α) (m : List β), ((l.zip m).map Prod.fst).Sublist l
  | [], _ => List.Sublist.slnil
  | _ :: _, [] => List.nil_sublist _
  | a :: l, b :: m => (zip_fst l m).cons₂ a
theorem merge_zip {names : List Str} {row : List Int} (nd : names.Nodup) : mergeK [] ((names.map Sum.inr : List Key).zip (row.map V.int)) = (names.map Sum.inr).zip (row.map V.int) := by
  rw [zip_kv]
  exact merge_nd (nd.sublist (zip_fst _ _))
theorem merge_tblW {l : List Str} {g : Str → Int} (nd : l.Nodup) : mergeK [] (tblI l g) = tblI l g := merge_nd (by rw [tblI_fst]; exact nd)
theorem take_fresh {L : List Str} {a : Str} {i : Nat} (nd : L.Nodup) (ha : L[i]? = some a) : a ∉ L.take i := fun hm => by
  obtain ⟨j, hj⟩ := List.mem_iff_getElem?.mp hm
  have jl := (List.getElem?_eq_some_iff.mp hj).1
  rw [List.length_take] at jl
  rw [List.getElem?_take, if_pos (by omega)] at hj
  have := (List.getElem?_inj (by omega) nd).mp (hj.trans ha.symm)
  omega
theorem merge_allW {L : List Str} {f : Str → Int} {c : Int} : ∀ {M : List Str}, (∀ a ∈ M, a ∈ L) → mergeK (tblI L f) (tblI M fun _ => c) = tblI L fun x => if x ∈ M then c else f x := by
  intro M
  induction M generalizing f with
  | nil => intro _; exact (tblI_congr fun a _ => (if_neg (by simp)).symm)
  | cons a M ih =>
    intro h
    show mergeK (putK (tblI L f) (Sum.inr a) (.int c)) (tblI M fun _ => c) = _
    rw [tblI_put (h a List.mem_cons_self), ih fun b hb => h b (List.mem_cons_of_mem _ hb)]
    refine tblI_congr fun x _ => ?_
    by_cases e : x ∈ M
    · rw [if_pos e, if_pos (List.mem_cons_of_mem _ e)]
    · rw [if_neg e]
      by_cases e2 : x = a
      · rw [if_pos e2, if_pos (by rw [e2]; exact List.mem_cons_self)]
      · rw [if_neg e2, if_neg fun z => (List.mem_cons.mp z).elim e2 e]
theorem path_ndW {ts : List (Str × Str)} (o : TreeOk ts) {a : Str} (h : Pl ts a) : (pathOf ts a).Nodup := path_nd o h
theorem mem_no {ts : List (Str × Str)} {n : Int} (uo : usersOk (.int n) (10 ^ 30) = true) (em : memC ts (.int n) = false) : 2 ≤ n ∧ twoC ts = false := by
  have z : (decide (1 ≤ n) && decide (n ≤ 10 ^ 30)) = true := uo
  have h1 := of_decide_eq_true (Bool.and_eq_true_iff.mp z).1
  unfold memC at em
  obtain ⟨e1, e2⟩ := Bool.or_eq_false_iff.mp em
  have ne : n ≠ 1 := fun e => of_decide_eq_false e1 (by rw [e])
  exact ⟨by omega, e2⟩
abbrev NWi : List Str := ["forest", "users", "tops", "base", "names", "rows", "above", "name", "row"]
def nOf : V → Int
  | .int n => n
  | _ => 0
def RowAt (H : Hp) (p : Addr) (r : List Int) : Prop := H p = some (.tup (r.map V.int)) ∧ r.length = 3
def tWit (L : List Str) (ts : List (Str × Str)) (n : Int) : TS := fun D σ H => ∃ (u0 u1 u2 u6 u7 u8 : Option V) (B M W p0 p1 p2 : Addr), σ = [u0, u1, u2, some (.ref B), some (.ref M), some (.ref W), u6, u7, u8] ∧ L.Nodup ∧ L.length ≤ 12 ∧ (∀ a ∈ nmW ts, a ∈ L) ∧ (nmW ts).Nodup ∧ (nmW ts).length = 3 ∧
  H B = some (.dK (tblI L (bsW ts))) ∧ H M = some (.lst ((nmW ts).map V.str)) ∧ H W = some (.lst [.ref p0, .ref p1, .ref p2]) ∧ RowAt H p0 ((rwW ts n).getD 0 []) ∧ RowAt H p1 ((rwW ts n).getD 1 []) ∧ RowAt H p2 ((rwW ts n).getD 2 []) ∧
  ∀ (R : Addr) (ds : List Addr) (H' : Hp), Same H H' → H R = none → H' R = some (.lst (ds.map V.ref)) → Paired (fun d (i : Nat) => H d = none ∧ H' d = some (.dK (tblI L (wW ts n i)))) ds [0, 1, 2] → D.rt (.ref R) H'
theorem pair_with {α β : Type} {F : α → β → Prop} {G : α → Prop} : ∀ {l : List α} {m : List β}, Paired F l m → (∀ a ∈ l, G a) → Paired (fun a b => F a b ∧ G a) l m
  | _, _, .nil, _ => .nil
  | _, _, .cons h r, g => .cons ⟨h, g _ List.mem_cons_self⟩ (pair_with r fun a ha => g a (List.mem_cons_of_mem _ ha))
section
variable {P : Program} {w : World} {K : PySem.W.Frag} {mg : Str → Option Value} {base : Heap}
theorem scWi : FnScope NWi ["forest", "users"] (defScope s_witness) := ⟨rfl, rfl, rfl, by decide +kernel, rfl, by decide +kernel, by decide +kernel⟩
theorem ok_wit {f fM fC fP CF CU p1 g1 : Addr} {mc : Value} {fd fdM fdC fdP fd1 : FuncData} (F : Fun K "witness" "witness" s_witness f fd) (T : Nm mg) (O : FoC K CF) (Z : Fc K mg CF mc) (ME : Dn P w K mg base (L2.CX P w) 4 "is_memoryless" ["forest", "users"] (spMem K CF CU) fM fdM)
    (DC : Mt P w K mg base CX0 2 CF "children" ["self", "place"] (spKids CF) fC fdC) (DP : Dn P w K mg base CX0 1 "path_in" ["above", "place"] spPathIn fP fdP) (L1 : Pr1 P w K mg base CF "flags" (spFFlags CF) p1 g1 fd1) : FnOk P w K mg base (L2.CX P w) 5 f fd ["forest", "users"] (spWit K CF CU) := by
  obtain ⟨ur, cr⟩ := Z.root
  refine F.okX scWi (fun vs H Q E h => ?_) (fun cdv A outer s H vs Q E hr h => ?_)
  · obtain ⟨x, ts, v, rfl, _⟩ := h
    rfl
  · obtain ⟨x, ts, v, rfl, fa, o, dv, k⟩ := h
    have hu := hu_of hr
    have nd := scWi.nd
    have hr1 : Room 1 _ := hr.mono (by decide)
    have hr2 : Room 2 _ := hr.mono (by decide)
    have hr4 : Room 4 _ := hr.mono (by decide)
    have big : 2000 ≤ sizeLine := by decide
    have few := o.few
    have i3 : ∀ {X : Cx} {a b c : Expr} {ta tb tc : TE} {ps : Pos}, True := trivial
    refine ⟨_, pss_cons (ps_if (pt_val (pe_call ME.ok hr4 rfl ME.mgn ME.kp ME.bn .nil (passes_call (takes_of rfl rfl rfl rfl) (fun _ _ _ _ h => h)) (pa_cons (pv 0) (pa_cons (pv 1) pa_nil)))) (pss_one (ps_ret pe_non)) pss_nil)
      (pss_cons (ps_set (i := 2) nd rfl (.inl rfl) (pe_meth (pv 0) O.cl DC.mt DC.fn hr2 DC.bn .nil pass0 (pa_cons (pe_cval (pe_glob (v := .ref CF) (by rfl) Z.gF rfl)) pa_nil)))
      (pss_cons (ps_set (i := 3) nd rfl (.inr rfl) (pe_dc (own := [("name", 7)]) (g := gName 7) (tt := tYes) (tk := tVar 7) rfl nd (pi_list (pe_prop (pv 0) O.cl L1.pr L1.fn hr2 L1.bn .nil pass0 (by rfl))) (blkOk_by (N := NWi) (sc := defScope s_witness) (by decide +kernel)) (fun _ _ _ _ _ => pg_name (i := 7) nd rfl (Or.inl rfl)) (fun _ _ _ _ _ => pts_nil) (fun _ _ _ _ _ => pv 7) (fun _ _ _ _ _ => pe_int)))
      (pss_cons (ps_if (pt_cmpR op_gt (pe_callB call_len_seq (by rfl) T.len PySem.boot_len (pa_cons (pv 2) pa_nil)) pe_int (nomark _))
        (pss_one (ps_asg (pe_tup (pa_cons (pe_slice sl_list (pv 2) po_none (po_some pe_int)) (pa_cons (pe_lst (pa_cons (pe_tup (pa_cons pe_int (pa_cons (pe_op op_sub (pv 1) pe_int) (pa_cons pe_int pa_nil)))) (pa_cons (pe_tup (pa_cons pe_int (pa_cons (pe_op op_sub (pv 1) pe_int) (pa_cons pe_int pa_nil)))) (pa_cons (pe_tup (pa_cons pe_int (pa_cons (pe_op op_sub (pv 1) pe_int) (pa_cons pe_int pa_nil)))) pa_nil)))) pa_nil)))
          (pg_tup rfl (pgs_cons (pg_name (i := 4) nd rfl (.inr rfl)) (pgs_cons (pg_name (i := 5) nd rfl (.inl rfl)) pgs_nil)))))
        (pss_cons (ps_set (i := 6) nd rfl (.inl rfl) (pe_ix ix_list (pe_lc (own := [("name", 7)]) (g := gName 7) (tt := tTest (tOp (rI0 fun i j => .bl (decide (i > j))) (tCB (fun xs H Q => ∃ p ys, xs = [.ref p] ∧ (SqL K H p ys ∨ SqT K H p ys) ∧ Q (.int ys.length) H) (tCons (tMeth CF "children" (spKids CF) [] E0 (tVar 0) (tCons (tVar 7) tNil)) tNil)) (tC (.int 1)))) (te := tVar 7) rfl nd (pi_list (pe_prop (pv 0) O.cl L1.pr L1.fn hr2 L1.bn .nil pass0 (by rfl))) (blkOk_by (N := NWi) (sc := defScope s_witness) (by decide +kernel)) (fun _ _ _ _ _ => pg_name (i := 7) nd rfl (Or.inl rfl))
            (fun _ _ _ _ _ => pts_one (pt_cmpR op_gt (pe_callB call_len_seq (by rfl) T.len PySem.boot_len (pa_cons (pe_meth (pv 0) O.cl DC.mt DC.fn hr2 DC.bn .nil pass0 (pa_cons (pv 7) pa_nil)) pa_nil)) pe_int (nomark _))) (fun _ _ _ _ _ => pv 7)) pe_int (fun _ _ => rfl)))
        (pss_cons (ps_expr (pe_bm PySem.F.plainAttrs_dict PySem.F.slot_dict_update PySem.F.type_dict_update UpD.mtd_update (pv 3) (pa_cons (pe_dc (own := [("name", 7)]) (g := gName 7) (tt := tYes) (tk := tVar 7) rfl nd (pi_tup (pe_call DP.ok hr1 rfl DP.mgn DP.kp DP.bn .nil pass0 (pa_cons (pe_fld (pv 0) rfl) (pa_cons (pv 6) pa_nil)))) (blkOk_by (N := NWi) (sc := defScope s_witness) (by decide +kernel)) (fun _ _ _ _ _ => pg_name (i := 7) nd rfl (Or.inl rfl)) (fun _ _ _ _ _ => pts_nil) (fun _ _ _ _ _ => pv 7) (fun _ _ _ _ _ => pe_int)) pa_nil)))
        (pss_one (ps_asg (pe_tup (pa_cons (pe_op op_cat (pe_lst (pa_cons (pv 6) pa_nil)) (pe_slice sl_list (pe_meth (pv 0) O.cl DC.mt DC.fn hr2 DC.bn .nil pass0 (pa_cons (pv 6) pa_nil)) po_none (po_some pe_int))) (pa_cons (pe_lst (pa_cons (pe_tup (pa_cons pe_int (pa_cons pe_int (pa_cons pe_int pa_nil)))) (pa_cons (pe_tup (pa_cons pe_int (pa_cons pe_int (pa_cons pe_int pa_nil)))) (pa_cons (pe_tup (pa_cons pe_int (pa_cons pe_int (pa_cons pe_int pa_nil)))) pa_nil)))) pa_nil)))
          (pg_tup rfl (pgs_cons (pg_name (i := 4) nd rfl (.inr rfl)) (pgs_cons (pg_name (i := 5) nd rfl (.inl rfl)) pgs_nil))))))))
      (pss_imp22 (t' := tWit (ts.map Prod.fst) ts (nOf v)) (pss_one (ps_ret (pe_lc (own := [("row", 8)]) (g := gName 8) (tt := tYes) (te := DsT.tDstar (tVar 3) (ZpM.tDictZip K (tCons (tVar 4) (tCons (tVar 8) tNil)))) rfl nd (pi_list (pv 5)) (blkOk_by (N := NWi) (sc := defScope s_witness) (by decide +kernel)) (fun _ _ _ _ _ => pg_name (i := 8) nd rfl (Or.inl rfl)) (fun _ _ _ _ _ => pts_nil)
          (fun _ _ _ _ _ => DsT.pe_dstar (pv 3) (ZpM.pe_dictZip rfl (pa_cons (pv 4) (pa_cons (pv 8) pa_nil)) (by rfl) T.dct (by rfl) T.zip))))) ?_)))), ?_⟩
    · intro D0 σ H1 q
      generalize nOf v = n at q
      generalize ts.map Prod.fst = L at q
      obtain ⟨u0, u1, u2, u6, u7, u8, B, M, W, p0, p1, p2, eσ, ndL, f12, sub, ndn, l3, hB, hM, hW, r0, r1, r2, kk⟩ := q
      subst eσ
      refine ⟨_, rfl, W, rfl, ⟨_, SqL.of hW⟩, fun R nR => ?_⟩
      refine lc_it walk_list (fun j H' => Same H1 H' ∧ ∃ ds : List Addr, H' R = some (.lst (ds.map V.ref)) ∧ Paired (fun d (i : Nat) => H1 d = none ∧ H' d = some (.dK (tblI L (wW ts n i)))) ds (([0, 1, 2] : List Nat).take j) ∧ ∀ d ∈ ds, d ≠ R) ⟨same_new nR, [], upd_same, .nil, fun d h => (by cases h)⟩ (fun j H' _ z => SqL.of (z.1 _ _ hW)) ?_ ?_
      · intro j y Ha Hb hj ⟨q1, ds, q2, pr, hn⟩ ⟨eb, ex⟩
        subst eb
        have j3 : j < 3 := hj
        obtain ⟨pj, rfl, rj⟩ : ∃ pj, y = .ref pj ∧ RowAt H1 pj ((rwW ts n).getD j []) := by
          match j, j3, ex with
          | 0, _, ex => exact ⟨p0, (Option.some.inj ex).symm, r0⟩
          | 1, _, ex => exact ⟨p1, (Option.some.inj ex).symm, r1⟩
          | 2, _, ex => exact ⟨p2, (Option.some.inj ex).symm, r2⟩
        obtain ⟨hpj, lj⟩ := rj
        refine ⟨rfl, ?_⟩
        refine fun D nD => ?_
        have sD := same_new (o := .dK ([] : List (Key × V))) nD
        have BD : B ≠ D := ne_of_none (q1 _ _ hB) nD
        refine ⟨_, rfl, B, _, rfl, .inl (sD _ _ (q1 _ _ hB)), BD, upd_same, by rw [tblI_len]; omega, ?_⟩
        rw [merge_tblW ndL]
        have s2 : Same Hb (upd (upd Hb D (.dK [])) D (.dK (tblI L (bsW ts)))) := sD.put nD
        obtain ⟨H2, e2⟩ : ∃ X, X = upd (upd Hb D (.dK [])) D (.dK (tblI L (bsW ts))) := ⟨_, rfl⟩
        have hD2 : H2 D = some (.dK (tblI L (bsW ts))) := by rw [e2, upd_same]
        rw [← e2] at s2 ⊢
        clear e2
        refine ⟨_, rfl, _, rfl, M, pj, (nmW ts).map Sum.inr, ((rwW ts n).getD j []).map V.int, rfl, ?_, SqT.of (s2 _ _ (q1 _ _ hpj)), by rw [List.length_map, List.length_map, l3, lj], by rw [List.length_map, l3]; decide, fun Z nZ => ?_⟩
        · rw [List.map_map]
          exact SqL.of (s2 _ _ (q1 _ _ hM))
        have DZ : D ≠ Z := ne_of_none hD2 nZ
        have s3 := same_new (o := .dK (mergeK [] (((nmW ts).map Sum.inr : List Key).zip (((rwW ts n).getD j []).map V.int)))) nZ
        have lz : (((nmW ts).map Sum.inr : List Key).zip (((rwW ts n).getD j []).map V.int)).length ≤ 3 := by
          rw [List.length_zip, List.length_map, l3]
          exact Nat.min_le_left _ _
        refine ⟨Z, _, _, rfl, .inl upd_same, DZ.symm, s3 _ _ hD2, ?_, ?_⟩
        · rw [merge_zip ndn, tblI_len]
          omega
        rw [merge_zip ndn] at s3 ⊢
        rw [merge_put sub (by rw [l3, lj])]
        obtain ⟨H3, e3⟩ : ∃ X, X = upd H2 Z (.dK (((nmW ts).map Sum.inr : List Key).zip (((rwW ts n).getD j []).map V.int))) := ⟨_, rfl⟩
        rw [← e3] at s3 ⊢
        have s03 := s2.trans s3
        have sF : Same Hb (upd H3 D (.dK (tblI L (putW (bsW ts) (nmW ts) ((rwW ts n).getD j []))))) := s03.put nD
        have RD : R ≠ D := ne_of_none q2 nD
        refine ⟨ds.map V.ref, sF _ _ q2, ?_, (q1.trans sF).put nR, ds ++ [D], by rw [upd_same, List.map_append] <;> rfl, ?_, fun d hd => ?_⟩
        · have ll := pair_lenZ pr
          rw [List.length_take] at ll
          rw [List.length_map, ll]
          have : ([0, 1, 2] : List Nat).length = 3 := rfl
          omega
        · have ej : (([0, 1, 2] : List Nat).take (j + 1)) = ([0, 1, 2] : List Nat).take j ++ [j] := take_more (by
            match j, j3 with
            | 0, _ => rfl
            | 1, _ => rfl
            | 2, _ => rfl)
          rw [ej]
          refine pair_appW (pair_impW (fun d i hd => ?_) (pair_with pr hn)) (.cons ⟨q1.free nD, ?_⟩ .nil)
          · exact ⟨hd.1.1, by rw [upd_ne hd.2]; exact sF _ _ hd.1.2⟩
          · rw [upd_ne RD.symm, upd_same] <;> rfl
        · rcases List.mem_append.mp hd with h | h
          · exact hn d h
          · rw [List.mem_singleton.mp h]
            exact RD.symm
      · intro H3 ⟨s3, ds, hR, pr, _⟩
        exact kk R ds H3 s3 nR hR pr
    · refine ⟨_, rfl, _, rfl, x, ts, v, rfl, fa, o, dv, ?_⟩
      by_cases uo : usersOk v (10 ^ 30) = true
      rotate_left
      · rw [if_neg uo] at k ⊢
        exact k
      rw [if_pos uo] at k ⊢
      intro H1 s1
      refine ⟨_, rfl, ?_⟩
      cases em : memC ts v with
      | true =>
        rw [if_pos em] at k
        exact iteT (k H1 s1)
      | false =>
        rw [if_neg (by rw [em]; decide)] at k
        obtain ⟨n, rfl, k⟩ := k
        refine iteF ?_
        obtain ⟨n2, nt⟩ := mem_no uo em
        obtain ⟨dx, dq, hx, hd⟩ := id fa
        have fin : ∀ {u0 u1 u2 u6 u7 u8 : Option V} {B M W p0 p1 p2 : Addr} {Hz : Hp} {D0 : Ends}, (∀ R H', D0.rt (.ref R) H' = Q (.ref R) H') → Same H Hz → (∀ a ∈ nmW ts, a ∈ ts.map Prod.fst) → (nmW ts).Nodup → (nmW ts).length = 3 → Hz B = some (.dK (tblI (ts.map Prod.fst) (bsW ts))) → Hz M = some (.lst ((nmW ts).map V.str)) → Hz W = some (.lst [.ref p0, .ref p1, .ref p2]) → RowAt Hz p0 ((rwW ts n).getD 0 []) → RowAt Hz p1 ((rwW ts n).getD 1 []) → RowAt Hz p2 ((rwW ts n).getD 2 []) →
            tWit (ts.map Prod.fst) ts (nOf (.int n)) D0 [u0, u1, u2, some (.ref B), some (.ref M), some (.ref W), u6, u7, u8] Hz := fun eD sz h1 h2 h3 h4 h5 h6 h7 h8 h9 =>
          ⟨_, _, _, _, _, _, _, _, _, _, _, _, rfl, o.nd, by rw [List.length_map]; exact few, h1, h2, h3, h4, h5, h6, h7, h8, h9, fun R ds H' s' nR hR pr => by
            rw [eD]
            match ds, pr with
            | [q0, q1, q2], .cons a0 (.cons a1 (.cons a2 .nil)) => exact k R q0 q1 q2 H' (sz.trans s') ⟨hR, a0.2, a1.2, a2.2, sz.free nR, sz.free a0.1, sz.free a1.1, sz.free a2.1⟩⟩
        -- the top flags
        refine ⟨_, rfl, x, dx, _, rfl, s1 _ _ hx, rfl, CF, mc, _, ur, rfl, Z.rd, cr, x, ts, "", rfl, fa.mono s1, o, .inl rfl, fun pt H2 s2 npt hpt => ?_⟩
        have s02 := s1.trans s2
        -- nobody has a flag
        refine ⟨_, rfl, x, dx, _, rfl, s02 _ _ hx, x, ts, rfl, fa.mono s02, fun pf nf => ⟨pf, rfl, ⟨_, SqL.of upd_same⟩, fun B nB => ?_⟩⟩
        obtain ⟨H3, e3⟩ : ∃ X, X = upd H2 pf (.lst ((ts.map Prod.fst).map V.str)) := ⟨_, rfl⟩
        have s3 : Same H2 H3 := e3 ▸ same_new nf
        have a3 : H3 pf = some (.lst ((ts.map Prod.fst).map V.str)) := by rw [e3]; exact upd_same
        rw [← e3] at nB ⊢
        refine dc_it walk_list (fun i H' => Same H3 H' ∧ H' B = some (.dK (tblI ((ts.map Prod.fst).take i) fun _ => 0))) ⟨same_new nB, upd_same⟩ (fun i H' _ z => SqL.of (z.1 _ _ a3)) ?_ ?_
        · intro i y Ha Hb hi ⟨q1, q2⟩ ⟨eb, ex⟩
          subst eb
          obtain ⟨b, hb, rfl⟩ := map_of ex
          refine ⟨rfl, ?_⟩
          refine ⟨_, rfl, _, Sum.inr b, rfl, q2, ?_, q1.put nB, ?_⟩
          · rw [tblI_len, List.length_take, List.length_map]
            omega
          · rw [upd_same, tblI_snoc (take_fresh o.nd hb) rfl, take_more hb]
        intro H4 ⟨q1, q2⟩
        rw [List.length_map, List.take_length] at q2
        have s04 := (s02.trans s3).trans q1
        have hpt4 := q1 _ _ (s3 _ _ hpt)
        refine ⟨_, rfl, pt, _, rfl, .inl (SqL.of hpt4), _, _, rfl, rfl, _, rfl, ?_⟩
        rw [List.length_map]
        refine ite2 (fun yes => ?_) (fun no => ?_)
        · have hb : bigW ts = true := by
            unfold bigW
            exact decide_eq_true (by have := of_decide_eq_true yes; omega)
          obtain ⟨a, b, c, en, ha, hb', hc, ab, ac, bc⟩ := nm_big o hb
          have fl : ∀ {z : Str}, z ∈ kids ts "" → z ∈ ts.map Prod.fst := fun h => par_flag ((kid_par o).mp h)
          have er : rwW ts n = [[1, n - 1, 0], [0, n - 1, 1], [1, n - 2, 1]] := by unfold rwW; rw [if_pos hb]
          have ec : cutV ((kids ts "").map V.str) none (some 3) = (nmW ts).map V.str := by
            rw [show (3 : Int) = ((3 : Nat) : Int) from rfl, cut_take (by rw [List.length_map]; have := of_decide_eq_true yes; omega), ← List.map_take]
            unfold nmW
            rw [if_pos hb]
          refine ⟨_, rfl, _, rfl, pt, _, rfl, SqL.of hpt4, fun M nM => ?_⟩
          rw [ec]
          refine ⟨_, rfl, _, _, rfl, rfl, by show 3 ≤ sizeLine; omega, fun t1 n1 => ⟨_, rfl, _, _, rfl, rfl, by show 3 ≤ sizeLine; omega, fun t2 n2' => ⟨_, rfl, _, _, rfl, rfl, by show 3 ≤ sizeLine; omega, fun t3 n3 => ⟨by show 3 ≤ sizeLine; omega, fun W nW => ⟨by show 2 ≤ sizeLine; omega, fun tp ntp => ⟨tp, _, rfl, .inl (.inl upd_same), rfl, _, _, rfl, _, _, rfl, rfl, ?_⟩⟩⟩⟩⟩⟩
          have c1 := same_new (o := .lst ((nmW ts).map V.str)) nM
          have c2 := same_new (o := .tup [.int 1, .int (n - 1), .int 0]) n1
          have c3 := same_new (o := .tup [.int 0, .int (n - 1), .int 1]) n2'
          have c4 := same_new (o := .tup [.int 1, .int (n - 2), .int 1]) n3
          have c5 := same_new (o := .lst [.ref t1, .ref t2, .ref t3]) nW
          have c6 := same_new (o := .tup [.ref M, .ref W]) ntp
          refine fin (p0 := t1) (p1 := t2) (p2 := t3) (fun _ _ => rfl) (s04.trans (c1.trans (c2.trans (c3.trans (c4.trans (c5.trans c6)))))) ?_ ?_ ?_ ?_ ?_ ?_ ?_ ?_ ?_
          · rw [en]
            intro z hz
            simp only [List.mem_cons, List.not_mem_nil, or_false] at hz
            rcases hz with rfl | rfl | rfl
            · exact fl ha
            · exact fl hb'
            · exact fl hc
          · rw [en]
            simp [ab, ac, bc]
          · rw [en] <;> rfl
          · rw [show bsW ts = fun _ => 0 from funext fun x => by unfold bsW; rw [if_pos hb]]
            exact c6 _ _ (c5 _ _ (c4 _ _ (c3 _ _ (c2 _ _ (c1 _ _ q2)))))
          · exact c6 _ _ (c5 _ _ (c4 _ _ (c3 _ _ (c2 _ _ upd_same))))
          · exact c6 _ _ upd_same
          · rw [er]
            exact ⟨c6 _ _ (c5 _ _ (c4 _ _ (c3 _ _ upd_same))), rfl⟩
          · rw [er]
            exact ⟨c6 _ _ (c5 _ _ (c4 _ _ upd_same)), rfl⟩
          · rw [er]
            exact ⟨c6 _ _ (c5 _ _ upd_same), rfl⟩
        · have hb : bigW ts = false := by
            unfold bigW
            exact decide_eq_false fun z => no (decide_eq_true (by omega))
          obtain ⟨a, m, ea, eabv, ma, two⟩ := abv_some hb nt
          obtain ⟨a', b, c, ea', en, _, hb', hc, ab, ac, bc⟩ := nm_fork o hb nt
          have eaa : a' = a := by rw [← ea', eabv]
          subst eaa
          have er : rwW ts n = [[1, 1, 0], [1, 0, 1], [2, 1, 1]] := by unfold rwW; rw [if_neg (by rw [hb]; decide)]
          have fl : ∀ {z : Str}, z ∈ kids ts a' → z ∈ ts.map Prod.fst := fun h => par_flag ((kid_par o).mp h)
          -- the first flag with two children
          refine ⟨_, rfl, x, dx, _, rfl, s04 _ _ hx, x, ts, rfl, fa.mono s04, fun pg ng => ⟨pg, rfl, ⟨_, SqL.of upd_same⟩, fun D nD => ?_⟩⟩
          obtain ⟨H5, e5⟩ : ∃ X, X = upd H4 pg (.lst ((ts.map Prod.fst).map V.str)) := ⟨_, rfl⟩
          have s5 : Same H4 H5 := e5 ▸ same_new ng
          have a5 : H5 pg = some (.lst ((ts.map Prod.fst).map V.str)) := by rw [e5]; exact upd_same
          rw [← e5] at nD ⊢
          have s05 := s04.trans s5
          refine lc_it walk_list (fun i H' => Same H5 H' ∧ H' D = some (.lst ((((ts.map Prod.fst).take i).filter fun x => decide (1 < (kids ts x).length)).map V.str))) ⟨same_new nD, upd_same⟩ (fun i H' _ z => SqL.of (z.1 _ _ a5)) ?_ ?_
          · intro i y Ha Hb hi ⟨z1, z2⟩ ⟨eb, ex⟩
            subst eb
            obtain ⟨f, hf, rfl⟩ := map_of ex
            have s0 := s05.trans z1
            have lf : ((((ts.map Prod.fst).take i).filter fun x => decide (1 < (kids ts x).length))).length ≤ 12 := by
              have := List.length_filter_le (fun x => decide (1 < (kids ts x).length)) ((ts.map Prod.fst).take i)
              rw [List.length_take, List.length_map] at this
              omega
            refine ⟨rfl, ?_⟩
            refine ⟨_, rfl, x, dx, _, rfl, s0 _ _ hx, rfl, _, rfl, x, ts, f, rfl, fa.mono s0, o, .inr (List.mem_of_getElem? hf), fun pu Hu su npu hpu => ⟨pu, _, rfl, .inl (SqL.of hpu), _, _, rfl, rfl, _, rfl, ?_⟩⟩
            rw [List.length_map, take_more hf, List.filter_append]
            have z3 := z1.trans su
            refine ite2 (fun yes => ?_) (fun no => ?_)
            · refine ⟨_, rfl, _, su _ _ z2, by rw [List.length_map]; omega, z3.put nD, ?_⟩
              rw [upd_same, List.filter_cons, if_pos (decide_eq_true (by have := of_decide_eq_true yes; omega)), List.map_append] <;> rfl
            · refine ⟨z3, ?_⟩
              rw [List.filter_cons, if_neg (fun z => no (decide_eq_true (by have := of_decide_eq_true z; omega))), List.filter_nil, List.append_nil]
              exact su _ _ z2
          intro H6 ⟨z1, z2⟩
          rw [List.length_map, List.take_length] at z2
          have eabs : ((ts.map Prod.fst).filter fun x => decide (1 < (kids ts x).length)) = a' :: m := ea
          rw [eabs] at z2
          have s06 := s05.trans z1
          refine ⟨D, _, 0, .str a', rfl, rfl, SqL.of z2, atI_nat (j := 0) rfl, ?_⟩
          have hB6 := z1 _ _ (s5 _ _ q2)
          -- two for its path
          refine ⟨_, rfl, .inr (.inr (.inl ⟨rfl, .inl ⟨_, hB6⟩⟩)), _, rfl, x, CF, dx, _, .ref dq, rfl, s06 _ _ hx, O.cl, O.nA, rfl, _, rfl, dq, ts, a', rfl, .inl (s06 _ _ hd), o, .inr ma, fun pp H7 s7 npp hpp => ⟨pp, rfl, ⟨_, .inl (.inl hpp)⟩, fun G nG => ?_⟩⟩
          have ndp := path_ndW o (.inr ma)
          refine dc_it walk_tup (fun i H' => Same H7 H' ∧ H' G = some (.dK (tblI ((pathOf ts a').take i) fun _ => 2))) ⟨same_new nG, upd_same⟩ (fun i H' _ z => .inl (.inl (z.1 _ _ hpp))) ?_ ?_
          · intro i y Ha Hb hi ⟨y1, y2⟩ ⟨eb, ex⟩
            subst eb
            obtain ⟨f, hf, rfl⟩ := map_of ex
            have lp := path_len ts a'
            refine ⟨rfl, ?_⟩
            refine ⟨_, rfl, _, Sum.inr f, rfl, y2, ?_, y1.put nG, ?_⟩
            · rw [tblI_len, List.length_take]
              omega
            · rw [upd_same, tblI_snoc (take_fresh ndp hf) rfl, take_more hf]
          intro H8 ⟨y1, y2⟩
          rw [List.length_map, List.take_length] at y2
          have s68 := s7.trans y1
          have s08 := s06.trans s68
          have hB8 := s68 _ _ hB6
          have BG : B ≠ G := ne_of_none (s7 _ _ hB6) nG
          have lp := path_len ts a'
          refine ⟨B, G, _, _, rfl, rfl, hB8, .inl y2, BG, by rw [tblI_len, tblI_len, List.length_map]; omega, ?_⟩
          rw [merge_allW (path_all o (.inr ma))]
          have ebs : (fun x => if x ∈ pathOf ts a' then (2 : Int) else 0) = bsW ts := funext fun x => by unfold bsW; rw [ea', hb] <;> rfl
          rw [ebs]
          have nB0 : H B = none := (s02.trans s3).free nB
          have s09 : Same H (upd H8 B (.dK (tblI (ts.map Prod.fst) (bsW ts)))) := s08.put nB0
          obtain ⟨H9, e9⟩ : ∃ X, X = upd H8 B (.dK (tblI (ts.map Prod.fst) (bsW ts))) := ⟨_, rfl⟩
          have hB9 : H9 B = some (.dK (tblI (ts.map Prod.fst) (bsW ts))) := by rw [e9, upd_same]
          rw [← e9] at s09 ⊢
          clear e9
          -- the names
          refine ⟨_, rfl, by show 1 ≤ sizeLine; omega, fun t0 n0 => ?_⟩
          have c0 := same_new (o := .lst [.str a']) n0
          have s0c := s09.trans c0
          refine ⟨_, rfl, x, dx, _, rfl, s0c _ _ hx, rfl, _, rfl, x, ts, a', rfl, fa.mono s0c, o, .inr ma, fun pk HA sA npk hpk => ?_⟩
          have ec : cutV ((kids ts a').map V.str) none (some 2) = ((kids ts a').take 2).map V.str := by
            rw [show (2 : Int) = ((2 : Nat) : Int) from rfl, cut_take (by rw [List.length_map]; omega), ← List.map_take]
          refine ⟨_, rfl, pk, _, rfl, SqL.of hpk, fun pc npc => ?_⟩
          rw [ec]
          have cB := same_new (o := .lst (((kids ts a').take 2).map V.str)) npc
          refine ⟨t0, pc, _, _, rfl, rfl, cB _ _ (sA _ _ upd_same), upd_same, by rw [List.length_map, List.length_take]; show 1 + _ ≤ _; omega, fun M nM => ?_⟩
          have enm : ([V.str a'] ++ ((kids ts a').take 2).map V.str) = (nmW ts).map V.str := by
            unfold nmW
            rw [if_neg (by rw [hb]; decide), ea'] <;> rfl
          rw [enm]
          refine ⟨by show 3 ≤ sizeLine; omega, fun t1 n1 => ⟨by show 3 ≤ sizeLine; omega, fun t2 n2' => ⟨by show 3 ≤ sizeLine; omega, fun t3 n3 => ⟨by show 3 ≤ sizeLine; omega, fun W nW => ⟨by show 2 ≤ sizeLine; omega, fun tp ntp => ⟨tp, _, rfl, .inl (.inl upd_same), rfl, _, _, rfl, _, _, rfl, rfl, ?_⟩⟩⟩⟩⟩⟩
          have c1 := same_new (o := .lst ((nmW ts).map V.str)) nM
          have c2 := same_new (o := .tup [.int 1, .int 1, .int 0]) n1
          have c3 := same_new (o := .tup [.int 1, .int 0, .int 1]) n2'
          have c4 := same_new (o := .tup [.int 2, .int 1, .int 1]) n3
          have c5 := same_new (o := .lst [.ref t1, .ref t2, .ref t3]) nW
          have c6 := same_new (o := .tup [.ref M, .ref W]) ntp
          refine fin (p0 := t1) (p1 := t2) (p2 := t3) (fun _ _ => rfl) (s0c.trans (sA.trans (cB.trans (c1.trans (c2.trans (c3.trans (c4.trans (c5.trans c6)))))))) ?_ ?_ ?_ ?_ ?_ ?_ ?_ ?_ ?_
          · rw [en]
            intro z hz
            simp only [List.mem_cons, List.not_mem_nil, or_false] at hz
            rcases hz with rfl | rfl | rfl
            · exact ma
            · exact fl hb'
            · exact fl hc
          · rw [en]
            simp [ab, ac, bc]
          · rw [en] <;> rfl
          · exact c6 _ _ (c5 _ _ (c4 _ _ (c3 _ _ (c2 _ _ (c1 _ _ (cB _ _ (sA _ _ (c0 _ _ hB9))))))))
          · exact c6 _ _ (c5 _ _ (c4 _ _ (c3 _ _ (c2 _ _ upd_same))))
          · exact c6 _ _ upd_same
          · rw [er]
            exact ⟨c6 _ _ (c5 _ _ (c4 _ _ (c3 _ _ upd_same))), rfl⟩
          · rw [er]
            exact ⟨c6 _ _ (c5 _ _ (c4 _ _ upd_same)), rfl⟩
          · rw [er]
            exact ⟨c6 _ _ (c5 _ _ upd_same), rfl⟩
end
end FT


/-! lists of texts as data, for == and !=. -/
namespace FT
open PySem L2 TL
theorem dps_strs {K : PySem.W.Frag} {H : Hp} : ∀ ts : List Str, DpAll K H (ts.map V.str) (ts.map PyData.str)
  | [] => .nil
  | t :: ts => .cons (.str t) (dps_strs ts)
theorem strs_lay : ∀ {ts : List Str}, (∀ t ∈ ts, PyData.strOk t = true) → PyData.canLayAll0 (ts.map PyData.str) = true ∧ PyData.depthAll (ts.map PyData.str) ≤ 0
  | [], _ => ⟨rfl, Nat.le_refl _⟩
  | t :: ts, h => by
    obtain ⟨h1, h2⟩ := strs_lay (ts := ts) fun b hb => h b (List.mem_cons_of_mem _ hb)
    constructor
    · show (PyData.strOk t && PyData.canLayAll0 (ts.map PyData.str)) = true
      rw [h t (List.mem_cons_self ..), h1] <;> rfl
    · show max 0 (PyData.depthAll (ts.map PyData.str)) ≤ 0
      omega
theorem strs_shaped {ts : List Str} (h : ∀ t ∈ ts, PyData.strOk t = true) : SeqAt.shaped (.list (ts.map PyData.str)) = true := by
  obtain ⟨h1, h2⟩ := strs_lay h
  unfold SeqAt.shaped
  have c : (PyData.list (ts.map PyData.str)).canLay0 = true := h1
  rw [c]
  have d : (PyData.list (ts.map PyData.str)).depth ≤ 64 := by
    show PyData.depthAll (ts.map PyData.str) + 1 ≤ 64
    omega
  rw [decide_eq_true d] <;> rfl
end FT


/-! Own: repr of a dict whose values are data without dicts. -/
namespace L2
open PySem PySem.Spec PyProof.Rows
def kD : Key → PyData
  | .inl i => .int i
  | .inr x => .str x
/-- an entry: the key, the value, the value as data -/
abbrev EntD := Key × V × PyData
abbrev dcD (es : List EntD) : PyData := .dict (es.map fun e => (kD e.1, e.2.2))
def rReprD (K : PySem.W.Frag) : List V → Hp → VK → Prop := fun xs H Q => ∃ (a : Addr) (es : List EntD), xs = [.ref a] ∧ H a = some (.dK (es.map fun e => (e.1, e.2.1))) ∧ (∀ e ∈ es, Dp K H e.2.1 e.2.2 ∧ e.2.2.hasDict = false) ∧
  (dcD es).showable = true ∧ (dcD es).depth ≤ 60 ∧ (dcD es).shown.length ≤ sizeLine ∧ Q (.str (dcD es).shown) H
section
variable {X : Cx} {pins : List (Addr × Obj)} {σ : St} {H : Hp} {s : Shared}
end
end L2


/-! the text of a dict of sizes -/
namespace FT
open PySem L2 TL ClX LiI
def szEn (l : List Str) (s : Str → Int) : List EntD := l.map fun p => (Sum.inr p, V.int (s p), .int (s p))
def szKv (l : List Str) (s : Str → Int) : List (PyData × PyData) := l.map fun p => (PyData.str p, .int (s p))
theorem szEn_D (l : List Str) (s : Str → Int) : dcD (szEn l s) = .dict (szKv l s) := by
  unfold dcD szEn szKv
  rw [List.map_map] <;> rfl
theorem szEn_kv (l : List Str) (s : Str → Int) : ((szEn l s).map fun e => (e.1, e.2.1)) = tblI l s := by
  unfold szEn tblI kvT
  rw [List.map_map, List.map_map] <;> rfl
theorem int_shortI : ∀ k : Fin 61, (PyData.shown (.int ((k.1 : Nat) : Int))).length ≤ 8 := by decide +kernel
theorem int_showI : ∀ k : Fin 61, PyData.showable (.int ((k.1 : Nat) : Int)) = true := by decide +kernel
theorem int_smallI {u : Int} (h0 : 0 ≤ u) (h1 : u ≤ 60) : (PyData.shown (.int u)).length ≤ 8 ∧ PyData.showable (.int u) = true := by
  have h := int_shortI ⟨u.toNat, by omega⟩
  have g := int_showI ⟨u.toNat, by omega⟩
  rw [show ((u.toNat : Nat) : Int) = u by omega] at h g
  exact ⟨h, g⟩
theorem str_leafI {z : Str} (h : PyData.strOk z = true) : PyData.leavesShort 8 (.str z) = true := by
  unfold PyData.leavesShort
  rw [List.all_eq_true]
  unfold PyData.strOk at h
  intro c hc
  have h := Array.all_eq_true_iff_forall_mem.mp h c (Array.mem_toList_iff.mp hc)
  have h := of_decide_eq_true h
  exact decide_eq_true (by omega)
theorem szKv_show : ∀ {l : List Str} {s : Str → Int}, (∀ p ∈ l, PyData.strOk p = true ∧ p.length ≤ 8 ∧ 0 ≤ s p ∧ s p ≤ 60) → PyData.showableKv (szKv l s) = true ∧ PyData.leavesShortKv 8 (szKv l s) = true ∧ PyData.depthKv (szKv l s) ≤ 1 ∧ PyData.bulkKv (szKv l s) ≤ 70 * l.length
  | [], _, _ => ⟨rfl, rfl, Nat.zero_le _, Nat.zero_le _⟩
  | p :: l, s, h => by
    obtain ⟨h1, h2, h3, h4⟩ := szKv_show (l := l) (s := s) fun v hv => h v (List.mem_cons_of_mem _ hv)
    obtain ⟨p1, p2, p3, p4⟩ := h p (List.mem_cons_self ..)
    obtain ⟨q1, q2⟩ := int_smallI p3 p4
    refine ⟨?_, ?_, ?_, ?_⟩
    · show (true && PyData.showable (.int (s p)) && PyData.showableKv (szKv l s)) = true
      rw [q2, h1] <;> rfl
    · show (PyData.leavesShort 8 (.str p) && decide ((PyData.shown (.int (s p))).length ≤ 8) && PyData.leavesShortKv 8 (szKv l s)) = true
      rw [str_leafI p1, decide_eq_true q1, h2] <;> rfl
    · show max (max 0 0) (PyData.depthKv (szKv l s)) ≤ 1
      omega
    · show p.cps.size + 0 + 2 + PyData.bulkKv (szKv l s) ≤ 70 * (p :: l).length
      rw [List.length_cons]
      have : p.cps.size = p.length := rfl
      omega
theorem sz_repr {K : PySem.W.Frag} {H : Hp} {q : Addr} {ks : List Str} {s : Str → Int} {t : List (Str × Str)} (o : TreeOk t) (p : ks.Perm (t.map Prod.fst)) (b : ∀ a ∈ ks, 0 ≤ s a ∧ s a ≤ 60) (h : H q = some (.dK (tblI ks s))) :
    H q = some (.dK ((szEn ks s).map fun e => (e.1, e.2.1))) ∧ (∀ e ∈ szEn ks s, Dp K H e.2.1 e.2.2 ∧ e.2.2.hasDict = false) ∧ (dcD (szEn ks s)).showable = true ∧ (dcD (szEn ks s)).depth ≤ 60 ∧ (dcD (szEn ks s)).shown.length ≤ sizeLine := by
  have few := o.few
  have lk := p.length_eq
  rw [List.length_map] at lk
  obtain ⟨z1, z2, z3, z4⟩ := szKv_show (l := ks) (s := s) fun a ha => ⟨strOk_name (o.nm a (p.mem_iff.mp ha)), (o.nm a (p.mem_iff.mp ha)).len.2, b a ha⟩
  refine ⟨by rw [szEn_kv]; exact h, fun e he => ?_, ?_⟩
  · obtain ⟨a, ha, rfl⟩ := List.mem_map.mp he
    exact ⟨.int _, rfl⟩
  · rw [szEn_D]
    refine ⟨z1, by show PyData.depthKv (szKv ks s) + 1 ≤ 60; omega, PyData.shown_fits_bulk (B := 8) (by decide) (by decide) z2 ?_⟩
    show PyData.bulkKv (szKv ks s) ≤ 2 ^ 20
    omega
end FT


/-! family B (laws k17 to k28, k55): the drawing state as a dict; begin. -/
namespace FT
open PySem L2 TL ClX
/-- the drawing state: at d the dict, its lists at l (large) and i (items) -/
def stB (l i : Addr) (lf tn : Int) : List (Key × V) := [(Sum.inr "large", .ref l), (Sum.inr "items", .ref i), (Sum.inr "left", .int lf), (Sum.inr "turn", .int tn)]
/-- b: a bound on the turns that were taken -/
def DrawB (H : Hp) (d l i : Addr) (b : Int) : Prop := ∃ (lf tn : Int) (lg it : List Int), H d = some (.dK (stB l i lf tn)) ∧ H l = some (.lst (lg.map V.int)) ∧ H i = some (.lst (it.map V.int)) ∧ l ≠ i ∧ (∀ z ∈ lg, 0 ≤ z) ∧ (∀ z ∈ it, 0 ≤ z) ∧ lg.length ≤ 63 ∧ it.length ≤ 63 ∧ 0 ≤ lf ∧ 0 ≤ tn ∧ tn ≤ b
/-- all that was tracked, but d and l, is as it was -/
def KeepB (d l : Addr) (H H' : Hp) : Prop := ∀ b o, b ≠ d → b ≠ l → H b = some o → H' b = some o
def spBeginB (K : PySem.W.Frag) : Sp := fun vs H Q _ => ∃ (a : Addr) (ns : List Int), vs = [.ref a] ∧ SqL K H a (ns.map V.int) ∧ ns.length ≤ 63 ∧
  ∀ (H' : Hp) (d l i : Addr), Same H H' → H d = none → H l = none → H i = none → DrawB H' d l i 0 → Q (.ref d) H'
theorem DrawB.more {H : Hp} {d l i : Addr} {b b' : Int} (x : DrawB H d l i b) (h : b ≤ b') : DrawB H d l i b' := by
  obtain ⟨lf, tn, lg, it, a1, a2, a3, a4, a5, a6, a7, a8, a9, a10, a11⟩ := x
  exact ⟨lf, tn, lg, it, a1, a2, a3, a4, a5, a6, a7, a8, a9, a10, by omega⟩
theorem DrawB.mono {H H' : Hp} {d l i : Addr} {b : Int} (s : Same H H') (x : DrawB H d l i b) : DrawB H' d l i b := by
  obtain ⟨lf, tn, lg, it, a1, a2, a3, r⟩ := x
  exact ⟨lf, tn, lg, it, s _ _ a1, s _ _ a2, s _ _ a3, r⟩
theorem DrawB.apart {H : Hp} {d l i p : Addr} {b : Int} (x : DrawB H d l i b) (n : H p = none) : p ≠ d ∧ p ≠ l ∧ p ≠ i := by
  obtain ⟨lf, tn, lg, it, a1, a2, a3, r⟩ := x
  exact ⟨(ne_of_none a1 n).symm, (ne_of_none a2 n).symm, (ne_of_none a3 n).symm⟩
def magsB (ms : List Int) : List Int := ms.map fun i => if i < 0 then -i else i
theorem magsB_nn (ms : List Int) : ∀ z ∈ magsB ms, 0 ≤ z := fun z h => by
  obtain ⟨i, _, rfl⟩ := List.mem_map.mp h
  split <;> omega
section
variable {P : Program} {w : World} {K : PySem.W.Frag} {mg : Str → Option Value} {base : Heap}
abbrev NBb : List Str := ["_law_script", "_law_items", "_law_item"]
theorem scBb : FnScope NBb ["_law_script"] (defScope s__law_begin) := ⟨rfl, rfl, rfl, by decide +kernel, rfl, by decide +kernel, by decide +kernel⟩
theorem ok_beginB {f : Addr} {fd : FuncData} (F : Fun K "_law_begin" "_law_begin" s__law_begin f fd) (T : Nm mg) : FnOk P w K mg base CX0 1 f fd ["_law_script"] (spBeginB K) := by
  refine F.ok scBb (fun vs H Q E h => ?_) (fun cdv A outer s H vs Q E hr h => ?_)
  · obtain ⟨a, ns, rfl, _⟩ := h
    rfl
  · obtain ⟨a, ns, rfl, hS, hlen, k⟩ := h
    have nd := scBb.nd
    have big : 1000 ≤ sizeLine := by decide
    refine ⟨_, pss_cons (ps_setLc (i := 1) (own := [("_law_item", 2)]) (g := gName 2) (tt := tYes) rfl nd rfl rfl (sw_true rfl rfl rfl (by decide +kernel)) (pi_list (pe_slice sl_list (pv 0) po_none (po_some pe_int)))
        (blkOk_by (N := NBb) (sc := defScope s__law_begin) (by decide +kernel)) (fun _ _ _ _ _ => pg_name (i := 2) nd rfl (Or.inl rfl)) (fun _ _ _ _ _ => pts_nil) (fun _ _ _ _ _ => pe_callB call_abs (by rfl) T.abs (by decide +kernel) (pa_cons (pv 2) pa_nil)))
      (pss_one (ps_ret (pe_disp (pps_cons pe_str (pe_lc (own := [("_law_item", 2)]) (g := gName 2) (tt := tTest (tOp (rI0 fun i j => .bl (decide (i ≥ j))) (tVar 2) (tOp (rI CPow fun i j => .int (i ^ j.toNat)) (tC (.int 10)) (tC (.int 18))))) (te := tVar 2) rfl nd (pi_list (pv 1))
        (blkOk_by (N := NBb) (sc := defScope s__law_begin) (by decide +kernel)) (fun _ _ _ _ _ => pg_name (i := 2) nd rfl (Or.inl rfl)) (fun _ _ _ _ _ => pts_one (pt_cmpR op_ge (pv 2) (pe_op op_pow pe_int pe_int) (nomark _))) (fun _ _ _ _ _ => pv 2))
        (pps_cons pe_str (pv 1) (pps_cons pe_str pe_int (pps_cons pe_str pe_int pps_nil)))) (by rfl) (by rfl) (fun z => by cases z) (by decide)))), ?_⟩
    obtain ⟨ms, em, lm⟩ := cut_ints ns none (some 63)
    refine ⟨_, rfl, _, rfl, a, _, rfl, hS, fun p np => ?_⟩
    rw [em]
    have s1 : Same H (upd H p (.lst (ms.map V.int))) := same_new np
    refine ⟨p, rfl, ⟨_, SqL.of upd_same⟩, fun D nD => lc_list (xs := ms.map V.int) (fun i H' => Same (upd H p (.lst (ms.map V.int))) H' ∧ H' D = some (.lst ((magsB (ms.take i)).map V.int))) ⟨same_new nD, by rw [upd_same, List.take_zero] <;> rfl⟩ (fun i H' _ q => Same.sql q.1 (SqL.of upd_same)) ?_ ?_⟩
    · intro i x H' hx ⟨q1, q2⟩
      obtain ⟨z, hz, rfl⟩ := map_of hx
      refine ⟨rfl, ?_⟩
      refine ⟨_, rfl, z, rfl, _, q2, ?_, Same.put q1 nD, ?_⟩
      · rw [List.length_map]
        unfold magsB
        rw [List.length_map, List.length_take]
        omega
      · rw [upd_same, take_more hz]
        unfold magsB
        rw [List.map_append, List.map_append] <;> rfl
    intro H2 ⟨q1, q2⟩
    rw [List.length_map, List.take_length] at q2
    have s2 : Same H H2 := s1.trans q1
    have nD0 : H D = none := s1.free nD
    obtain ⟨it, eit⟩ : ∃ it, it = magsB ms := ⟨_, rfl⟩
    rw [← eit] at q2
    have lit : it.length ≤ 63 := by
      rw [eit]
      unfold magsB
      rw [List.length_map]
      omega
    refine fun dq ndq => ?_
    have sd := same_new (o := .dK []) ndq
    refine ⟨_, rfl, D, rfl, ⟨_, SqL.of (sd _ _ q2)⟩, fun D2 nD2 => lc_list (xs := it.map V.int) (fun i H' => Same (upd H2 dq (.dK [])) H' ∧ H' D2 = some (.lst (((it.take i).filter fun z => decide (z ≥ 10 ^ 18)).map V.int))) ⟨same_new nD2, by rw [upd_same] <;> rfl⟩ (fun i H' _ q => Same.sql q.1 (SqL.of (sd _ _ q2))) ?_ ?_⟩
    · intro i x H' hx ⟨z1, z2⟩
      obtain ⟨z, hz, rfl⟩ := map_of hx
      refine ⟨rfl, ?_⟩
      refine ⟨_, rfl, _, _, rfl, rfl, ⟨by decide, by decide, by decide⟩, _, _, rfl, rfl, _, rfl, ?_⟩
      have lf : ((it.take i).filter fun z => decide (z ≥ 10 ^ 18)).length ≤ 63 := by
        have := List.length_filter_le (fun z : Int => decide (z ≥ 10 ^ 18)) (it.take i)
        rw [List.length_take] at this
        omega
      refine ite2 (fun yes => ?_) (fun no => ?_)
      · have yes : decide (z ≥ 10 ^ 18) = true := yes
        refine ⟨_, rfl, _, z2, by rw [List.length_map]; omega, Same.put z1 nD2, ?_⟩
        rw [upd_same, take_more hz, List.filter_append, List.filter_cons, if_pos yes, List.filter_nil, List.map_append] <;> rfl
      · have no : ¬ decide (z ≥ 10 ^ 18) = true := no
        refine ⟨z1, ?_⟩
        rw [z2, take_more hz, List.filter_append, List.filter_cons, if_neg no, List.filter_nil, List.append_nil]
    intro H3 ⟨z1, z2⟩
    rw [List.length_map, List.take_length] at z2
    have hdq : H3 dq = some (.dK []) := z1 _ _ upd_same
    have nD2' : H2 D2 = none := sd.free nD2
    refine ⟨_, rfl, hdq, stB D2 D 0 0, rfl, by show 4 ≤ 15; omega, ?_⟩
    have Dd : D ≠ dq := ne_of_none q2 ndq
    have D2d : D2 ≠ dq := (ne_of_none upd_same nD2).symm
    have DD2 : D2 ≠ D := (ne_of_none (sd _ _ q2) nD2).symm
    have s3 : Same H (upd H3 dq (.dK (stB D2 D 0 0))) := fun b u e => by
      have e2 := s2 b u e
      have nb : b ≠ dq := ne_of_none e2 ndq
      rw [upd_ne nb]
      exact z1 _ _ (by rw [upd_ne nb]; exact e2)
    refine k _ dq D2 D s3 (s2.free ndq) (s2.free nD2') nD0 ⟨0, 0, (it.filter fun z => decide (z ≥ 10 ^ 18)), it, upd_same, by rw [upd_ne D2d]; exact z2, by rw [upd_ne Dd]; exact z1 _ _ (sd _ _ q2), DD2, fun z hz => ?_, fun z hz => ?_, ?_, lit, by omega, by omega, by omega⟩
    · rw [eit] at hz
      exact magsB_nn ms z (List.mem_filter.mp hz).1
    · rw [eit] at hz
      exact magsB_nn ms z hz
    · have := List.length_filter_le (fun z : Int => decide (z ≥ 10 ^ 18)) it
      omega
end
end FT


/-! lists of numbers as data -/
namespace FT
open PySem L2 TL ClX LiI
theorem dp_ints {K : PySem.W.Frag} {H : Hp} : ∀ ns : List Int, DpAll K H (ns.map V.int) (ns.map PyData.int)
  | [] => .nil
  | n :: ns => .cons (.int n) (dp_ints ns)
theorem lay_ints : ∀ ns : List Int, PyData.canLayAll0 (ns.map PyData.int) = true ∧ PyData.depthAll (ns.map PyData.int) ≤ 0
  | [] => ⟨rfl, Nat.le_refl _⟩
  | n :: ns => by
    obtain ⟨h1, h2⟩ := lay_ints ns
    constructor
    · show (true && PyData.canLayAll0 (ns.map PyData.int)) = true
      rw [h1] <;> rfl
    · show max 0 (PyData.depthAll (ns.map PyData.int)) ≤ 0
      omega
theorem ints_shaped (ns : List Int) : (PyData.list (ns.map PyData.int)).canLay0 = true ∧ SeqAt.shaped (.list (ns.map PyData.int)) = true := by
  obtain ⟨h1, h2⟩ := lay_ints ns
  have c : (PyData.list (ns.map PyData.int)).canLay0 = true := h1
  refine ⟨c, ?_⟩
  unfold SeqAt.shaped
  rw [c]
  have d : (PyData.list (ns.map PyData.int)).depth ≤ 64 := by
    show PyData.depthAll (ns.map PyData.int) + 1 ≤ 64
    omega
  rw [decide_eq_true d] <;> rfl
end FT


/-! family B: mixed, take, pick -/
namespace FT
open PySem L2 TL ClX LiI
theorem stB_get {H : Hp} {d l i : Addr} {lf tn : Int} (h : H d = some (.dK (stB l i lf tn))) : DGet H d (.str "large") (some (.ref l)) ∧ DGet H d (.str "items") (some (.ref i)) ∧ DGet H d (.str "left") (some (.int lf)) ∧ DGet H d (.str "turn") (some (.int tn)) := by
  refine ⟨?_, ?_, ?_, ?_⟩
  · exact .inl ⟨_, Sum.inr "large", .inl h, rfl, rfl⟩
  · exact .inl ⟨_, Sum.inr "items", .inl h, rfl, rfl⟩
  · exact .inl ⟨_, Sum.inr "left", .inl h, rfl, rfl⟩
  · exact .inl ⟨_, Sum.inr "turn", .inl h, rfl, rfl⟩
theorem stB_left (l i : Addr) (lf tn z : Int) : putK (stB l i lf tn) (Sum.inr "left") (.int z) = stB l i z tn := rfl
theorem stB_turn (l i : Addr) (lf tn z : Int) : putK (stB l i lf tn) (Sum.inr "turn") (.int z) = stB l i lf z := rfl
theorem DrawB.ne {H : Hp} {d l i : Addr} {b : Int} (x : DrawB H d l i b) : l ≠ d ∧ i ≠ d ∧ l ≠ i := by
  obtain ⟨lf, tn, lg, it, a1, a2, a3, a4, _⟩ := x
  exact ⟨ne_of a2 a1 (by intro z; cases z), ne_of a3 a1 (by intro z; cases z), a4⟩
theorem DrawB.ex {H : Hp} {d l i : Addr} {b : Int} (x : DrawB H d l i b) : ∀ y ∈ [d, l], ∃ u, H y = some u := fun y hy => by
  obtain ⟨lf, tn, lg, it, a1, a2, a3, a4, _⟩ := x
  simp only [List.mem_cons, List.not_mem_nil, or_false] at hy
  rcases hy with rfl | rfl
  · exact ⟨_, a1⟩
  · exact ⟨_, a2⟩
/-- a store elsewhere -/
theorem DrawB.off {H : Hp} {d l i p : Addr} {b : Int} {o : HO} (x : DrawB H d l i b) (n1 : p ≠ d) (n2 : p ≠ l) (n3 : p ≠ i) : DrawB (upd H p o) d l i b := by
  obtain ⟨lf, tn, lg, it, a1, a2, a3, r⟩ := x
  exact ⟨lf, tn, lg, it, by rw [upd_ne n1.symm]; exact a1, by rw [upd_ne n2.symm]; exact a2, by rw [upd_ne n3.symm]; exact a3, r⟩
theorem kx_put {d l p : Addr} {H H' : Hp} {o : HO} (k : KeepX [d, l] H H') (n : H p = none) : KeepX [d, l] H (upd H' p o) := fun b u nb e => by
  rw [upd_ne (ne_of_none e n)]
  exact k b u nb e
def spMixedB : Sp := fun vs H Q _ => ∃ (d l i : Addr) (b : Int), vs = [.ref d] ∧ DrawB H d l i b ∧ b ≤ 10 ^ 12 ∧ ∀ (n : Int) (H' : Hp), 0 ≤ n → DrawB H' d l i (b + 1) → KeepX [d, l] H H' → Q (.int n) H'
def spTakeB : Sp := fun vs H Q _ => ∃ (d l i : Addr) (b n : Int), vs = [.ref d, .int n] ∧ DrawB H d l i b ∧ b ≤ 10 ^ 12 ∧ 0 < n ∧ n.natAbs < 2 ^ 200 ∧ ∀ (k : Int) (H' : Hp), 0 ≤ k → k < n → DrawB H' d l i (b + 1) → KeepX [d, l] H H' → Q (.int k) H'
def spPickB : Sp := fun vs H Q _ => ∃ (d l i a : Addr) (b : Int) (xs : List V), vs = [.ref d, .ref a] ∧ DrawB H d l i b ∧ b ≤ 10 ^ 12 ∧ H a = some (.lst xs) ∧ a ≠ l ∧ xs ≠ [] ∧ xs.length ≤ 1000 ∧ ∀ (x : V) (H' : Hp), x ∈ xs → DrawB H' d l i (b + 1) → KeepX [d, l] H H' → Q x H'
section
variable {P : Program} {w : World} {K : PySem.W.Frag} {mg : Str → Option Value} {base : Heap}
abbrev NMx : List Str := ["_law_draw", "_law_number", "_law_prime", "_law_part", "_law_item"]
theorem scMx : FnScope NMx ["_law_draw"] (defScope s__law_mixed) := ⟨rfl, rfl, rfl, by decide +kernel, rfl, by decide +kernel, by decide +kernel⟩
theorem ok_mixedB {f : Addr} {fd : FuncData} (F : Fun K "_law_mixed" "_law_mixed" s__law_mixed f fd) : FnOk P w K mg base CX0 1 f fd ["_law_draw"] spMixedB := by
  refine F.ok scMx (fun vs H Q E h => ?_) (fun cdv A outer s H vs Q E hr h => ?_)
  · obtain ⟨d, l, i, b, rfl, _⟩ := h
    rfl
  · obtain ⟨d, l, i, b, rfl, hD, bb, k⟩ := h
    have hu := hu_of hr
    have nd := scMx.nd
    have big : 1000 ≤ sizeLine := by decide
    refine ⟨_, pss_cons (ps_dput hu (pv 0) pe_str (pe_op op_add (pe_dget hu (pv 0) pe_str (fun _ _ => rfl)) pe_int) rfl)
      (pss_cons (ps_set (i := 1) nd rfl (.inl rfl) pe_int)
      (pss_cons (ps_for PassesOwn.never rfl (pi_list (pe_lst (pa_cons pe_int (pa_cons pe_int (pa_cons pe_int (pa_cons pe_int pa_nil)))))) (pg_name (i := 2) nd rfl (.inl rfl))
        (pss_cons (ps_set (i := 3) nd rfl (.inl rfl) (pe_op op_add (pe_op op_mul pe_int (pe_dget hu (pv 0) pe_str (fun _ _ => rfl))) (pe_op op_fdiv (pv 2) pe_int)))
        (pss_cons (ps_for PassesOwn.never rfl (pi_list (pe_dget hu (pv 0) pe_str (fun _ _ => rfl))) (pg_name (i := 4) nd rfl (.inl rfl))
          (pss_one (ps_set (i := 3) nd rfl (.inl rfl) (pe_op op_mod (pe_op op_add (pe_op op_mul (pv 3) pe_int) (pv 4)) (pv 2)))))
        (pss_one (ps_set (i := 1) nd rfl (.inl rfl) (pe_op op_add (pe_op op_mul (pv 1) pe_int) (pe_op op_mod (pe_op op_pow (pv 3) pe_int) (pv 2))))))))
      (pss_one (ps_ret (pv 1))))), ?_⟩
    have hdne := hD.ne
    obtain ⟨lf, tn, lg, it, a1, a2, a3, a4, lg0, it0, lgl, itl, lf0, tn0, tnb⟩ := hD
    obtain ⟨_, _, _, gt⟩ := stB_get a1
    refine ⟨_, rfl, d, _, rfl, gt, _, _, rfl, rfl, _, rfl, d, _, rfl, DPut.k (k := Sum.inr "turn") a1 (by show 4 < sizeLine; omega), ?_⟩
    rw [stB_turn]
    obtain ⟨H1, e1⟩ : ∃ X, X = upd H d (.dK (stB l i lf (tn + 1))) := ⟨_, rfl⟩
    have hd1 : H1 d = some (.dK (stB l i lf (tn + 1))) := by rw [e1]; exact upd_same
    have hl1 : H1 l = some (.lst (lg.map V.int)) := by rw [e1, upd_ne hdne.1]; exact a2
    have hi1 : H1 i = some (.lst (it.map V.int)) := by rw [e1, upd_ne hdne.2.1]; exact a3
    have k1 : KeepX [d, l] H H1 := fun b u nb e => by
      rw [e1, upd_ne fun z => nb (by rw [z]; exact List.mem_cons_self ..)]
      exact e
    obtain ⟨_, gi, _, gt1⟩ := stB_get hd1
    rw [← e1]
    refine ⟨by show 4 ≤ sizeLine; omega, fun pl npl => ⟨pl, rfl, ⟨_, SqL.of upd_same⟩, ?_⟩⟩
    obtain ⟨H2, e2⟩ : ∃ X, X = upd H1 pl (.lst [V.int 2147483629, V.int 2147483587, V.int 2147483579, V.int 2147483563]) := ⟨_, rfl⟩
    have s12 : Same H1 H2 := e2 ▸ same_new npl
    have hpl : H2 pl = some (.lst (([2147483629, 2147483587, 2147483579, 2147483563] : List Int).map V.int)) := by rw [e2]; exact upd_same
    rw [← e2]
    have prb : ∀ p ∈ ([2147483629, 2147483587, 2147483579, 2147483563] : List Int), 2147483563 ≤ p ∧ p ≤ 2147483629 := by decide
    refine for_it walk_list (fun j σ' H' => (∃ (n : Int) (u2 u3 u4 : Option V), σ' = [some (.ref d), some (.int n), u2, u3, u4] ∧ 0 ≤ n) ∧ H' = H2) ⟨⟨0, _, _, _, rfl, Int.le_refl _⟩, rfl⟩ (fun j σ' H' _ z => by rw [z.2]; exact SqL.of hpl) ?_ ?_
    · intro j y σ' Hz Ha hj ⟨⟨n, u2, u3, u4, eσ, n0⟩, eH⟩ ⟨eb, ey⟩
      subst eσ
      subst eb
      obtain ⟨p, hp, rfl⟩ := map_of ey
      obtain ⟨p0, p1⟩ := prb p (List.mem_of_getElem? hp)
      have gt2 : DGet Ha d (.str "turn") (some (.int (tn + 1))) := (stB_get (by rw [eH]; exact s12 _ _ hd1)).2.2.2
      have gi2 : DGet Ha d (.str "items") (some (.ref i)) := (stB_get (by rw [eH]; exact s12 _ _ hd1)).2.1
      have hi2 : Ha i = some (.lst (it.map V.int)) := by rw [eH]; exact s12 _ _ hi1
      have q0 : 0 ≤ p / 13 := Int.ediv_nonneg (by omega) (by decide)
      have q1 : p / 13 ≤ 2147483629 := by omega
      refine ⟨_, rfl, d, _, rfl, gt2, _, _, rfl, rfl, .inl ⟨by decide, by decide⟩, _, rfl, _, _, rfl, rfl, ⟨by decide, by decide⟩, _, _, rfl, rfl, ?_⟩
      obtain ⟨m0, em0⟩ : ∃ m0, m0 = 92821 * (tn + 1) + p / 13 := ⟨_, rfl⟩
      have b0 : 0 ≤ m0 ∧ m0 < 2 ^ 62 := by
        have : (10 : Int) ^ 12 = 1000000000000 := by decide
        have : (2 : Int) ^ 62 = 4611686018427387904 := by decide
        omega
      show gName 3 (V.int (92821 * (tn + 1) + p / 13)) _ _ _
      rw [← em0]
      refine ⟨_, rfl, d, _, rfl, gi2, i, rfl, ⟨_, SqL.of hi2⟩, ?_⟩
      refine for_it walk_list (fun j σ' H' => (∃ (m : Int) (u4 : Option V), σ' = [some (.ref d), some (.int n), some (.int p), some (.int m), u4] ∧ 0 ≤ m ∧ m < 2 ^ 62) ∧ H' = Ha) ⟨⟨m0, _, rfl, b0.1, b0.2⟩, rfl⟩ (fun j σ' H' _ z => by rw [z.2]; exact SqL.of hi2) ?_ ?_
      · intro j2 y2 σ2 Hz Hc hj2 ⟨⟨m, u4', eσ2, ma, mb⟩, eH2⟩ ⟨eb2, ey2⟩
        subst eσ2
        subst eb2
        obtain ⟨c, hc, rfl⟩ := map_of ey2
        refine ⟨_, rfl, _, _, rfl, rfl, .inr ⟨by decide, by decide⟩, _, rfl, _, _, rfl, rfl, _, rfl, _, _, rfl, rfl, (by show (0 : Int) < p; omega), ⟨⟨_, _, rfl, Int.emod_nonneg _ (by omega), ?_⟩, eH2⟩⟩
        have := Int.emod_lt_of_pos (m * 48271 + c) (show 0 < p by omega)
        have e62 : (2 : Int) ^ 62 = 4611686018427387904 := by decide
        omega
      · intro σ2 Hc ⟨⟨m, u4', eσ2, ma, mb⟩, eH2⟩
        subst eσ2
        subst eH2
        refine ⟨_, rfl, _, _, rfl, rfl, .inr ⟨by decide, by decide⟩, _, rfl, _, _, rfl, rfl, ⟨by decide, by decide, ?_⟩, _, rfl, _, _, rfl, rfl, (by show (0 : Int) < p; omega), _, _, rfl, rfl, ⟨⟨_, _, _, _, rfl, ?_⟩, eH⟩⟩
        · have e62 : (2 : Int) ^ 62 = 4611686018427387904 := by decide
          have e64 : (2 : Nat) ^ 64 = 18446744073709551616 := by decide
          omega
        · have := Int.emod_nonneg (m ^ Int.toNat 5) (show p ≠ 0 by omega)
          have : 0 ≤ n * 2147483647 := by omega
          show 0 ≤ n * 2147483647 + m ^ Int.toNat 5 % p
          omega
    · intro σ' H' ⟨⟨n, u2, u3, u4, eσ, n0⟩, eH⟩
      subst eσ
      subst eH
      refine ⟨_, rfl, k n H' n0 ⟨lf, tn + 1, lg, it, s12 _ _ hd1, s12 _ _ hl1, s12 _ _ hi1, a4, lg0, it0, lgl, itl, lf0, by omega, by omega⟩ (k1.trans (.of_same s12))⟩
abbrev NTk : List Str := ["_law_draw", "_law_size", "_law_digit"]
theorem scTk : FnScope NTk ["_law_draw", "_law_size"] (defScope s__law_take) := ⟨rfl, rfl, rfl, by decide +kernel, rfl, by decide +kernel, by decide +kernel⟩
theorem ok_takeB {f fM : Addr} {fd fdM : FuncData} (F : Fun K "_law_take" "_law_take" s__law_take f fd) (DM : Dn P w K mg base CX0 1 "_law_mixed" ["_law_draw"] spMixedB fM fdM) : FnOk P w K mg base CX0 2 f fd ["_law_draw", "_law_size"] spTakeB := by
  refine F.ok scTk (fun vs H Q E h => ?_) (fun cdv A outer s H vs Q E hr h => ?_)
  · obtain ⟨d, l, i, b, n, rfl, _⟩ := h
    rfl
  · obtain ⟨d, l, i, b, n, rfl, hD, bb, n0, n1, k⟩ := h
    have hu := hu_of hr
    have nd := scTk.nd
    have big : 1000 ≤ sizeLine := by decide
    refine ⟨_, pss_cons (ps_if (pt_cmpR op_eq (pe_dget hu (pv 0) pe_str (fun _ _ => rfl)) pe_int (nomark _))
        (pss_one (ps_dput hu (pv 0) pe_str (pe_ifExp (pt_cmpR (op_neD hr.units) (pe_dget hu (pv 0) pe_str (fun _ _ => rfl)) (pe_lst pa_nil) (nomark _)) (pe_bm PySem.F.plainAttrs_list PySem.F.slot_list_pop PySem.F.type_list_pop mt_popAt (pe_dget hu (pv 0) pe_str (fun _ _ => rfl)) (pa_cons pe_int pa_nil)) (pe_call DM.ok hr rfl DM.mgn DM.kp DM.bn .nil pass0 (pa_cons (pv 0) pa_nil))) rfl)) pss_nil)
      (pss_cons (ps_set (i := 2) nd rfl (.inl rfl) (pe_op op_mod (pe_dget hu (pv 0) pe_str (fun _ _ => rfl)) (pv 1)))
      (pss_cons (ps_dput hu (pv 0) pe_str (pe_op op_fdivW (pe_dget hu (pv 0) pe_str (fun _ _ => rfl)) (pv 1)) rfl)
      (pss_one (ps_ret (pv 2))))), ?_⟩
    have hD0 := hD
    have hdne := hD.ne
    obtain ⟨lf, tn, lg, it, a1, a2, a3, a4, lg0, it0, lgl, itl, lf0, tn0, tnb⟩ := hD
    -- from the left part on
    have rest : ∀ (H1 : Hp), DrawB H1 d l i (b + 1) → KeepX [d, l] H H1 → (tSeq (tAsg (tOp (rI (fun _ j => 0 < j) fun i j => .int (i % j)) (tDGet (tVar 0) (tC (.str "left"))) (tVar 1)) (gName 2)) (tSeq (sDPut (tVar 0) (tC (.str "left")) (tOp (rI CDivW fun i j => .int (i / j)) (tDGet (tVar 0) (tC (.str "left"))) (tVar 1))) (tRet (tVar 2)))) { nx := fun _ H' => Q .non H', rt := Q } [some (.ref d), some (.int n), none] H1 := by
      intro H1 hD1 k1
      obtain ⟨lf, tn, lg, it, a1, a2, a3, a4, lg0, it0, lgl, itl, lf0, tn0, tnb⟩ := hD1
      have gl := (stB_get a1).2.2.1
      refine ⟨_, rfl, d, _, rfl, gl, _, rfl, _, _, rfl, rfl, n0, ?_⟩
      refine ⟨_, rfl, d, _, rfl, gl, _, rfl, _, _, rfl, rfl, wide_div n0 n1 (by decide) (by decide), _, rfl, d, _, rfl, DPut.k (k := Sum.inr "left") a1 (by show 4 < sizeLine; omega), ?_⟩
      rw [stB_left]
      refine ⟨_, rfl, k (lf % n) _ (Int.emod_nonneg _ (by omega)) (Int.emod_lt_of_pos _ n0) ⟨lf / n, tn, lg, it, upd_same, by rw [upd_ne hdne.1]; exact a2, by rw [upd_ne hdne.2.1]; exact a3, a4, lg0, it0, lgl, itl, Int.ediv_nonneg lf0 (by omega), tn0, tnb⟩ fun b u nb e => ?_⟩
      rw [upd_ne fun z => nb (by rw [z]; exact List.mem_cons_self ..)]
      exact k1 b u nb e
    have g := stB_get a1
    refine ⟨_, rfl, d, _, rfl, g.2.2.1, rfl, _, rfl, ?_⟩
    refine ite2 (fun _ => ?_) (fun _ => rest H (hD0.more (by omega)) fun _ _ _ e => e)
    refine ⟨_, rfl, d, _, rfl, g.1, by show 0 ≤ sizeLine; omega, fun e ne => ⟨_, _, .lst (SqL.of (by rw [upd_ne (ne_of_none a2 ne)]; exact a2)) (dp_ints lg), .lst (SqL.of upd_same) .nil, (ints_shaped lg).2, rfl, ?_⟩⟩
    obtain ⟨H2, e2⟩ : ∃ X, X = upd H e (.lst []) := ⟨_, rfl⟩
    have s2 : Same H H2 := e2 ▸ same_new ne
    have kx2 : KeepX [d, l] H H2 := .of_same s2
    have g2 := stB_get (s2 _ _ a1)
    rw [← e2]
    refine ⟨_, rfl, ite2 (fun t => ?_) (fun t => ?_)⟩
    · cases lg with
      | nil => cases t
      | cons z lg =>
        obtain ⟨sx, _, _, _⟩ := ixN_seq (ixN_nat (n := ((z :: lg).map V.int).length) (j := 0) (by rw [List.length_map, List.length_cons]; omega))
        refine ⟨_, rfl, d, _, rfl, g2.1, .inl ⟨rfl, _, SqL.of (s2 _ _ a2)⟩, l, _, 0, 0, _, rfl, rfl, s2 _ _ a2, by decide, by decide, sx, rfl, ?_⟩
        have hd3 : (upd H2 l (.lst (((z :: lg).map V.int).eraseIdx 0))) d = some (.dK (stB l i lf tn)) := by rw [upd_ne hdne.1.symm]; exact s2 _ _ a1
        refine ⟨_, rfl, d, _, rfl, DPut.k (k := Sum.inr "left") hd3 (by show 4 < sizeLine; omega), ?_⟩
        rw [stB_left]
        refine rest _ ⟨z, tn, lg, it, upd_same, by rw [upd_ne hdne.1, upd_same] <;> rfl, by rw [upd_ne hdne.2.1, upd_ne a4.symm]; exact s2 _ _ a3, a4, fun y hy => lg0 y (List.mem_cons_of_mem _ hy), it0, by rw [List.length_cons] at lgl; omega, itl, lg0 z (List.mem_cons_self ..), tn0, by omega⟩ fun b u nb e => ?_
        rw [upd_ne fun w => nb (by rw [w]; exact List.mem_cons_self ..), upd_ne fun w => nb (by rw [w]; simp)]
        exact s2 _ _ e
    · refine ⟨_, rfl, d, l, i, b, rfl, hD0.mono s2, bb, fun n' H3 n0' hD3 k3 => ?_⟩
      have hD3' := hD3
      obtain ⟨lf', tn', lg', it', c1, c2, c3, c4, c5, c6, c7, c8, c9, c10, c11⟩ := hD3
      refine ⟨_, rfl, d, _, rfl, DPut.k (k := Sum.inr "left") c1 (by show 4 < sizeLine; omega), ?_⟩
      rw [stB_left]
      refine rest _ ⟨n', tn', lg', it', upd_same, by rw [upd_ne hdne.1]; exact c2, by rw [upd_ne hdne.2.1]; exact c3, c4, c5, c6, c7, c8, n0', c10, c11⟩ fun b u nb e => ?_
      rw [upd_ne fun w => nb (by rw [w]; exact List.mem_cons_self ..)]
      exact k3 b u nb (s2 _ _ e)
abbrev NPk : List Str := ["_law_draw", "_law_some"]
theorem scPk : FnScope NPk ["_law_draw", "_law_some"] (defScope s__law_pick) := ⟨rfl, rfl, rfl, by decide +kernel, rfl, by decide +kernel, by decide +kernel⟩
theorem ok_pickB {f fT : Addr} {fd fdT : FuncData} (F : Fun K "_law_pick" "_law_pick" s__law_pick f fd) (T : Nm mg) (DT : Dn P w K mg base CX0 2 "_law_take" ["_law_draw", "_law_size"] spTakeB fT fdT) : FnOk P w K mg base CX0 3 f fd ["_law_draw", "_law_some"] spPickB := by
  refine F.ok scPk (fun vs H Q E h => ?_) (fun cdv A outer s H vs Q E hr h => ?_)
  · obtain ⟨d, l, i, a, b, xs, rfl, _⟩ := h
    rfl
  · obtain ⟨d, l, i, a, b, xs, rfl, hD, bb, ha, al, ne, few, k⟩ := h
    refine ⟨_, pss_one (ps_ret (pe_ix ix_list (pv 1) (pe_call DT.ok hr rfl DT.mgn DT.kp DT.bn .nil pass0 (pa_cons (pv 0) (pa_cons (pe_callB call_len_seq (by rfl) T.len PySem.boot_len (pa_cons (pv 1) pa_nil)) pa_nil))) (fun _ _ => rfl))), ?_⟩
    have ad : a ≠ d := by
      obtain ⟨lf, tn, lg, it, a1, _⟩ := hD
      exact ne_of ha a1 (by intro z; cases z)
    have l0 := List.length_pos_iff.mpr ne
    refine ⟨_, rfl, _, rfl, _, rfl, a, _, rfl, .inl (SqL.of ha), d, l, i, b, _, rfl, hD, bb, by omega, ?_, fun j H' j0 j1 hD' kx => ?_⟩
    · rw [Int.natAbs_natCast]
      exact Nat.lt_of_le_of_lt few (by decide)
    · have hj : j.toNat < xs.length := by omega
      have e : xs[j.toNat]? = some xs[j.toNat] := List.getElem?_eq_getElem hj
      have e2 := atI_nat e
      rw [show ((j.toNat : Nat) : Int) = j by omega] at e2
      exact ⟨a, xs, j, _, rfl, rfl, SqL.of (kx a _ (by simp [ad, al]) ha), e2, k _ H' (List.getElem_mem hj) hD' kx⟩
end
end FT


/-! family B: the drawn forest -/
namespace FT
open PySem L2 TL ClX LiI
/-- parents stand ahead of their children -/
def Ahead (t : List (Str × Str)) : Prop := ∀ (i : Nat) (p : Str × Str), t[i]? = some p → p.2 = "" ∨ p.2 ∈ (t.map Prod.fst).take i
def poolB : List Str := ["a", "b", "c", "ab", "new", "old", "pay", "root", "none", "x", "zzzzzzzz", "mid", "aa"]
theorem poolB_ok : (∀ z ∈ poolB, NameL z) ∧ poolB.Nodup := by decide +kernel
theorem DrawB.own {H : Hp} {d l i p : Addr} {b : Int} {u : HO} (x : DrawB H d l i b) (n : H p = none) : p ≠ d ∧ p ≠ l ∧ p ≠ i := x.apart n
theorem kx_at {d l p : Addr} {H H' : Hp} {u : HO} (k : KeepX [d, l] H H') (e : H p = some u) (n1 : p ≠ d) (n2 : p ≠ l) : H' p = some u := k p u (by simp [n1, n2]) e
theorem KeepX.trans' {Ex : List Addr} {H H1 H2 : Hp} (a : KeepX Ex H H1) (b : KeepX Ex H1 H2) : KeepX Ex H H2 := fun x u n e => b x u n (a x u n e)
theorem rep_strs (n : Nat) (a : Str) : (List.replicate n [V.str a]).flatten = (List.replicate n a).map V.str := by
  rw [List.map_replicate]
  induction n with
  | zero => rfl
  | succ n ih => rw [List.replicate_succ, List.flatten_cons, ih, List.replicate_succ] <;> rfl
theorem prs_kV (t : List (Str × Str)) : (prs t).map (fun kv => kV kv.1) = (t.map Prod.fst).map V.str := by
  unfold prs kvT
  rw [List.map_map, List.map_map, List.map_map] <;> rfl
def spForB : Sp := fun vs H Q _ => ∃ (d l i : Addr) (b mo : Int), vs = [.ref d, .int mo] ∧ 1 ≤ mo ∧ mo ≤ 12 ∧ DrawB H d l i b ∧ b + 100 ≤ 10 ^ 12 ∧
  ∀ (q : Addr) (t : List (Str × Str)) (H' : Hp), TreeOk t → Ahead t → H q = none → H' q = some (.dK (prs t)) → DrawB H' d l i (b + 100) → KeepX [d, l] H H' → Q (.ref q) H'
section
variable {P : Program} {w : World} {K : PySem.W.Frag} {mg : Str → Option Value} {base : Heap}
abbrev NFo : List Str := ["_law_draw", "_law_most", "_law_pool", "_law_parents", "_law_k", "_law_name"]
theorem scFo : FnScope NFo ["_law_draw", "_law_most"] (defScope s__law_forest) := ⟨rfl, rfl, rfl, by decide +kernel, rfl, by decide +kernel, by decide +kernel⟩
theorem ok_forestB {f fT fP : Addr} {fd fdT fdP : FuncData} (F : Fun K "_law_forest" "_law_forest" s__law_forest f fd) (T : Nm mg) (DT : Dn P w K mg base CX0 2 "_law_take" ["_law_draw", "_law_size"] spTakeB fT fdT) (DP : Dn P w K mg base CX0 3 "_law_pick" ["_law_draw", "_law_some"] spPickB fP fdP) : FnOk P w K mg base CX0 4 f fd ["_law_draw", "_law_most"] spForB := by
  refine F.ok scFo (fun vs H Q E h => ?_) (fun cdv A outer s H vs Q E hr h => ?_)
  · obtain ⟨d, l, i, b, mo, rfl, _⟩ := h
    rfl
  · obtain ⟨d, l, i, b, mo, rfl, mo1, mo12, hD, bb, k⟩ := h
    have hu := hu_of hr
    have hr2 : Room 2 _ := hr.mono (by decide)
    have nd := scFo.nd
    have big : 1000 ≤ sizeLine := by decide
    refine ⟨_, pss_cons (ps_set (i := 2) nd rfl (.inl rfl) (pe_lst (pa_cons pe_str (pa_cons pe_str (pa_cons pe_str (pa_cons pe_str (pa_cons pe_str (pa_cons pe_str (pa_cons pe_str (pa_cons pe_str (pa_cons pe_str (pa_cons pe_str (pa_cons pe_str (pa_cons pe_str (pa_cons pe_str pa_nil)))))))))))))))
      (pss_cons (ps_set (i := 3) nd rfl (.inl rfl) pe_dnewK)
      (pss_cons (ps_for PassesOwn.never rfl (pi_range1 (by rfl) T.rng (pa_cons (pe_op op_add pe_int (pe_call DT.ok hr2 rfl DT.mgn DT.kp DT.bn .nil pass0 (pa_cons (pv 0) (pa_cons (pv 1) pa_nil)))) pa_nil)) (pg_name (i := 4) nd rfl (.inl rfl))
        (pss_cons (ps_set (i := 5) nd rfl (.inl rfl) (pe_bm PySem.F.plainAttrs_list PySem.F.slot_list_pop PySem.F.type_list_pop mt_popAt (pv 2) (pa_cons (pe_call DT.ok hr2 rfl DT.mgn DT.kp DT.bn .nil pass0 (pa_cons (pv 0) (pa_cons (pe_callB call_len_seq (by rfl) T.len PySem.boot_len (pa_cons (pv 2) pa_nil)) pa_nil))) pa_nil)))
        (pss_one (ps_dput hu (pv 3) (pv 5) (pe_call DP.ok hr rfl DP.mgn DP.kp DP.bn .nil pass0 (pa_cons (pv 0) (pa_cons (pe_op op_cat (pe_op op_rep (pe_lst (pa_cons pe_str pa_nil)) (pe_call DP.ok hr rfl DP.mgn DP.kp DP.bn .nil pass0 (pa_cons (pv 0) (pa_cons (pe_lst (pa_cons pe_int (pa_cons pe_int (pa_cons pe_int pa_nil)))) pa_nil))))
            (pe_callTy (call_listD rfl) (by rfl) T.lst (by decide +kernel) (pa_cons (pv 3) pa_nil))) pa_nil))) rfl))))
      (pss_one (ps_ret (pv 3))))), ?_⟩
    refine ⟨by show 13 ≤ sizeLine; omega, fun p np => ?_⟩
    have s1 := same_new (o := .lst (poolB.map V.str)) np
    have pd := hD.apart np
    refine fun q nq => ?_
    show tSeq _ _ _ [some (.ref d), some (.int mo), some (.ref p), some (.ref q), none, none] (upd (upd H p (.lst (poolB.map V.str))) q (.dK []))
    have s2 : Same H (upd (upd H p (.lst (poolB.map V.str))) q (.dK [])) := s1.trans (same_new nq)
    have q0 : H q = none := s1.free nq
    have qd := hD.apart q0
    have qp : p ≠ q := ne_of_none upd_same nq
    obtain ⟨H1, e1⟩ : ∃ X, X = upd (upd H p (.lst (poolB.map V.str))) q (.dK []) := ⟨_, rfl⟩
    have hp1 : H1 p = some (.lst (poolB.map V.str)) := by rw [e1, upd_ne qp, upd_same]
    have hq1 : H1 q = some (.dK []) := by rw [e1, upd_same]
    rw [← e1] at s2 ⊢
    refine ⟨_, rfl, _, rfl, d, l, i, b, mo, rfl, hD.mono s2, by omega, by omega, by omega, fun c H2 c0 c1 hD2 k2 => ?_⟩
    refine ⟨_, _, rfl, rfl, 1 + c, rfl, by omega, by omega, ?_⟩
    have lc : (1 + c).toNat ≤ 12 := by omega
    have lc1 : 1 ≤ (1 + c).toNat := by omega
    refine for_it walk_range (fun j σ' H' => (∃ u4 u5, σ' = [some (.ref d), some (.int mo), some (.ref p), some (.ref q), u4, u5]) ∧ DrawB H' d l i (b + 1 + 3 * (j : Int)) ∧ KeepX [d, l] H H' ∧
      ∃ (pool : List Str) (t : List (Str × Str)), H' p = some (.lst (pool.map V.str)) ∧ pool.length + j = 13 ∧ pool.Nodup ∧ (∀ z ∈ pool, NameL z) ∧ H' q = some (.dK (prs t)) ∧ t.length = j ∧ (t.map Prod.fst).Nodup ∧ (∀ z ∈ t.map Prod.fst, NameL z ∧ z ∉ pool) ∧ Ahead t)
      ⟨⟨_, _, rfl⟩, hD2.more (by omega), (KeepX.of_same s2).trans' k2, poolB, [], kx_at k2 hp1 pd.1 pd.2.1, rfl, poolB_ok.2, poolB_ok.1, kx_at k2 hq1 qd.1 qd.2.1, rfl, List.nodup_nil, fun z h => (by cases h), fun i p h => (by simp at h)⟩ (fun _ _ _ _ _ => trivial) ?_ ?_
    · intro j y σ' Hz Ha hj ⟨⟨u4, u5, eσ⟩, da, ka, pool, t, hp, pl, pnd, pok, hq, tl, tnd, tok, ah⟩ ⟨eb, ey⟩
      subst eσ
      subst eb
      subst ey
      refine ⟨_, rfl, .inl ⟨rfl, _, SqL.of hp⟩, _, rfl, _, rfl, p, _, rfl, .inl (SqL.of hp), d, l, i, _, _, rfl, da, by omega, ?_, ?_, fun z H3 z0 z1 hD3 k3 => ?_⟩
      · rw [List.length_map]
        omega
      · rw [List.length_map, Int.natAbs_natCast]
        exact Nat.lt_of_le_of_lt (show pool.length ≤ 1000 by omega) (by decide)
      · rw [List.length_map] at z1
        have zj : z.toNat < pool.length := by omega
        obtain ⟨sx, _, _, _⟩ := ixN_seq (ixN_nat (n := (pool.map V.str).length) (j := z.toNat) (by rw [List.length_map]; exact zj))
        rw [show ((z.toNat : Nat) : Int) = z by omega] at sx
        have pn := pd
        have hp3 := kx_at k3 hp pd.1 pd.2.1
        have hq3 := kx_at k3 hq qd.1 qd.2.1
        have em : (pool.map V.str)[z.toNat]? = some (V.str pool[z.toNat]) := by rw [List.getElem?_map, List.getElem?_eq_getElem zj] <;> rfl
        obtain ⟨f, ef⟩ : ∃ f, f = pool[z.toNat] := ⟨_, rfl⟩
        rw [← ef] at em
        have pm := erase_perm pool z.toNat zj
        rw [← ef] at pm
        obtain ⟨fn, nd2⟩ := List.nodup_cons.mp (pm.nodup_iff.mpr pnd)
        have fp : f ∈ pool := pm.mem_iff.mp (List.mem_cons_self ..)
        have sub : ∀ z' ∈ pool.eraseIdx z.toNat, z' ∈ pool := fun z' h => pm.mem_iff.mp (List.mem_cons_of_mem _ h)
        have le := pm.length_eq
        rw [List.length_cons] at le
        refine ⟨p, _, z, _, _, rfl, rfl, hp3, by omega, by omega, sx, em, ?_⟩
        rw [map_erase]
        obtain ⟨H4, e4⟩ : ∃ X, X = upd H3 p (.lst ((pool.eraseIdx z.toNat).map V.str)) := ⟨_, rfl⟩
        have np0 : H p = none := np
        have hD4 : DrawB H4 d l i (b + 1 + 3 * (j : Int) + 1) := by rw [e4]; exact hD3.off pd.1 pd.2.1 pd.2.2
        have k4 : KeepX [d, l] H H4 := by rw [e4]; exact kx_put (ka.trans' k3) np0
        have hp4 : H4 p = some (.lst ((pool.eraseIdx z.toNat).map V.str)) := by rw [e4, upd_same]
        have hq4 : H4 q = some (.dK (prs t)) := by rw [e4, upd_ne qp.symm]; exact hq3
        rw [← e4]
        have fresh : f ∉ t.map Prod.fst := fun h => (tok f h).2 fp
        -- the drawn parent
        refine ⟨_, rfl, by show 1 ≤ sizeLine; omega, fun p1 m1 => ?_⟩
        refine ⟨_, rfl, by show 3 ≤ sizeLine; omega, fun p2 m2 => ?_⟩
        obtain ⟨H5, e5⟩ : ∃ X, X = upd (upd H4 p1 (.lst [.str ""])) p2 (.lst (([1, 1, 4] : List Int).map V.int)) := ⟨_, rfl⟩
        have s5 : Same H4 H5 := e5 ▸ (same_new m1).trans (same_new m2)
        have p1d := hD4.apart m1
        have p2d := (hD4.mono (same_new m1)).apart m2
        have hp1 : H5 p1 = some (.lst [.str ""]) := by rw [e5]; exact same_new m2 _ _ upd_same
        have hp2 : H5 p2 = some (.lst (([1, 1, 4] : List Int).map V.int)) := by rw [e5, upd_same]
        subst e5
        refine ⟨d, l, i, p2, _, _, rfl, hD4.mono s5, by omega, hp2, p2d.2.1, (fun z => by cases z), by decide, fun x H6 xm hD6 k6 => ?_⟩
        obtain ⟨c', hc, rfl⟩ := List.mem_map.mp xm
        have cb : 0 ≤ c' ∧ c' ≤ 4 := by
          have : ∀ c' ∈ ([1, 1, 4] : List Int), 0 ≤ c' ∧ c' ≤ 4 := by decide
          exact this c' hc
        refine ⟨p1, c', _, rfl, rfl, kx_at k6 hp1 p1d.1 p1d.2.1, by omega, by omega, ?_, fun p3 m3 => ?_⟩
        · show 1 * c'.toNat ≤ sizeLine
          omega
        rw [rep_strs]
        have hq6 := kx_at k6 (s5 _ _ hq4) qd.1 qd.2.1
        have n3 := same_new (o := .lst ((List.replicate c'.toNat ("" : Str)).map V.str)) m3
        refine ⟨_, rfl, q, prs t, rfl, .inl (n3 _ _ hq6), fun p4 m4 => ?_⟩
        rw [prs_kV]
        have n4 := same_new (o := .lst ((t.map Prod.fst).map V.str)) m4
        refine ⟨p3, p4, _, _, rfl, rfl, n4 _ _ upd_same, upd_same, ?_, fun p5 m5 => ?_⟩
        · rw [List.length_map, List.length_map, List.length_map, List.length_replicate]
          omega
        rw [← List.map_append]
        obtain ⟨ws, ews⟩ : ∃ ws, ws = List.replicate c'.toNat ("" : Str) ++ t.map Prod.fst := ⟨_, rfl⟩
        rw [← ews]
        have n5 := same_new (o := .lst (ws.map V.str)) m5
        obtain ⟨H7, e7⟩ : ∃ X, X = upd (upd (upd H6 p3 (.lst ((List.replicate c'.toNat ("" : Str)).map V.str))) p4 (.lst ((t.map Prod.fst).map V.str))) p5 (.lst (ws.map V.str)) := ⟨_, rfl⟩
        have s7 : Same H6 H7 := e7 ▸ (n3.trans n4).trans n5
        have p5d := ((hD6.mono n3).mono n4).apart m5
        have hp5 : H7 p5 = some (.lst (ws.map V.str)) := by rw [e7, upd_same]
        rw [← e7]
        refine ⟨d, l, i, p5, _, _, rfl, hD6.mono s7, by omega, hp5, p5d.2.1, ?_, ?_, fun x H8 xm hD8 k8 => ?_⟩
        · intro e
          have e := congrArg List.length e
          rw [ews, List.length_map, List.length_append, List.length_replicate] at e
          have c1 : 1 ≤ c' := by
            have : ∀ c' ∈ ([1, 1, 4] : List Int), 1 ≤ c' := by decide
            exact this c' hc
          have e : c'.toNat + (t.map Prod.fst).length = 0 := e
          omega
        · rw [ews, List.length_map, List.length_append, List.length_replicate, List.length_map]
          omega
        obtain ⟨g, hg, rfl⟩ := List.mem_map.mp xm
        have hq8 := kx_at k8 (s7 _ _ hq6) qd.1 qd.2.1
        refine ⟨_, rfl, _, rfl, q, _, rfl, DPut.k (k := Sum.inr f) hq8 (by rw [prs_len]; omega), ?_⟩
        rw [put_new fresh]
        have gg : g = "" ∨ g ∈ t.map Prod.fst := by
          rw [ews] at hg
          rcases List.mem_append.mp hg with h | h
          · exact .inl (List.eq_of_mem_replicate h)
          · exact .inr h
        have k8' : KeepX [d, l] H H8 := ((k4.trans' (.of_same s5)).trans' k6).trans' ((KeepX.of_same s7).trans' k8)
        have hp8 := kx_at k8 (s7 _ _ (kx_at k6 (s5 _ _ hp4) pd.1 pd.2.1)) pd.1 pd.2.1
        refine ⟨⟨_, _, rfl⟩, (hD8.off qd.1 qd.2.1 qd.2.2).more (by omega), kx_put k8' q0, pool.eraseIdx z.toNat, t ++ [(f, g)], by rw [upd_ne qp]; exact hp8, by omega, nd2, fun z' h => pok z' (sub z' h), upd_same, by rw [List.length_append, tl] <;> rfl, ?_, ?_, ?_⟩
        · rw [List.map_append]
          refine List.nodup_append.mpr ⟨tnd, by show [f].Nodup; simp, fun a ha b hb => ?_⟩
          rw [List.mem_singleton.mp (show b ∈ [f] from hb)]
          exact fun e => fresh (e ▸ ha)
        · intro z' h
          rw [List.map_append] at h
          rcases List.mem_append.mp h with h | h
          · exact ⟨(tok z' h).1, fun m => (tok z' h).2 (sub z' m)⟩
          · rw [List.mem_singleton.mp (show z' ∈ [f] from h)]
            exact ⟨pok f fp, fn⟩
        · intro i p h
          rw [List.map_append]
          by_cases hi : i < t.length
          · rw [List.getElem?_append_left hi] at h
            rw [List.take_append_of_le_length (by rw [List.length_map]; omega)]
            exact ah i p h
          · have hl := (List.getElem?_eq_some_iff.mp h).1
            rw [List.length_append] at hl
            have one : ([(f, g)] : List (Str × Str)).length = 1 := rfl
            have ei : i = t.length := by omega
            subst ei
            rw [List.getElem?_append_right (Nat.le_refl _), Nat.sub_self] at h
            have ep : (f, g) = p := Option.some.inj h
            subst ep
            rw [List.take_append_of_le_length (by rw [List.length_map]; omega), List.take_of_length_le (by rw [List.length_map]; omega)]
            exact gg
    · intro σ' H3 ⟨⟨u4, u5, eσ⟩, da, ka, pool, t, hp, pl, pnd, pok, hq, tl, tnd, tok, ah⟩
      subst eσ
      refine ⟨_, rfl, k q t H3 (tree_of (by omega) (by omega) tnd (fun z h => (tok z h).1) ah) ah q0 hq (da.more (by omega)) ka⟩
end
end FT


/-! family B: sizes that are drawn -/
namespace FT
open PySem L2 TL ClX LiI
def spSizesB : Sp := fun vs H Q _ => ∃ (d l i q : Addr) (b n : Int) (t : List (Str × Str)), vs = [.ref d, .ref q, .int n] ∧ DrawB H d l i b ∧ b + 100 ≤ 10 ^ 12 ∧ H q = some (.dK (prs t)) ∧ TreeOk t ∧ Ahead t ∧ 0 ≤ n ∧ n ≤ 60 ∧
  ∀ (p : Addr) (sz : Str → Int) (H' : Hp), Fea t n sz → H p = none → H' p = some (.dK (tblI (t.map Prod.fst) sz)) → DrawB H' d l i (b + 100) → KeepX [d, l] H H' → Q (.ref p) H'
theorem DrawB.off_prs {H : Hp} {d l i q : Addr} {b : Int} {t : List (Str × Str)} (x : DrawB H d l i b) (hq : H q = some (.dK (prs t))) : q ≠ d ∧ q ≠ l ∧ q ≠ i := by
  obtain ⟨lf, tn, lg, it, a1, a2, a3, _⟩ := x
  refine ⟨ne_of hq a1 fun z => ?_, ne_of hq a2 (by intro z; cases z), ne_of hq a3 (by intro z; cases z)⟩
  have z := congrArg List.head? (HO.dK.inj z)
  cases t with
  | nil => cases z
  | cons y t =>
    have z := congrArg Prod.snd (Option.some.inj z)
    cases z
section
variable {P : Program} {w : World} {K : PySem.W.Frag} {mg : Str → Option Value} {base : Heap}
abbrev NSb : List Str := ["_law_draw", "_law_parents", "_law_folk", "_law_wide", "_law_left", "_law_name", "_law_above", "_law_size"]
end
end FT


/-! plain: pairs in order and turned about -/
namespace FT
open PySem L2 TL ClX LiI
theorem pair_app {α β : Type} {F : α → β → Prop} : ∀ {xs xs' : List α} {ys ys' : List β}, Paired F xs ys → Paired F xs' ys' → Paired F (xs ++ xs') (ys ++ ys')
  | _, _, _, _, .nil, q => q
  | _, _, _, _, .cons h t, q => .cons h (pair_app t q)
theorem pair_rev {α β : Type} {F : α → β → Prop} : ∀ {xs : List α} {ys : List β}, Paired F xs ys → Paired F xs.reverse ys.reverse
  | _, _, .nil => .nil
  | _, _, .cons h t => by
    rw [List.reverse_cons, List.reverse_cons]
    exact pair_app (pair_rev t) (.cons h .nil)
theorem pair_imp {α β : Type} {F G : α → β → Prop} (m : ∀ x y, F x y → G x y) : ∀ {xs : List α} {ys : List β}, Paired F xs ys → Paired G xs ys
  | _, _, .nil => .nil
  | _, _, .cons h t => .cons (m _ _ h) (pair_imp m t)
def spFlip : Sp := fun vs H Q _ => ∃ (q : Addr) (l : List Str) (s : Str → Int), vs = [.ref q] ∧ H q = some (.dK (tblI l s)) ∧ l.Nodup ∧ l.length ≤ 64 ∧ ∀ (p : Addr) (H' : Hp), Same H H' → H p = none → H' p = some (.dK (tblI l.reverse s)) → Q (.ref p) H'
end FT


/-! Own: repr of data with dicts anywhere (lists of dicts, dicts of lists) -/
namespace L2
open PySem PySem.Spec PyProof.Rows
mutual
/-- data, dicts among it -/
inductive DR (K : PySem.W.Frag) (H : Hp) : V → PyData → Prop
  | dat {x : V} {d : PyData} : Dp K H x d → d.hasDict = false → DR K H x d
  | dict {a : Addr} {es : List EntD} : H a = some (.dK (es.map fun e => (e.1, e.2.1))) → DRE K H es → DR K H (.ref a) (dcD es)
  | list {a : Addr} {xs : List V} {ds : List PyData} : SqL K H a xs → DRA K H xs ds → DR K H (.ref a) (.list ds)
  | tup {a : Addr} {xs : List V} {ds : List PyData} : SqT K H a xs → DRA K H xs ds → DR K H (.ref a) (.tuple ds)
inductive DRA (K : PySem.W.Frag) (H : Hp) : List V → List PyData → Prop
  | nil : DRA K H [] []
  | cons {x : V} {d : PyData} {xs : List V} {ds : List PyData} : DR K H x d → DRA K H xs ds → DRA K H (x :: xs) (d :: ds)
inductive DRE (K : PySem.W.Frag) (H : Hp) : List EntD → Prop
  | nil : DRE K H []
  | cons {k : Key} {v : V} {d : PyData} {es : List EntD} : DR K H v d → DRE K H es → DRE K H ((k, v, d) :: es)
end
section
variable {X : Cx} {pins : List (Addr × Obj)} {σ : St} {H : Hp} {s : Shared}
theorem keys_rd : ∀ {es : List EntD} {ds : List DictEntry} {vs : List (Key × Value)}, Pairs (mixKind X.prog X.w) ds vs → KV (es.map fun e => (e.1, e.2.1)) vs → (∃ as, ReadsAll s.heap (ds.map (·.key)) ((es.map fun e => (kD e.1, e.2.2)).map (·.1)) as) ∧ PyData.hasDictAll ((es.map fun e => (kD e.1, e.2.2)).map (·.1)) = false
  | [], ds, vs, p, kv => by
    cases kv
    cases p
    exact ⟨⟨_, .nil⟩, rfl⟩
  | e :: es, ds, vs, p, kv => by
    cases kv with
    | cons hq kv =>
      cases p with
      | cons pk pv p =>
        obtain ⟨⟨as, r1⟩, n1⟩ := keys_rd p kv
        obtain ⟨k, v, d⟩ := e
        obtain ⟨e1, _⟩ := hq
        have e1 : k = _ := e1
        subst e1
        rcases keyIs_shape pk with ⟨i, t, ek, ev⟩ | ⟨x, t, ek, ev⟩
        · refine ⟨?_, ?_⟩
          · rw [List.map_cons, ev]
            exact ⟨_, .cons (by show Reads _ _ (kD _) _; rw [ek]; exact .int i t) r1⟩
          · show (PyData.hasDict (kD _) || PyData.hasDictAll _) = false
            rw [n1, ek] <;> rfl
        · refine ⟨?_, ?_⟩
          · rw [List.map_cons, ev]
            exact ⟨_, .cons (by show Reads _ _ (kD _) _; rw [ek]; exact .str x t) r1⟩
          · show (PyData.hasDict (kD _) || PyData.hasDictAll _) = false
            rw [n1, ek] <;> rfl
mutual
theorem DR.rk (I : Inv X pins σ H s) : ∀ {x : V} {d : PyData}, DR X.K H x d → ∀ {u : Value}, RelV x u → d.showable = true → d.shown.length ≤ sizeLine →
    ∃ as bs, Reads s.heap u d as ∧ ReadAtMost s.heap d.depth bs ∧ ReprK X.prog X.w bs s.heap d.depth u d.shown
  | _, d, .dat h nd, u, r, ok, few => by
    obtain ⟨as, q⟩ := Dp.reads I d _ u h r
    obtain ⟨bs, h1, h2⟩ := ReprK.of_reads (prog := X.prog) (w := X.w) q ok (PyData.noDict_hsm nd) few
    exact ⟨as, bs, q, h1, h2⟩
  | _, _, .dict (a := a) (es := es) ha he, u, r, ok, few => by
    obtain rfl : u = Value.ref a := r
    obtain ⟨_, ns, vs, kv, o, ds, ep, h1, h2, h3, _, h4, _⟩ := (show ObjOk X.prog X.w H s.heap a (.dK (es.map fun e => (e.1, e.2.1))) from I.hok a _ ha)
    have few' : (dictText (PyData.shownKv (es.map fun e => (kD e.1, e.2.2)))).length ≤ sizeLine := by simpa only [PyData.shown] using few
    obtain ⟨ok1, ok2⟩ := PyData.showableKv_split (es.map fun e => (kD e.1, e.2.2)) (by simpa [PyData.showable] using ok)
    obtain ⟨⟨as, r1⟩, n1⟩ := keys_rd (s := s) h4 kv
    obtain ⟨b1, m1, k1⟩ := ReprAllK.of_readsAll (prog := X.prog) (w := X.w) r1 ok1 (fun z => by rw [n1] at z; cases z) fun t ht => let ⟨p, hp, hl⟩ := PyData.shownKv_key_le _ t ht; Nat.le_trans hl (Nat.le_trans (dictText_mem_le hp) few')
    obtain ⟨cs, b2, r2, m2, k2⟩ := DRE.rk I he h4 kv ok2 fun t ht => let ⟨p, hp, hl⟩ := PyData.shownKv_val_le _ t ht; Nat.le_trans hl (Nat.le_trans (dictText_mem_le hp) few')
    have rd : Reads s.heap (.ref a) (dcD es) _ := .dict h1 h2.1 h3 r1 r2
    have hb : ReadAtMost s.heap (PyData.depthKv (es.map fun e => (kD e.1, e.2.2))) (b1 ++ b2) := (m1.mono (PyData.depthAll_keys_le _)).append (m2.mono (PyData.depthAll_vals_le _))
    have hna : a ∉ b1 ++ b2 := not_mem_of_deeper rd (by simp only [PyData.depth]; omega) hb
    refine ⟨_, a :: (b1 ++ b2), rd, ReadAtMost.cons rd (by simp only [PyData.depth]; omega) hb, ?_⟩
    simp only [PyData.depth, PyData.shown, PyData.shownKv_eq]
    exact ReprK.dict h1 h2.1 h3 ns hna (ReprEntriesK.of_two ds.toList _ _ (k1.more_le (fun b hb => List.mem_append_left _ hb) (PyData.depthAll_keys_le _)) (k2.more_le (fun b hb => List.mem_append_right _ hb) (PyData.depthAll_vals_le _)))
  | _, _, .list (a := a) (xs := xs) (ds := ds) hx h, u, r, ok, few => by
    obtain rfl : u = Value.ref a := r
    obtain ⟨its, rv, pl, hz⟩ := I.list hx
    obtain ⟨o, n, ho, hc, hd, hdat⟩ := pl
    have few' : (listText (PyData.shownAll ds)).length ≤ sizeLine := by simpa only [PyData.shown] using few
    obtain ⟨as, bs, r1, m1, k1⟩ := DRA.rk I h rv (by simpa [PyData.showable] using ok) fun t ht => Nat.le_trans (listText_mem_le ht) few'
    have rd : Reads s.heap (.ref a) (.list ds) _ := .list ho hc hdat (by simpa using r1)
    have hna : a ∉ bs := not_mem_of_deeper rd (by simp only [PyData.depth]; omega) m1
    refine ⟨_, a :: bs, rd, ReadAtMost.cons rd (by simp only [PyData.depth]; omega) m1, ?_⟩
    simp only [PyData.depth, PyData.shown]
    cases its with
    | nil =>
      cases r1
      simp only [PyData.shownAll, listText_nil]
      exact ReprK.listEmpty ho hc hdat
    | cons x l => exact ReprK.list ho hc hdat hna (by simpa using k1.length_eq) (fun i y e => k1.item i y (by simpa using e))
  | _, _, .tup (a := a) (xs := xs) (ds := ds) hx h, u, r, ok, few => by
    obtain rfl : u = Value.ref a := r
    obtain ⟨its, rv, ⟨o, ho, hc, n, hdat⟩, hz⟩ := I.tuple hx
    have few' : (tupleText (PyData.shownAll ds)).length ≤ sizeLine := by simpa only [PyData.shown] using few
    obtain ⟨as, bs, r1, m1, k1⟩ := DRA.rk I h rv (by simpa [PyData.showable] using ok) fun t ht => Nat.le_trans (tupleText_mem_le ht) few'
    have rd : Reads s.heap (.ref a) (.tuple ds) _ := .tuple ho hc hdat (by simpa using r1)
    have hna : a ∉ bs := not_mem_of_deeper rd (by simp only [PyData.depth]; omega) m1
    refine ⟨_, a :: bs, rd, ReadAtMost.cons rd (by simp only [PyData.depth]; omega) m1, ?_⟩
    simp only [PyData.depth, PyData.shown]
    exact ReprK.tuple ho hc hdat hna (by simpa using k1)
theorem DRA.rk (I : Inv X pins σ H s) : ∀ {xs : List V} {ds : List PyData}, DRA X.K H xs ds → ∀ {us : List Value}, Vals xs us → PyData.showableAll ds = true → (∀ t ∈ PyData.shownAll ds, t.length ≤ sizeLine) →
    ∃ as bs, ReadsAll s.heap us ds as ∧ ReadAtMost s.heap (PyData.depthAll ds) bs ∧ ReprAllK X.prog X.w bs s.heap (PyData.depthAll ds) us (PyData.shownAll ds)
  | _, _, .nil, _, .nil, _, _ => ⟨[], [], .nil, (fun _ h => nomatch h), by simp only [PyData.shownAll]; exact .nil⟩
  | _, _, .cons (d := d) (ds := ds) h hs, _, .cons r rs, ok, few => by
    have ok' : d.showable = true ∧ PyData.showableAll ds = true := by simpa [PyData.showableAll] using ok
    obtain ⟨a1, b1, r1, m1, k1⟩ := DR.rk I h r ok'.1 (few _ (by simp only [PyData.shownAll]; exact List.mem_cons_self ..))
    obtain ⟨a2, b2, r2, m2, k2⟩ := DRA.rk I hs rs ok'.2 (fun t ht => few t (by simp only [PyData.shownAll]; exact List.mem_cons_of_mem _ ht))
    refine ⟨_, b1 ++ b2, .cons r1 r2, ?_, ?_⟩
    · intro b hm
      simp only [PyData.depthAll]
      rcases List.mem_append.mp hm with hm | hm
      · obtain ⟨d', as', r', hd'⟩ := m1 b hm
        exact ⟨d', as', r', Nat.le_trans hd' (Nat.le_max_left _ _)⟩
      · obtain ⟨d', as', r', hd'⟩ := m2 b hm
        exact ⟨d', as', r', Nat.le_trans hd' (Nat.le_max_right _ _)⟩
    · simp only [PyData.depthAll, PyData.shownAll]
      exact .cons ((k1.more fun b hb => List.mem_append_left _ hb).level_le (Nat.le_max_left _ _)) (k2.more_le (fun b hb => List.mem_append_right _ hb) (Nat.le_max_right _ _))
theorem DRE.rk (I : Inv X pins σ H s) : ∀ {es : List EntD}, DRE X.K H es → ∀ {ds : List DictEntry} {vs : List (Key × Value)}, Pairs (mixKind X.prog X.w) ds vs → KV (es.map fun e => (e.1, e.2.1)) vs → PyData.showableAll ((es.map fun e => (kD e.1, e.2.2)).map (·.2)) = true → (∀ t ∈ PyData.shownAll ((es.map fun e => (kD e.1, e.2.2)).map (·.2)), t.length ≤ sizeLine) →
    ∃ as bs, ReadsAll s.heap (ds.map (·.val)) ((es.map fun e => (kD e.1, e.2.2)).map (·.2)) as ∧ ReadAtMost s.heap (PyData.depthAll ((es.map fun e => (kD e.1, e.2.2)).map (·.2))) bs ∧ ReprAllK X.prog X.w bs s.heap (PyData.depthAll ((es.map fun e => (kD e.1, e.2.2)).map (·.2))) (ds.map (·.val)) (PyData.shownAll ((es.map fun e => (kD e.1, e.2.2)).map (·.2)))
  | _, .nil, ds, vs, p, kv, _, _ => by
    cases kv
    cases p
    exact ⟨[], [], .nil, (fun _ h => nomatch h), by simp only [List.map_nil, PyData.shownAll]; exact .nil⟩
  | _, .cons (d := d) (es := es) h hs, ds, vs, p, kv, ok, few => by
    cases kv with
    | cons hq kv =>
      cases p with
      | cons pk pv p =>
        obtain ⟨e1, rv⟩ := hq
        rw [← pv] at rv
        have ok' : d.showable = true ∧ PyData.showableAll ((es.map fun e => (kD e.1, e.2.2)).map (·.2)) = true := by simpa [PyData.showableAll] using ok
        obtain ⟨a1, b1, r1, m1, k1⟩ := DR.rk I h rv ok'.1 (few _ (by simp only [List.map_cons, PyData.shownAll]; exact List.mem_cons_self ..))
        obtain ⟨a2, b2, r2, m2, k2⟩ := DRE.rk I hs p kv ok'.2 (fun t ht => few t (by simp only [List.map_cons, PyData.shownAll]; exact List.mem_cons_of_mem _ ht))
        refine ⟨_, b1 ++ b2, .cons r1 r2, ?_, ?_⟩
        · intro b hm
          simp only [List.map_cons, PyData.depthAll]
          rcases List.mem_append.mp hm with hm | hm
          · obtain ⟨d', as', r', hd'⟩ := m1 b hm
            exact ⟨d', as', r', Nat.le_trans hd' (Nat.le_max_left _ _)⟩
          · obtain ⟨d', as', r', hd'⟩ := m2 b hm
            exact ⟨d', as', r', Nat.le_trans hd' (Nat.le_max_right _ _)⟩
        · simp only [List.map_cons, PyData.depthAll, PyData.shownAll]
          exact .cons ((k1.more fun b hb => List.mem_append_left _ hb).level_le (Nat.le_max_left _ _)) (k2.more_le (fun b hb => List.mem_append_right _ hb) (Nat.le_max_right _ _))
end
def rReprR (K : PySem.W.Frag) : List V → Hp → VK → Prop := fun xs H Q => ∃ (x : V) (d : PyData), xs = [x] ∧ DR K H x d ∧ d.showable = true ∧ d.depth ≤ 60 ∧ d.shown.length ≤ sizeLine ∧ Q (.str d.shown) H
theorem call_reprR (clr : Clr X.A) (hu : X.A.units + 64 < cLine) : CallR X (.builtin "repr") (rReprR X.K) := by
  intro pins s σ H xs us Q I r h
  obtain ⟨x, d, rfl, sh, ok, dep, few, q⟩ := h
  cases sh with
  | dat h nd => exact call_repr clr hu pins s σ H _ us Q I r ⟨x, d, rfl, .inl ⟨h, nd⟩, ok, dep, few, q⟩
  | dict ha he =>
    rename_i a es
    obtain ⟨u, rfl, ru⟩ := vals1 r
    obtain rfl : u = Value.ref a := ru
    obtain ⟨_, ns, vs, kv, o, ds, ep, h1, h2, h3, _, h4, _⟩ := (show ObjOk X.prog X.w H s.heap a (.dK (es.map fun e => (e.1, e.2.1))) from I.hok a _ ha)
    have few' : (dictText (PyData.shownKv (es.map fun e => (kD e.1, e.2.2)))).length ≤ sizeLine := by simpa only [PyData.shown] using few
    obtain ⟨ok1, ok2⟩ := PyData.showableKv_split (es.map fun e => (kD e.1, e.2.2)) (by simpa [PyData.showable] using ok)
    obtain ⟨⟨as, r1⟩, n1⟩ := keys_rd (s := s) h4 kv
    obtain ⟨b1, m1, k1⟩ := ReprAllK.of_readsAll (prog := X.prog) (w := X.w) r1 ok1 (fun z => by rw [n1] at z; cases z) fun t ht => let ⟨p, hp, hl⟩ := PyData.shownKv_key_le _ t ht; Nat.le_trans hl (Nat.le_trans (dictText_mem_le hp) few')
    obtain ⟨cs, b2, r2, m2, k2⟩ := DRE.rk I he h4 kv ok2 fun t ht => let ⟨p, hp, hl⟩ := PyData.shownKv_val_le _ t ht; Nat.le_trans hl (Nat.le_trans (dictText_mem_le hp) few')
    have rd : Reads s.heap (.ref a) (dcD es) _ := .dict h1 h2.1 h3 r1 r2
    have hb : ReadAtMost s.heap (PyData.depthKv (es.map fun e => (kD e.1, e.2.2))) (b1 ++ b2) := (m1.mono (PyData.depthAll_keys_le _)).append (m2.mono (PyData.depthAll_vals_le _))
    have hna : a ∉ b1 ++ b2 := not_mem_of_deeper rd (by simp only [PyData.depth]; omega) hb
    have dep' : PyData.depthKv (es.map fun e => (kD e.1, e.2.2)) + 1 ≤ 60 := by simpa only [PyData.depth] using dep
    refine call_repr_slot (by omega) ⟨o, h1, h2.1⟩ PySem.F.slot_dict_repr (call_dict_reprK h1 h2.1 h3 ns hna (ReprEntriesK.of_two ds.toList _ _ (k1.more_le (fun b hb => List.mem_append_left _ hb) (PyData.depthAll_keys_le _)) (k2.more_le (fun b hb => List.mem_append_right _ hb) (PyData.depthAll_vals_le _)))
      (g := []) clr (fun b _ => Clear.nil b) (by show X.A.units + 1 + _ < cLine; omega) (fun _ _ z => z) (fun h' t tk kp => ⟨_, _, rfl, ?_⟩) (by rw [← PyData.shownKv_eq]; exact few'))
    refine ⟨.str (dcD es).shown, H, I.kept kp, ?_, q⟩
    exact ⟨t, by rw [show (dcD es).shown = dictText (PyData.shownKv (es.map fun e => (kD e.1, e.2.2))) by simp only [PyData.shown], PyData.shownKv_eq]⟩
  | list hx h =>
    rename_i a xs ds
    have r0 := r
    obtain ⟨u, rfl, ru⟩ := vals1 r
    obtain rfl : u = Value.ref a := ru
    obtain ⟨its, rv, pl, hz⟩ := I.list hx
    obtain ⟨o, n, ho, hc, hd, hdat⟩ := pl
    have few' : (listText (PyData.shownAll ds)).length ≤ sizeLine := by simpa only [PyData.shown] using few
    obtain ⟨as, bs, r1, m1, k1⟩ := DRA.rk I h rv (by simpa [PyData.showable] using ok) fun t ht => Nat.le_trans (listText_mem_le ht) few'
    have rd : Reads s.heap (.ref a) (.list ds) _ := .list ho hc hdat (by simpa using r1)
    have hna : a ∉ bs := not_mem_of_deeper rd (by simp only [PyData.depth]; omega) m1
    have dep' : PyData.depthAll ds + 1 ≤ 60 := by simpa only [PyData.depth] using dep
    cases its with
    | nil =>
      cases rv
      cases h
      exact call_repr clr hu pins s σ H _ _ Q I r0 ⟨.ref a, .list [], rfl, .inl ⟨.lst hx .nil, rfl⟩, ok, dep, few, q⟩
    | cons y l =>
      refine call_repr_slot (by omega) ⟨o, ho, hc⟩ PySem.F.slot_list_repr.toG (call_list_reprK ho hc hdat hna (by simpa using k1.length_eq) (fun i y e => k1.item i y (by simpa using e)) (g := []) clr (fun b _ => Clear.nil b) (by show X.A.units + 1 + _ < cLine; omega) (fun _ _ z => z) (fun h' t tk kp => ⟨_, _, rfl, ?_⟩) few')
      exact ⟨.str (PyData.list ds).shown, H, I.kept kp, ⟨t, by simp only [PyData.shown]⟩, q⟩
  | tup hx h =>
    rename_i a xs ds
    obtain ⟨u, rfl, ru⟩ := vals1 r
    obtain rfl : u = Value.ref a := ru
    obtain ⟨its, rv, ⟨o, ho, hc, n, hdat⟩, hz⟩ := I.tuple hx
    have few' : (tupleText (PyData.shownAll ds)).length ≤ sizeLine := by simpa only [PyData.shown] using few
    obtain ⟨as, bs, r1, m1, k1⟩ := DRA.rk I h rv (by simpa [PyData.showable] using ok) fun t ht => Nat.le_trans (tupleText_mem_le ht) few'
    have rd : Reads s.heap (.ref a) (.tuple ds) _ := .tuple ho hc hdat (by simpa using r1)
    have hna : a ∉ bs := not_mem_of_deeper rd (by simp only [PyData.depth]; omega) m1
    have dep' : PyData.depthAll ds + 1 ≤ 60 := by simpa only [PyData.depth] using dep
    refine call_repr_slot (by omega) ⟨o, ho, hc⟩ PySem.F.slot_tuple_repr (call_tuple_reprK ho hc hdat hna (by simpa using k1) (g := []) clr (fun b _ => Clear.nil b) (by show X.A.units + 1 + _ < cLine; omega) (fun _ _ z => z) (fun h' t tk kp => ⟨_, _, rfl, ?_⟩) few')
    exact ⟨.str (PyData.tuple ds).shown, H, I.kept kp, ⟨t, by simp only [PyData.shown]⟩, q⟩
end
end L2


/-! own __eq__; Forest.__eq__; (need_match: FtEqM) -/
namespace FT
open PySem L2 TL ClX LiI
def strKey (e : DictEntry) : Bool := match e.key with
  | .str _ _ => true
  | _ => false
/-- a class of the text with its own __eq__ and no __ne__ -/
structure EqF (K : PySem.W.Frag) (C f : Addr) : Prop where
  at_ : ∃ nm q N bs sn sub ab col dd k0 k1 k2 k3 k5 newId, K.lookup C = some (excClassObj nm q C N bs [.type "object"] true sn sub ab col dd k0 k1 k2 k3 k5 newId) ∧
    ∃ (oc : Value) (od : Option Addr) (es : Array DictEntry) (ep : Nat) (sl : Array (Option Value)), K.lookup N = some ⟨oc, od, .dict es ep, sl⟩ ∧ es.toList.all strKey = true ∧ nsFind es "__eq__" = some (.ref f) ∧ nsFind es "__ne__" = none
  ty : ∃ o : Obj, K.lookup f = some o ∧ o.cls = .type "function"
theorem EqF.own {K : PySem.W.Frag} {C f : Addr} (e : EqF K C f) {h : Heap} (X : K.In h) {a : Addr} {o : Obj} (ho : h.get? a = some o) (hc : o.cls = .ref C) : h.OwnEqNoNe a C f "object" [.type "object"] := by
  obtain ⟨nm, q, N, bs, sn, sub, ab, col, dd, k0, k1, k2, k3, k5, newId, hC, oc, od, es, ep, sl, hN, hk, h1, h2⟩ := e.at_
  obtain ⟨of, hf, tf⟩ := e.ty
  have keys : StrKeys es := fun x hx => by
    have := List.all_eq_true.mp hk x (Array.mem_toList_iff.mpr hx)
    unfold strKey at this
    cases ek : x.key with
    | str n t => exact ⟨n, t, rfl⟩
    | _ => rw [ek] at this; cases this
  exact ⟨o, of, nm, q, N, bs, true, sn, sub, ab, col, dd, k0, k1, k2, k3, k5, newId, nsFind es, _, ho, hc, X _ _ hC, ⟨_, es, ep, X _ _ hN, rfl, keys, fun _ => rfl⟩, h1, X _ _ hf, tf, PySem.F.cmp_object.mro, PySem.F.cmp_object.eq.lookup, h2⟩
/-- x != y, two instances that are equal by their own __eq__ -/
def rNeG (D : Eqv) : R2 := fun x y H Q => D x y H ∧ ∀ H', Ext H H' → Q (.bl false) H'
/-- what isinstance asks of an own class -/
structure IsF (K : PySem.W.Frag) (C : Addr) : Prop where
  ha : PySem.W.findIn K (.ref C) "__class__" = some (some (.builtin "object.__class__"))
  hn : PySem.W.specialIn K (.builtin "object.__class__") "__get__" = some (some (.builtin "getset_descriptor.__get__"))
  ht : PySem.W.takesIn K (.builtin "object.__class__") = some true
  hm : PySem.W.mroIn K C (.type "object") = some true
def RFo (CF : Addr) : Addr → Addr → Hp → Prop := fun a b H => ∃ ts, FAt CF H a ts ∧ FAt CF H b ts ∧ TreeOk ts
section
variable {P : Program} {w : World} {K : PySem.W.Frag} {mg : Str → Option Value} {base : Heap}
end
end FT


/-! two dicts of flat values compared, equal or not -/
namespace L2
open PySem PySem.Spec PyProof.Rows
def rowEq (ls : List (Key × V)) (p : Key × V) : Bool := match valV ls p.1 with
  | some u => eqV p.2 u
  | none => false
def eqDK (ks ls : List (Key × V)) : Bool := ks.length == ls.length && ks.all (rowEq ls)
theorem valV_mem {ls : List (Key × V)} {k : Key} {u : V} (h : valV ls k = some u) : ∃ p ∈ ls, p.2 = u := by
  induction ls with
  | nil => cases h
  | cons p ls ih =>
    by_cases e : p.1 = k
    · rw [valV_pos e] at h
      exact ⟨p, List.mem_cons_self .., Option.some.inj h⟩
    · rw [valV_neg e] at h
      obtain ⟨q, hq, eq⟩ := ih h
      exact ⟨q, List.mem_cons_of_mem _ hq, eq⟩
theorem hits_any {A : Around} {s : Shared} {ls : List (Key × V)} {vb : List (Key × Value)} (rb : KV ls vb) (fl : ∀ p ∈ ls, flatV p.2 = true) {ks : List (Key × V)} {va : List (Key × Value)} (ra : KV ks va) : (∀ p ∈ ks, flatV p.2 = true) → PySem.W.KeqHits A s vb va (ks.all (rowEq ls)) := by
  unfold KV at ra
  induction ra with
  | nil => intro _; exact .nil
  | @cons p q ps qs h t ih =>
    intro fk
    obtain ⟨h1, h2⟩ := h
    have ih := ih fun p' hm => fk p' (List.mem_cons_of_mem _ hm)
    obtain ⟨k, v⟩ := q
    have h1' : p.1 = k := h1
    have rr := rb.val p.1
    rw [List.all_cons]
    cases e : valV ls p.1 with
    | none =>
      rw [e] at rr
      have z := rr.none_of
      rw [h1'] at z
      rw [show rowEq ls p = false by unfold rowEq; rw [e]]
      exact .miss z
    | some u =>
      rw [e] at rr
      obtain ⟨y, hy, ry⟩ := rr.some_of
      rw [h1'] at hy
      obtain ⟨p', hp', e'⟩ := valV_mem e
      have fu : flatV u = true := by rw [← e']; exact fl p' hp'
      rw [show rowEq ls p = eqV p.2 u by unfold rowEq; rw [e]]
      exact .hit hy (eqAt_V h2 ry (fk p (List.mem_cons_self ..)) fu) ih
section
variable {X : Cx}
def rEqDC : R2 := fun x y H Q => ∃ a b ks ls, x = .ref a ∧ y = .ref b ∧ H a = some (.dK ks) ∧ H b = some (.dK ls) ∧ (∀ p ∈ ks, flatV p.2 = true) ∧ (∀ p ∈ ls, flatV p.2 = true) ∧ Q (.bl (eqDK ks ls)) H
def rNeDC : R2 := fun x y H Q => ∃ a b ks ls, x = .ref a ∧ y = .ref b ∧ H a = some (.dK ks) ∧ H b = some (.dK ls) ∧ (∀ p ∈ ks, flatV p.2 = true) ∧ (∀ p ∈ ls, flatV p.2 = true) ∧ Q (.bl (!eqDK ks ls)) H
theorem op_eq_dictC (hu : X.A.units < cLine) : OpR X (compareOp .Eq) rEqDC := by
  intro pins s σ H x y v u Q I rx ry h
  obtain ⟨a, b, ks, ls, rfl, rfl, ea, eb, fk, fl, q⟩ := h
  obtain rfl : v = Value.ref a := rx
  obtain rfl : u = Value.ref b := ry
  obtain ⟨_, ya, va, ra, da⟩ := (show ObjOk X.prog X.w H s.heap a (.dK ks) from I.hok a _ ea)
  obtain ⟨_, yb, vb, rb, db⟩ := (show ObjOk X.prog X.w H s.heap b (.dK ls) from I.hok b _ eb)
  have e : eqDK ks ls = (va.length == vb.length && ks.all (rowEq ls)) := by unfold eqDK; rw [ra.length, rb.length]
  exact PySem.W.keq_eq (knd := mixKind X.prog X.w) (r := ks.all (rowEq ls)) ya yb da db hu (fun _ => hits_any rb fl ra fk) (fin_bl I q e)
end
end L2


/-! own __eq__ with either answer; Forest.__eq__ -/
namespace FT
open PySem L2 TL ClX LiI
/-- what an own == promises, equal or not -/
def spEqB (R : Addr → Addr → Bool → Hp → Prop) : Sp := fun vs H Q _ => ∃ a b v, vs = [.ref a, .ref b] ∧ R a b v H ∧ ∀ H', Ext H H' → Q (.bl v) H'
def rNeB (C : Addr) (R : Addr → Addr → Bool → Hp → Prop) : R2 := fun x y H Q => ∃ a b dx dy fs gs v, x = .ref a ∧ y = .ref b ∧ H a = some (.ins C dx fs) ∧ H b = some (.ins C dy gs) ∧ R a b v H ∧ ∀ H', Ext H H' → Q (.bl (!v)) H'
def RFoB (CF : Addr) : Addr → Addr → Bool → Hp → Prop := fun a b v H => ∃ ts us, FAt CF H a ts ∧ FAt CF H b us ∧ v = eqDK (prs ts) (prs us)
section
variable {P : Program} {w : World} {K : PySem.W.Frag} {mg : Str → Option Value} {base : Heap}
end
end FT


/-! what repr shows of a key: different keys, different texts -/
namespace FT
open PySem L2 TL ClX
def Low (z : Str) : Prop := ∀ c ∈ tl z, 97 ≤ c ∧ c ≤ 122
theorem NameL.low {z : Str} (h : NameL z ∨ z = "") : Low z := by
  rcases h with h | rfl
  · exact h.1
  · intro c hc
    cases hc
/-- what is shown of a key -/
def keyD : Key → PyData
  | .inl i => .int i
  | .inr z => .str z
def shK (k : Key) : Str := (keyD k).shown
end FT


/-! == of two dicts of parents (plain) -/
namespace FT
open PySem L2 TL ClX
theorem ascOne {ts us : List (Str × Str)} (o : TreeOk ts) (p : ts.Perm us) (a : Asc ts) (b : Asc us) : ts = us := by
  have e : ts.map Prod.fst = us.map Prod.fst := sorted_one (p.map _) a b
  have ou : (us.map Prod.fst).Nodup := (p.map _).nodup_iff.mp o.nd
  refine List.ext_getElem? fun i => ?_
  have ei := congrArg (fun l => l[i]?) e
  simp only [List.getElem?_map] at ei
  cases h : ts[i]? with
  | none =>
    rw [h] at ei
    cases h' : us[i]? with
    | none => rfl
    | some y =>
      rw [h'] at ei
      cases ei
  | some x =>
    rw [h] at ei
    cases h' : us[i]? with
    | none =>
      rw [h'] at ei
      cases ei
    | some y =>
      rw [h'] at ei
      have e1 : x.1 = y.1 := Option.some.inj ei
      have mx : x ∈ us := p.mem_iff.mp (List.mem_of_getElem? h)
      have my : y ∈ us := List.mem_of_getElem? h'
      have : x = y := by
        have pw := List.pairwise_map.mp (List.nodup_iff_pairwise_ne.mp ou)
        exact Classical.byContradiction fun ne => by
          obtain ⟨j, hj⟩ := List.mem_iff_getElem?.mp mx
          have lj := (List.getElem?_eq_some_iff.mp hj).1
          have li := (List.getElem?_eq_some_iff.mp h').1
          have ej := (List.getElem?_eq_some_iff.mp hj).2
          have eii := (List.getElem?_eq_some_iff.mp h').2
          rcases Nat.lt_trichotomy i j with c | c | c
          · exact (List.pairwise_iff_getElem.mp pw i j li lj c) (by rw [eii, ej, e1])
          · subst c
            exact ne (ej.symm.trans eii)
          · exact (List.pairwise_iff_getElem.mp pw j i lj li c) (by rw [eii, ej, e1])
      rw [this]
end FT


/-! what witness tells; parents turned about -/
namespace FT
open PySem L2 TL ClX LiI
def wD (ts : List (Str × Str)) (n : Int) : PyData := .list [dcD (szEn (ts.map Prod.fst) (wW ts n 0)), dcD (szEn (ts.map Prod.fst) (wW ts n 1)), dcD (szEn (ts.map Prod.fst) (wW ts n 2))]
/-- what witness answers -/
inductive Told (ts : List (Str × Str)) (n : Int) (H : Hp) : V → PyData → Prop
  | none : memC ts (.int n) = true → Told ts n H .non .none
  | some {R q0 q1 q2 : Addr} : memC ts (.int n) = false → H R = some (.lst [.ref q0, .ref q1, .ref q2]) → H q0 = some (.dK (tblI (ts.map Prod.fst) (wW ts n 0))) → H q1 = some (.dK (tblI (ts.map Prod.fst) (wW ts n 1))) → H q2 = some (.dK (tblI (ts.map Prod.fst) (wW ts n 2))) → Told ts n H (.ref R) (wD ts n)
section
variable {ts : List (Str × Str)} {n : Int} {H H' : Hp} {v : V} {d : PyData}
theorem Told.mono (h : Told ts n H v d) (s : Same H H') : Told ts n H' v d := by
  cases h with
  | none e => exact .none e
  | some e h h0 h1 h2 => exact .some e (s _ _ h) (s _ _ h0) (s _ _ h1) (s _ _ h2)
theorem Told.non (h : Told ts n H v d) : decide (v = .non) = memC ts (.int n) := by
  cases h with
  | none e => rw [e] <;> rfl
  | some e => rw [e] <;> rfl
theorem Told.one {v' : V} {d' : PyData} (h : Told ts n H v d) (h' : Told ts n H' v' d') : d = d' := by
  cases h with
  | none e =>
    cases h' with
    | none => rfl
    | some e' => rw [e] at e'; cases e'
  | some e =>
    cases h' with
    | none e' => rw [e] at e'; cases e'
    | some => rfl
theorem DRE.of : ∀ {es : List EntD} {K : PySem.W.Frag} {H : Hp}, (∀ e ∈ es, Dp K H e.2.1 e.2.2 ∧ e.2.2.hasDict = false) → DRE K H es
  | [], _, _, _ => .nil
  | (k, v, d) :: es, K, H, h => .cons (.dat (h (k, v, d) List.mem_cons_self).1 (h (k, v, d) List.mem_cons_self).2) (DRE.of fun e he => h e (List.mem_cons_of_mem _ he))
theorem Told.repr {K : PySem.W.Frag} (o : TreeOk ts) (n1 : 1 ≤ n) (n3 : n ≤ 60) (h : Told ts n H v d) : DR K H v d ∧ d.showable = true ∧ d.depth ≤ 60 ∧ d.shown.length ≤ sizeLine := by
  cases h with
  | none e => exact ⟨.dat .non rfl, rfl, by decide, by decide⟩
  | some e h h0 h1 h2 =>
    have uo : usersOk (.int n) (10 ^ 30) = true := by
      show (decide (1 ≤ n) && decide (n ≤ 10 ^ 30)) = true
      rw [decide_eq_true n1, decide_eq_true (by omega)] <;> rfl
    obtain ⟨n2, nt⟩ := mem_no uo e
    have bn : ∀ i, i < 3 → ∀ a ∈ ts.map Prod.fst, 0 ≤ wW ts n i a ∧ wW ts n i a ≤ 60 := fun i hi a ha => by
      have f := wit_fea o nt n2 i hi
      have := fea_leW o f a ha
      exact ⟨f.nn a ha, by omega⟩
    have few := o.few
    have kv : ∀ i, i < 3 → PyData.showableKv (szKv (ts.map Prod.fst) (wW ts n i)) = true ∧ PyData.leavesShortKv 8 (szKv (ts.map Prod.fst) (wW ts n i)) = true ∧ PyData.depthKv (szKv (ts.map Prod.fst) (wW ts n i)) ≤ 1 ∧ PyData.bulkKv (szKv (ts.map Prod.fst) (wW ts n i)) ≤ 70 * (ts.map Prod.fst).length := fun i hi =>
      szKv_show fun a ha => ⟨strOk_name (o.nm a ha), (o.nm a ha).len.2, bn i hi a ha⟩
    have dr : ∀ i, i < 3 → ∀ {q : Addr}, H q = Option.some (.dK (tblI (ts.map Prod.fst) (wW ts n i))) → DR K H (.ref q) (dcD (szEn (ts.map Prod.fst) (wW ts n i))) := fun i hi q hq => by
      obtain ⟨a1, a2, _⟩ := sz_repr (K := K) o (.refl _) (bn i hi) hq
      exact .dict a1 (DRE.of a2)
    obtain ⟨a1, a2, a3, a4⟩ := kv 0 (by decide)
    obtain ⟨b1, b2, b3, b4⟩ := kv 1 (by decide)
    obtain ⟨c1, c2, c3, c4⟩ := kv 2 (by decide)
    rw [List.length_map] at a4 b4 c4
    refine ⟨.list (SqL.of h) (.cons (dr 0 (by decide) h0) (.cons (dr 1 (by decide) h1) (.cons (dr 2 (by decide) h2) .nil))), ?_, ?_, ?_⟩
    · unfold wD
      rw [szEn_D, szEn_D, szEn_D]
      show (PyData.showableKv _ && (PyData.showableKv _ && (PyData.showableKv _ && true))) = true
      rw [a1, b1, c1] <;> rfl
    · unfold wD
      rw [szEn_D, szEn_D, szEn_D]
      show max (PyData.depthKv _ + 1) (max (PyData.depthKv _ + 1) (max (PyData.depthKv _ + 1) 0)) + 1 ≤ 60
      omega
    · unfold wD
      rw [szEn_D, szEn_D, szEn_D]
      refine PyData.shown_fits_bulk (B := 8) (by decide) (by decide) ?_ ?_
      · show (PyData.leavesShortKv 8 _ && (PyData.leavesShortKv 8 _ && (PyData.leavesShortKv 8 _ && true))) = true
        rw [a2, b2, c2] <;> rfl
      · have big : (70 * 12 + 100) * 3 + 100 ≤ 2 ^ 20 := by decide
        refine Nat.le_trans (m := 70 * ts.length + 70 * ts.length + 70 * ts.length + 100) ?_ (by omega)
        simp only [PyData.bulk, PyData.bulkAll]
        omega
theorem bool_repr {K : PySem.W.Frag} (b : Bool) : DR K H (.bl b) (.bool b) ∧ (PyData.bool b).showable = true ∧ (PyData.bool b).depth ≤ 60 ∧ (PyData.bool b).shown.length ≤ sizeLine := ⟨.dat (.bl b) rfl, by cases b <;> rfl, by cases b <;> decide, by cases b <;> decide⟩
def spFlipP : Sp := fun vs H Q _ => ∃ (q : Addr) (t : List (Str × Str)), vs = [.ref q] ∧ H q = some (.dK (prs t)) ∧ (t.map Prod.fst).Nodup ∧ t.length ≤ 64 ∧ ∀ (p : Addr) (H' : Hp), Same H H' → H p = none → H' p = some (.dK (prs t.reverse)) → Q (.ref p) H'
end
section
variable {P : Program} {w : World} {K : PySem.W.Frag} {mg : Str → Option Value} {base : Heap}
theorem scFp : FnScope ["_law_some"] ["_law_some"] (defScope s__law_flipped) := ⟨rfl, rfl, rfl, by decide +kernel, rfl, by decide +kernel, by decide +kernel⟩
theorem ok_flipP {f : Addr} {fd : FuncData} (F : Fun K "_law_flipped" "_law_flipped" s__law_flipped f fd) (T : Nm mg) : FnOk P w K mg base CX0 1 f fd ["_law_some"] spFlipP := by
  refine F.ok scFp (fun vs H Q E h => ?_) (fun cdv A outer s H vs Q E hr h => ?_)
  · obtain ⟨q, t, rfl, _⟩ := h
    rfl
  · obtain ⟨q, t, rfl, hq, nd, few, k⟩ := h
    have hu := hu_of hr
    have big : 1000 ≤ sizeLine := by decide
    refine ⟨_, pss_one (ps_ret (pe_callTy (call_dictP rfl) (by rfl) T.dct (by decide +kernel) (pa_cons (pe_revL (pe_listItems rfl (pv 0) (by rfl) T.lst (by decide +kernel))) pa_nil))), ?_⟩
    refine ⟨_, rfl, q, _, rfl, hq, fun H1 p1 ts s1 np1 nts pts hp1 prd => ⟨p1, _, rfl, SqL.of hp1, fun p2 np2 => ?_⟩⟩
    have s2 := same_new (o := .lst (ts.map V.ref).reverse) np2
    have s12 : Same H (upd H1 p2 (.lst (ts.map V.ref).reverse)) := Same.trans (fun b o e => s1 b o e) s2
    refine ⟨p2, ts.reverse, (prs t).reverse, rfl, SqL.of (by rw [upd_same, List.map_reverse]), pair_imp (fun t kv e => .inl (.inl (s2 _ _ e))) (pair_rev prd), fun p3 np3 => ?_⟩
    have er : (prs t).reverse = prs t.reverse := by
      unfold prs kvT
      rw [← List.map_reverse, ← List.map_reverse]
    rw [er]
    have em : mergeK [] (prs t.reverse) = prs t.reverse := merge_nd (by rw [prs_fst, List.map_reverse]; exact (List.reverse_perm _).nodup_iff.mpr nd)
    rw [em]
    exact k p3 _ (s12.trans (same_new np3)) (s12.free np3) upd_same
end
end FT


/-! _law_fits -/
namespace FT
open PySem L2 TL ClX LiI
def fitB (t : List (Str × Str)) (n : Int) (s : Str → Int) : Bool := ((t.map Prod.fst).all fun a => decide (0 ≤ s a)) && ((("" : Str) :: t.map Prod.fst).all fun p => decide (0 ≤ resid t n s p))
theorem fit_fea {t : List (Str × Str)} {n : Int} {s : Str → Int} : fitB t n s = true ↔ Fea t n s := by
  unfold fitB
  rw [Bool.and_eq_true, List.all_eq_true, List.all_eq_true]
  exact ⟨fun h => ⟨fun a ha => of_decide_eq_true (h.1 a ha), fun p hp => of_decide_eq_true (h.2 p hp)⟩, fun h => ⟨fun a ha => decide_eq_true (h.nn a ha), fun p hp => decide_eq_true (h.res p hp)⟩⟩
def spFits : Sp := fun vs H Q _ => ∃ (q qw : Addr) (n : Int) (t : List (Str × Str)) (lo : List Str) (s : Str → Int), vs = [.ref q, .int n, .ref qw] ∧ H q = some (.dK (prs t)) ∧ TreeOk t ∧ H qw = some (.dK (tblI lo s)) ∧ lo.Perm (t.map Prod.fst) ∧ ∀ H', Same H H' → Q (.bl (fitB t n s)) H'
theorem resid_nilF (n : Int) (s : Str → Int) (a : Str) : resid [] n s a = if a = "" then n else s a := by
  unfold resid
  show (if a = "" then n else s a) - 0 = _
  omega
theorem min_ge {is : List Int} {m : Int} (hm : m ∈ is) (low : ∀ j ∈ is, m ≤ j) : (0 ≤ m) ↔ ∀ j ∈ is, 0 ≤ j := ⟨fun h j hj => by have := low j hj; omega, fun h => h m hm⟩
section
variable {P : Program} {w : World} {K : PySem.W.Frag} {mg : Str → Option Value} {base : Heap}
abbrev NFt : List Str := ["_law_parents", "_law_folk", "_law_wide", "_law_left", "_law_name"]
theorem scFt : FnScope NFt ["_law_parents", "_law_folk", "_law_wide"] (defScope s__law_fits) := ⟨rfl, rfl, rfl, by decide +kernel, rfl, by decide +kernel, by decide +kernel⟩
theorem ok_fits {f : Addr} {fd : FuncData} (F : Fun K "_law_fits" "_law_fits" s__law_fits f fd) (N : Nm mg) : FnOk P w K mg base CX0 1 f fd ["_law_parents", "_law_folk", "_law_wide"] spFits := by
  refine F.ok scFt (fun vs H Q E h => ?_) (fun cdv_ A outer s0 H vs Q E hr h => ?_)
  · obtain ⟨q, qw, n, t, lo, s, rfl, _⟩ := h
    rfl
  · obtain ⟨q, qw, n, t, lo, s, rfl, hq, o, hw, plo, k⟩ := h
    have hu := hu_of hr
    have nd := scFt.nd
    have big : 1000 ≤ sizeLine := by decide
    have few := o.few
    refine ⟨_, pss_cons (ps_set (i := 3) nd rfl (.inl rfl) (pe_disp (pps_cons pe_str (pv 1) pps_nil) (by rfl) (by rfl) (fun z => by cases z) (by decide)))
      (pss_cons (ps_expr (pe_bm PySem.F.plainAttrs_dict PySem.F.slot_dict_update PySem.F.type_dict_update UpD.mtd_update (pv 3) (pa_cons (pv 2) pa_nil)))
      (pss_cons (ps_lock (ps_for PassesOwn.never rfl (pi_keys (pv 0)) (pg_name (i := 4) nd rfl (.inl rfl))
        (pss_one (ps_dput hu (pv 3) (pe_dget hu (pv 0) (pv 4) (fun _ _ => rfl)) (pe_op op_sub (pe_dget hu (pv 3) (pe_dget hu (pv 0) (pv 4) (fun _ _ => rfl)) (fun _ _ => rfl)) (pe_dget hu (pv 2) (pv 4) (fun _ _ => rfl))) rfl))))
      (pss_one (ps_ret (pe_and (pe_cmpR op_ge (pe_minVals rfl rfl N.min (pv 2)) pe_int (nomark _)) (pe_one (pe_cmpR op_ge (pe_minVals rfl rfl N.min (pv 3)) pe_int (nomark _)))))))), ?_⟩
    refine fun D nD => ⟨_, rfl, upd_same, [(Sum.inr "", V.int n)], rfl, by show 1 ≤ 15; omega, ?_⟩
    obtain ⟨H1, e1⟩ : ∃ X, X = upd (upd H D (.dK [])) D (.dK (mergeK [] [(Sum.inr "", V.int n)])) := ⟨_, rfl⟩
    have s1 : Same H H1 := e1 ▸ (same_new nD).put nD
    have a1 : H1 D = some (.dK [(Sum.inr "", V.int n)]) := by
      rw [e1, upd_same] <;> rfl
    rw [← e1]
    clear e1
    have Dq : D ≠ q := (ne_of_none hq nD).symm
    have Dw : D ≠ qw := (ne_of_none hw nD).symm
    have ll := plo.length_eq
    rw [List.length_map] at ll
    have nr : ("" : Str) ∉ lo := fun z => o.root (plo.mem_iff.mp z)
    have ndl : lo.Nodup := plo.nodup_iff.mpr o.nd
    refine ⟨_, rfl, .inr (.inr (.inl ⟨rfl, .inl ⟨_, a1⟩⟩)), _, rfl, D, qw, _, _, rfl, rfl, a1, .inl (s1 _ _ hw), Dw, by rw [tblI_len]; show 1 + _ ≤ sizeLine; omega, ?_⟩
    have em : mergeK [(Sum.inr "", V.int n)] (tblI lo s) = tblI ("" :: lo) (resid [] n s) := by
      have z := merge_app (lo.map fun a => (a, V.int (s a))) [("", V.int n)] (by
        rw [List.map_append, map_fst]
        exact List.nodup_cons.mpr ⟨nr, ndl⟩)
      have e1 : kvT [(("" : Str), V.int n)] = ([(Sum.inr ("" : Str), V.int n)] : List (Key × V)) := rfl
      rw [e1] at z
      have e2 : kvT (lo.map fun a => (a, V.int (s a))) = tblI lo s := rfl
      rw [e2] at z
      rw [z]
      unfold tblI
      rw [List.map_cons, resid_nilF, if_pos rfl]
      congr 1
      show ((("" : Str), V.int n) :: lo.map fun a => (a, V.int (s a))) = (("" : Str), V.int n) :: lo.map fun a => (a, V.int (resid [] n s a))
      congr 1
      exact List.map_congr_left fun a ha => by rw [resid_nilF, if_neg fun z => nr (by rw [← z]; exact ha)]
    rw [em]
    obtain ⟨H2, e2⟩ : ∃ X, X = upd H1 D (.dK (tblI ("" :: lo) (resid [] n s))) := ⟨_, rfl⟩
    have s2 : Same H H2 := by rw [e2]; exact s1.put nD
    have a2 : H2 D = some (.dK (tblI ("" :: lo) (resid [] n s))) := by rw [e2]; exact upd_same
    rw [← e2]
    clear e2
    have hq2 := s2 _ _ hq
    refine ⟨q, _, hq2, trivial, fun od => ⟨_, rfl, q, od, rfl, .inl ⟨_, upd_same, ?_⟩⟩⟩
    refine for_it walk_keys (fun j σ' H' => (∃ u4, σ' = [some (.ref q), some (.int n), some (.ref qw), some (.ref D), u4]) ∧ H' q = some (.frz od (.dK (prs t))) ∧ (∀ b u, b ≠ q → H b = some u → H' b = some u) ∧ H' D = some (.dK (tblI ("" :: lo) (resid (t.take j) n s))))
      ⟨⟨_, rfl⟩, upd_same, fun b u nb e => by rw [upd_ne nb]; exact s2 _ _ e, by rw [upd_ne Dq]; exact a2⟩ (fun j σ' H' _ z => z.2.1) ?_ ?_
    · intro j y σ' Ha Hb hj ⟨⟨u4, e⟩, aq, sb, aD⟩ ⟨eb, kk, vv, hk, ey⟩
      subst e
      subst eb
      subst ey
      obtain ⟨⟨a, pa⟩, hp, ee⟩ : ∃ x : Str × Str, t[j]? = some x ∧ (kk, vv) = (Sum.inr x.1, V.str x.2) := by
        unfold prs kvT at hk
        rw [List.map_map, List.getElem?_map] at hk
        obtain ⟨x, hx, z⟩ := Option.map_eq_some_iff.mp hk
        exact ⟨x, hx, z.symm⟩
      cases ee
      rw [show kV (Sum.inr a) = V.str a from rfl]
      have mp := List.mem_of_getElem? hp
      have mk : a ∈ t.map Prod.fst := List.mem_map.mpr ⟨_, mp, rfl⟩
      have ep := par_of o.nd mp
      obtain ⟨rk, r⟩ := o.up
      have mpa : pa ∈ ("" : Str) :: lo := List.mem_cons.mpr ((r _ mp).2.imp id fun z => plo.mem_iff.mpr z.1)
      have dg : DGet Hb q (.str a) (some (.str pa)) := .inl ⟨_, Sum.inr a, .inr ⟨od, aq⟩, rfl, by rw [val_prs, ep] <;> rfl⟩
      have nqh : qw ≠ q := ne_of hw hq (by
        intro z
        have := HO.dK.inj z
        have l1 := congrArg List.length this
        cases t with
        | nil => cases mp
        | cons x t =>
          cases lo with
          | nil => cases l1
          | cons y l => cases this)
      refine ⟨_, rfl, _, rfl, _, rfl, q, _, rfl, dg, D, .int (resid (t.take j) n s pa), rfl, ?_, ?_⟩
      · have z := DGet.k (k := Sum.inr pa) aD
        rw [tblI_val mpa] at z
        exact z
      · refine ⟨_, rfl, _, rfl, qw, .int (s a), rfl, ?_, _, _, rfl, rfl, ?_⟩
        · have z := DGet.k (k := Sum.inr a) (sb _ _ nqh hw)
          rw [tblI_val (plo.mem_iff.mpr mk)] at z
          exact z
        · refine ⟨_, rfl, _, rfl, _, rfl, q, _, rfl, dg, D, _, rfl, DPut.k (k := Sum.inr pa) aD (by rw [tblI_len, List.length_cons]; omega), ⟨_, rfl⟩, by rw [upd_ne Dq.symm]; exact aq, fun b u nb e => ?_, ?_⟩
          · rw [upd_ne (ne_of_none e nD)]
            exact sb b u nb e
          · rw [upd_same, tblI_put mpa, take_more hp]
            congr 2
            refine tblI_congr fun b hb => ?_
            rw [resid_snoc]
            show (if b = pa then _ else _) = if pa = b then _ else _
            by_cases e : b = pa
            · rw [if_pos e, if_pos e.symm, e]
            · rw [if_neg e, if_neg fun z => e z.symm]
    · intro σ' H4 ⟨⟨u4, e⟩, aq, sb, aD⟩
      subst e
      rw [show (prs t).length = t.length from prs_len t, List.take_length] at aD
      refine ⟨aq, ?_⟩
      have s4 : Same H (upd H4 q (.dK (prs t))) := fun b u e => by
        by_cases z : b = q
        · subst z
          rw [hq] at e
          rw [upd_same]
          exact e
        · rw [upd_ne z]
          exact sb b u z e
      have aD4 : (upd H4 q (.dK (prs t))) D = some (.dK (tblI ("" :: lo) (resid t n s))) := by rw [upd_ne Dq]; exact aD
      obtain ⟨H5, e5⟩ : ∃ X, X = upd H4 q (.dK (prs t)) := ⟨_, rfl⟩
      rw [← e5] at s4 aD4 ⊢
      clear e5
      have one := o.one
      have lne : lo ≠ [] := fun z => by
        rw [z] at ll
        have : (0 : Nat) = t.length := ll
        omega
      refine ⟨_, rfl, qw, _, lo.map s, rfl, s4 _ _ hw, (by unfold tblI kvT; rw [List.map_map, List.map_map, List.map_map] <;> rfl), (fun z => lne (List.map_eq_nil_iff.mp z)), fun m hm low => ?_⟩
      have eA : ((t.map Prod.fst).all fun a => decide (0 ≤ s a)) = decide (0 ≤ m) := by
        rw [Bool.eq_iff_iff, List.all_eq_true, decide_eq_true_eq, min_ge hm low]
        constructor
        · intro h j hj
          obtain ⟨a, ha, rfl⟩ := List.mem_map.mp hj
          exact of_decide_eq_true (h a (plo.mem_iff.mp ha))
        · intro h a ha
          exact decide_eq_true (h _ (List.mem_map.mpr ⟨a, plo.mem_iff.mpr ha, rfl⟩))
      refine ⟨_, _, rfl, rfl, _, rfl, ?_⟩
      refine ite2 (fun yes => ?_) fun no => ?_
      · refine ⟨_, rfl, D, _, (("" : Str) :: lo).map (resid t n s), rfl, aD4, (by unfold tblI kvT; rw [List.map_map, List.map_map, List.map_map] <;> rfl), (fun z => by cases z), fun m2 hm2 low2 => ?_⟩
        refine ⟨_, _, rfl, rfl, ?_⟩
        have eB : ((("" : Str) :: t.map Prod.fst).all fun p => decide (0 ≤ resid t n s p)) = decide (0 ≤ m2) := by
          rw [Bool.eq_iff_iff, List.all_eq_true, decide_eq_true_eq, min_ge hm2 low2]
          have pp : ∀ p, p ∈ ("" : Str) :: lo ↔ p ∈ ("" : Str) :: t.map Prod.fst := fun p => (plo.cons _).mem_iff
          constructor
          · intro h j hj
            obtain ⟨a, ha, rfl⟩ := List.mem_map.mp hj
            exact of_decide_eq_true (h a ((pp a).mp ha))
          · intro h a ha
            exact decide_eq_true (h _ (List.mem_map.mpr ⟨a, (pp a).mpr ha, rfl⟩))
        have e : fitB t n s = decide (m2 ≥ 0) := by
          unfold fitB
          rw [eA, eB, show decide (0 ≤ m) = true from yes, Bool.true_and]
        have z := k _ s4
        rw [e] at z
        exact z
      · have e : fitB t n s = false := by
          unfold fitB
          rw [eA, Bool.eq_false_iff.mpr no, Bool.false_and]
        have z := k _ s4
        rw [e] at z
        exact z
end
end FT


/-! _law_all_sizes -/
namespace FT
open PySem L2 TL ClX LiI
/-- a dict of sizes of these flags -/
def SzD (L : List Str) (H : Hp) (d : Addr) : Prop := ∃ f : Str → Int, H d = some (.dK (tblI L f))
def spAllSz : Sp := fun vs H Q _ => ∃ (q : Addr) (n : Int) (t : List (Str × Str)), vs = [.ref q, .int n] ∧ H q = some (.dK (prs t)) ∧ TreeOk t ∧ 1 ≤ n ∧ n ≤ 3 ∧
  ∀ (R : Addr) (ds : List Addr) (H' : Hp), Same H H' → H R = none → H' R = some (.lst (ds.map V.ref)) → ds.length ≤ sizeLine → (∀ d ∈ ds, ∃ f, H' d = some (.dK (tblI (t.map Prod.fst) f)) ∧ Fea t n f) → Q (.ref R) H'
abbrev NAz : List Str := ["_law_parents", "_law_folk", "_law_found", "_law_name", "_law_more", "_law_wide", "_law_size"]
theorem pow_line {j : Nat} (h : j ≤ 12) : 4 ^ j ≤ sizeLine := by
  have e : sizeLine = 4 ^ 12 := by rw [sizeLine_eq]
  rw [e]
  exact Nat.pow_le_pow_right (by decide) h
theorem tbl_app {L : List Str} {f : Str → Int} {a : Str} {i : Int} (nd : L.Nodup) (na : a ∉ L) : mergeK [] (tblI L f ++ [(Sum.inr a, V.int i)]) = tblI (L ++ [a]) (fun x => if x = a then i else f x) := by
  have e : tblI L f ++ [(Sum.inr a, V.int i)] = tblI (L ++ [a]) (fun x => if x = a then i else f x) := by
    unfold tblI kvT
    rw [List.map_append, List.map_append]
    congr 1
    · rw [List.map_map, List.map_map]
      refine List.map_congr_left fun x hx => ?_
      show (Sum.inr x, V.int (f x)) = (Sum.inr x, V.int (if x = a then i else f x))
      rw [if_neg fun e => na (by rw [← e]; exact hx)]
    · show [((Sum.inr a : Key), V.int i)] = [(Sum.inr a, V.int (if a = a then i else f a))]
      rw [if_pos rfl]
  rw [e]
  exact merge_nd (by
    rw [tblI_fst]
    exact List.nodup_append.mpr ⟨nd, by simp, fun x hx y hy e => na (by rw [← List.mem_singleton.mp hy, ← e]; exact hx)⟩)
theorem keys_atZ {t : List (Str × Str)} {i : Nat} {k : Key} {v : V} (h : (prs t)[i]? = some (k, v)) : ∃ a p : Str, k = Sum.inr a ∧ v = .str p ∧ t[i]? = some (a, p) := by
  unfold prs kvT at h
  rw [List.map_map, List.getElem?_map] at h
  obtain ⟨⟨a, p⟩, hp, e⟩ := Option.map_eq_some_iff.mp h
  cases e
  exact ⟨a, p, rfl, rfl, hp⟩
theorem SzD.keepX {L : List Str} {M : Addr} {H H' : Hp} {d : Addr} {xs : List V} (k : KeepX [M] H H') (hM : H M = some (.lst xs)) (h : SzD L H d) : SzD L H' d := by
  obtain ⟨f, e⟩ := h
  exact ⟨f, k d _ (by
    rw [List.mem_singleton]
    exact ne_of e hM (by intro z; cases z)) e⟩
theorem SzD.mono {L : List Str} {H H' : Hp} {d : Addr} (s : Same H H') (h : SzD L H d) : SzD L H' d := let ⟨f, e⟩ := h; ⟨f, s _ _ e⟩
theorem take_freshZ {L : List Str} {a : Str} {i : Nat} (nd : L.Nodup) (ha : L[i]? = some a) : a ∉ L.take i := fun hm => by
  obtain ⟨j, hj⟩ := List.mem_iff_getElem?.mp hm
  have jl := (List.getElem?_eq_some_iff.mp hj).1
  rw [List.length_take] at jl
  rw [List.getElem?_take, if_pos (by omega)] at hj
  have := (List.getElem?_inj (by omega) nd).mp (hj.trans ha.symm)
  omega
section
variable {P : Program} {w : World} {K : PySem.W.Frag} {mg : Str → Option Value} {base : Heap}
theorem scAz : FnScope NAz ["_law_parents", "_law_folk"] (defScope s__law_all_sizes) := ⟨rfl, rfl, rfl, by decide +kernel, rfl, by decide +kernel, by decide +kernel⟩
theorem ok_allSz {f0 fF : Addr} {fd fdF : FuncData} (F : Fun K "_law_all_sizes" "_law_all_sizes" s__law_all_sizes f0 fd) (T : Nm mg) (FI : Dn P w K mg base CX0 1 "_law_fits" ["_law_parents", "_law_folk", "_law_wide"] spFits fF fdF) :
    FnOk P w K mg base CX0 2 f0 fd ["_law_parents", "_law_folk"] spAllSz := by
  refine F.ok scAz (fun vs H Q E h => ?_) (fun cdv A outer s H vs Q E hr h => ?_)
  · obtain ⟨q, n, t, rfl, _⟩ := h
    rfl
  · obtain ⟨q, n, t, rfl, hq, o, n1, n3, k⟩ := h
    have hu := hu_of hr
    have nd := scAz.nd
    have hr1 : Room 1 _ := hr.mono (by decide)
    have big : 2000 ≤ sizeLine := by decide
    have few := o.few
    refine ⟨_, pss_cons (ps_set (i := 2) nd rfl (.inl rfl) (pe_lst (pa_cons pe_dnewK pa_nil)))
      (pss_cons (ps_lock (ps_for PassesOwn.never rfl (pi_keys (pv 0)) (pg_name (i := 3) nd rfl (.inr rfl))
        (pss_cons (ps_set (i := 4) nd rfl (.inl rfl) (pe_lst pa_nil))
        (pss_cons (ps_for PassesOwn.never rfl (pi_list (pv 2)) (pg_name (i := 5) nd rfl (.inr rfl))
          (pss_one (ps_expr (pe_bm PySem.F.plainAttrs_list PySem.F.slot_list_extend PySem.F.type_list_extend mt_extend (pv 4) (pa_cons (pe_lc (own := [("_law_size", 6)]) (g := gName 6) (tt := tYes) (te := tCB (fun xs H Q => ∃ (a : Addr) (ps : List Addr) (kvs : List (Key × V)), xs = [.ref a] ∧ SqL K H a (ps.map V.ref) ∧ Paired (fun p kv => SqT K H p [kV kv.1, kv.2]) ps kvs ∧ ∀ p, H p = none → Q (.ref p) (upd H p (.dK (mergeK [] kvs)))) (tCons (tOp rCat (tListItems (tVar 5)) (tLst (tCons (tTup (tCons (tVar 3) (tCons (tVar 6) tNil))) tNil))) tNil)) rfl nd (pi_range1 rfl T.rng (pa_cons (pe_op op_add (pv 1) pe_int) pa_nil)) (blkOk_by (N := NAz) (sc := defScope s__law_all_sizes) (by decide +kernel)) (fun _ _ _ _ _ => pg_name (i := 6) nd rfl (Or.inl rfl)) (fun _ _ _ _ _ => pts_nil)
            (fun _ _ _ _ _ => pe_callTy (call_dictP rfl) (by rfl) T.dct (by decide +kernel) (pa_cons (pe_op op_cat (pe_listItems rfl (pv 5) (by rfl) T.lst (by decide +kernel)) (pe_lst (pa_cons (pe_tup (pa_cons (pv 3) (pa_cons (pv 6) pa_nil))) pa_nil))) pa_nil))) pa_nil)))))
        (pss_one (ps_set (i := 2) nd rfl (.inl rfl) (pv 4)))))))
      (pss_one (ps_ret (pe_lc (own := [("_law_wide", 5)]) (g := gName 5) (tt := tB (tCall spFits [] E0 (tCons (tVar 0) (tCons (tVar 1) (tCons (tVar 5) tNil))))) (te := tVar 5) rfl nd (pi_list (pv 2)) (blkOk_by (N := NAz) (sc := defScope s__law_all_sizes) (by decide +kernel)) (fun _ _ _ _ _ => pg_name (i := 5) nd rfl (Or.inl rfl)) (fun _ _ _ _ _ => pts_one (pt_val (pe_call FI.ok hr1 rfl FI.mgn FI.kp FI.bn .nil pass0 (pa_cons (pv 0) (pa_cons (pv 1) (pa_cons (pv 5) pa_nil)))))) (fun _ _ _ _ _ => pv 5))))), ?_⟩
    refine fun p0 np0 => ⟨by show 1 ≤ sizeLine; omega, fun F0 nF0 => ?_⟩
    have s1 : Same H (upd (upd H p0 (.dK [])) F0 (.lst [.ref p0])) := (same_new np0).trans (same_new nF0)
    have hp0 : (upd (upd H p0 (.dK [])) F0 (.lst [.ref p0])) p0 = some (.dK []) := by
      rw [upd_ne (fun z => by rw [← z, upd_same] at nF0; cases nF0), upd_same]
    obtain ⟨H1, e1⟩ : ∃ X, X = upd (upd H p0 (.dK [])) F0 (.lst [.ref p0]) := ⟨_, rfl⟩
    have hF1 : H1 F0 = some (.lst [.ref p0]) := by rw [e1, upd_same]
    rw [← e1] at s1 hp0 ⊢
    clear e1
    have hq1 := s1 _ _ hq
    have F0q : F0 ≠ q := (ne_of_none ((same_new np0 : Same H _) _ _ hq) nF0).symm
    have p0q : p0 ≠ q := (ne_of_none hq np0).symm
    obtain ⟨L, eL⟩ : ∃ L, L = t.map Prod.fst := ⟨_, rfl⟩
    have ndL : L.Nodup := by rw [eL]; exact o.nd
    refine ⟨q, _, hq1, trivial, fun od => ⟨_, rfl, q, od, rfl, .inl ⟨_, upd_same, ?_⟩⟩⟩
    refine for_it walk_keys (fun j σ' H' => ∃ (F : Addr) (ds : List Addr) (u3 u4 u5 : Option V), σ' = [some (.ref q), some (.int n), some (.ref F), u3, u4, u5, none] ∧ Same (upd H1 q (.frz od (.dK (prs t)))) H' ∧ H' F = some (.lst (ds.map V.ref)) ∧ (∀ d ∈ ds, SzD (L.take j) H' d) ∧ ds.length ≤ 4 ^ j)
      ⟨F0, [p0], _, _, _, rfl, Same.refl, by rw [upd_ne F0q]; exact hF1, fun d hd => ?_, Nat.le_refl _⟩ (fun j σ' H' _ z => by obtain ⟨_, _, _, _, _, _, z, _⟩ := z; exact z _ _ upd_same) ?_ ?_
    · rw [List.mem_singleton.mp hd]
      exact ⟨fun _ => 0, by rw [upd_ne p0q]; exact hp0⟩
    · intro j y σ' Ha Hb hj ⟨F, ds, u3, u4, u5, e, sA, hF, hds, lds⟩ ⟨eb, kk, vv, hk, ey⟩
      subst e
      subst eb
      subst ey
      obtain ⟨a, pa, rfl, rfl, hp⟩ := keys_atZ hk
      rw [show kV (Sum.inr a) = V.str a from rfl]
      have jl : j < t.length := (List.getElem?_eq_some_iff.mp hp).1
      have ha : L[j]? = some a := by rw [eL, List.getElem?_map, hp] <;> rfl
      have na : a ∉ L.take j := take_freshZ ndL ha
      have p12 := pow_line (j := j) (by omega)
      have p13 := pow_line (j := j + 1) (by omega)
      have es : (4 : Nat) ^ (j + 1) = 4 ^ j * 4 := Nat.pow_succ ..
      refine ⟨by show 0 ≤ sizeLine; omega, fun M nM => ?_⟩
      have FM : F ≠ M := ne_of_none hF nM
      obtain ⟨Hm, em⟩ : ∃ X, X = upd Hb M (.lst ([] : List V)) := ⟨_, rfl⟩
      have sm : Same Hb Hm := em ▸ same_new nM
      have hM : Hm M = some (.lst ([] : List V)) := by rw [em, upd_same]
      rw [← em]
      clear em
      refine ⟨_, rfl, F, rfl, ⟨_, SqL.of (sm _ _ hF)⟩, ?_⟩
      refine for_it walk_list (fun i σ' H' => ∃ (es : List Addr) (u5 : Option V), σ' = [some (.ref q), some (.int n), some (.ref F), some (.str a), some (.ref M), u5, none] ∧ KeepX [M] Hm H' ∧ H' M = some (.lst (es.map V.ref)) ∧ (∀ d ∈ es, SzD (L.take (j + 1)) H' d) ∧ es.length ≤ i * 4)
        ⟨[], _, rfl, fun b u _ e => e, hM, fun d hd => (by cases hd), Nat.zero_le _⟩ (fun i σ' H' _ z => by obtain ⟨_, _, _, z, _⟩ := z; exact SqL.of (z _ _ (by rw [List.mem_singleton]; exact FM) (sm _ _ hF))) ?_ ?_
      · intro i y σ' Hx Hy hi ⟨es, u5, e, kx, hM', hes, les⟩ ⟨eb, ex⟩
        subst e
        subst eb
        obtain ⟨d, hd, rfl⟩ := map_of (f := V.ref) (l := ds) ex
        have md := List.mem_of_getElem? hd
        have il : i < ds.length := (List.getElem?_eq_some_iff.mp hd).1
        obtain ⟨f, hf⟩ := ((hds d md).mono sm).keepX kx hM
        refine ⟨_, rfl, .inl ⟨rfl, _, SqL.of hM'⟩, _, rfl, _, _, rfl, rfl, n + 1, rfl, by omega, by omega, fun R nR => ?_⟩
        have few12 : (L.take j).length ≤ 12 := by
          rw [List.length_take, eL, List.length_map]
          omega
        refine lc_it (walk_range (lo := 0) (n := (n + 1).toNat)) (fun x H' => Same Hy H' ∧ ∃ rs : List Addr, H' R = some (.lst (rs.map V.ref)) ∧ (∀ d ∈ rs, SzD (L.take (j + 1)) H' d) ∧ rs.length = x) ⟨same_new nR, [], upd_same, fun d hd => (by cases hd), rfl⟩ (fun _ _ _ _ => trivial) ?_ ?_
        · intro x y Hu Hv hx ⟨sy, rs, hR, hrs, lrs⟩ ⟨e1, e2⟩
          subst e1
          subst e2
          refine ⟨rfl, ?_⟩
          refine ⟨_, rfl, d, _, rfl, sy _ _ hf, fun H3 p1 tps s3 np1 nts pts hp1 prd => ?_⟩
          have s3' : Same Hv H3 := fun b o e => s3 b o e
          refine ⟨_, rfl, _, rfl, by show 2 ≤ sizeLine; omega, fun r nr => ⟨by show 1 ≤ sizeLine; omega, fun l nl => ?_⟩⟩
          have c1 := same_new (o := .tup [.str a, .int (0 + (x : Int))]) nr
          have c2 := same_new (o := .lst [.ref r]) nl
          have ltp : tps.length = (L.take j).length := by
            have z := pair_lenZ prd
            rw [tblI_len] at z
            exact z
          refine ⟨p1, l, _, _, rfl, rfl, c2 _ _ (c1 _ _ hp1), upd_same, by rw [List.length_map, ltp]; show _ + 1 ≤ _; omega, fun c nc => ?_⟩
          have c3 := same_new (o := .lst (tps.map V.ref ++ [.ref r])) nc
          refine ⟨c, tps ++ [r], tblI (L.take j) f ++ [(Sum.inr a, V.int (0 + (x : Int)))], rfl, SqL.of (by rw [upd_same, List.map_append] <;> rfl), pair_appW (pair_impW (fun p kv e => SqT.of (c3 _ _ (c2 _ _ (c1 _ _ e)))) prd) (.cons (SqT.of (c3 _ _ (c2 _ _ upd_same))) .nil), fun D nD => ?_⟩
          rw [tbl_app (ndL.sublist (List.take_sublist _ _)) na, ← take_more ha]
          have c4 := same_new (o := .dK (tblI (L.take (j + 1)) (fun z => if z = a then (0 + (x : Int)) else f z))) nD
          have sF : Same Hv _ := s3'.trans (c1.trans (c2.trans (c3.trans c4)))
          have RD : R ≠ D := ne_of_none (c3 _ _ (c2 _ _ (c1 _ _ (s3' _ _ hR)))) nD
          refine ⟨_, sF _ _ hR, by rw [List.length_map]; omega, (sy.trans sF).put nR, rs ++ [D], by rw [upd_same, List.map_append] <;> rfl, fun d' hd' => ?_, by rw [List.length_append, lrs]; rfl⟩
          rcases List.mem_append.mp hd' with h | h
          · obtain ⟨g, hg⟩ := (hrs d' h).mono sF
            exact ⟨g, by rw [upd_ne (ne_of hg (sF _ _ hR) (by intro z; cases z))]; exact hg⟩
          · rw [List.mem_singleton.mp h]
            exact ⟨_, by rw [upd_ne RD.symm, upd_same]⟩
        intro H4 ⟨s4, rs, hR, hrs, lrs⟩
        have hM4 := s4 _ _ hM'
        have RM : R ≠ M := (ne_of_none hM' nR).symm
        refine ⟨M, R, _, _, rfl, rfl, hM4, hR, by rw [List.length_map, List.length_map, lrs]; omega, es ++ rs, _, rfl, fun b u nb e => ?_, by rw [upd_same, List.map_append], fun d' hd' => ?_, by rw [List.length_append, lrs]; omega⟩
        · rw [upd_ne (fun z => nb (by rw [z]; exact List.mem_singleton_self _))]
          exact s4 _ _ (kx b u nb e)
        · have : SzD (L.take (j + 1)) H4 d' := (List.mem_append.mp hd').elim (fun h => (hes d' h).mono s4) (hrs d')
          obtain ⟨g, hg⟩ := this
          exact ⟨g, by rw [upd_ne (ne_of hg hM4 (by intro z; cases z))]; exact hg⟩
      · intro σ' H5 ⟨es, u5, e, kx, hM', hes, les⟩
        subst e
        rw [List.length_map] at les
        refine ⟨_, rfl, M, es, _, _, _, rfl, fun b u e => kx b u (by rw [List.mem_singleton]; exact ne_of_none (sA _ _ e) nM) (sm _ _ (sA _ _ e)), hM', hes, by omega⟩
    · intro σ' H5 ⟨F, ds, u3, u4, u5, e, sA, hF, hds, lds⟩
      subst e
      rw [prs_len] at hds lds
      have tk : L.take t.length = L := by
        rw [List.take_of_length_le]
        rw [eL, List.length_map]
        exact Nat.le_refl _
      rw [tk] at hds
      have Fq : F ≠ q := ne_of hF (sA _ _ upd_same) (by intro z; cases z)
      have s6 : Same H1 (upd H5 q (.dK (prs t))) := unlock_same hq1 sA
      refine ⟨sA _ _ upd_same, ?_⟩
      obtain ⟨H6, e6⟩ : ∃ X, X = upd H5 q (.dK (prs t)) := ⟨_, rfl⟩
      have hF6 : H6 F = some (.lst (ds.map V.ref)) := by rw [e6, upd_ne Fq]; exact hF
      have hd6 : ∀ d ∈ ds, SzD L H6 d := fun d hd => by
        obtain ⟨g, hg⟩ := hds d hd
        refine ⟨g, ?_⟩
        rw [e6, upd_ne (ne_of hg (sA _ _ upd_same) (by intro z; cases z))]
        exact hg
      rw [← e6] at s6
      show (_ : St → Hp → Prop) _ (upd H5 q (.dK (prs t)))
      rw [← e6]
      clear e6
      have s06 := s1.trans s6
      have p12 := pow_line (j := t.length) few
      refine ⟨_, rfl, F, rfl, ⟨_, SqL.of hF6⟩, fun R nR => ?_⟩
      refine lc_it walk_list (fun j H' => Same H6 H' ∧ ∃ rs : List Addr, H' R = some (.lst (rs.map V.ref)) ∧ (∀ d ∈ rs, ∃ f, H' d = some (.dK (tblI L f)) ∧ Fea t n f) ∧ rs.length ≤ j) ⟨same_new nR, [], upd_same, fun d hd => (by cases hd), Nat.le_refl _⟩ (fun _ H' _ z => SqL.of (z.1 _ _ hF6)) ?_ ?_
      · intro j y Ha Hb hj ⟨sy, rs, hR, hrs, lrs⟩ ⟨eb, ex⟩
        subst eb
        obtain ⟨d, hd, rfl⟩ := map_of (f := V.ref) (l := ds) ex
        have jl : j < ds.length := (List.getElem?_eq_some_iff.mp hd).1
        obtain ⟨f, hf⟩ := hd6 d (List.mem_of_getElem? hd)
        refine ⟨rfl, ?_⟩
        refine ⟨_, rfl, _, rfl, _, rfl, q, d, n, t, L, f, rfl, sy _ _ (s06 _ _ hq), o, sy _ _ hf, by rw [eL], fun H7 s7 => ⟨_, rfl, ?_⟩⟩
        have s8 := sy.trans s7
        cases ef : fitB t n f with
        | true =>
          show if true = true then _ else _
          rw [if_pos rfl]
          refine ⟨_, rfl, _, s7 _ _ hR, by rw [List.length_map]; omega, s8.put nR, rs ++ [d], by rw [upd_same, List.map_append] <;> rfl, fun d' hd' => ?_, by rw [List.length_append, List.length_singleton]; omega⟩
          rcases List.mem_append.mp hd' with h | h
          · obtain ⟨g, hg, fg⟩ := hrs d' h
            exact ⟨g, by rw [upd_ne (ne_of (s7 _ _ hg) (s7 _ _ hR) (by intro z; cases z))]; exact s7 _ _ hg, fg⟩
          · rw [List.mem_singleton.mp h]
            exact ⟨f, by rw [upd_ne (ne_of (s8 _ _ hf) (s7 _ _ hR) (by intro z; cases z))]; exact s8 _ _ hf, fit_fea.mp ef⟩
        | false =>
          refine ⟨s8, rs, s7 _ _ hR, fun d' hd' => ?_, by omega⟩
          obtain ⟨g, hg, fg⟩ := hrs d' hd'
          exact ⟨g, s7 _ _ hg, fg⟩
      · intro H7 ⟨s7, rs, hR, hrs, lrs⟩
        rw [List.length_map] at lrs
        exact k R rs H7 (s06.trans s7) (s06.free nR) hR (by omega) (by rw [← eL]; exact hrs)
end
end FT


/-! _law_fixed_right -/
namespace FT
open PySem L2 TL ClX LiI
def spFixR : Sp := fun vs H Q _ => ∃ (q : Addr) (n : Int) (t : List (Str × Str)), vs = [.ref q, .int n] ∧ H q = some (.dK (prs t)) ∧ TreeOk t ∧ 1 ≤ n ∧ n ≤ 3 ∧ memC t (.int n) = true ∧ ∀ H', Same H H' → Q (.bl true) H'
theorem sz_tblF {K : PySem.W.Frag} {H : Hp} {q : Addr} {l : List Str} {s : Str → Int} (h : H q = some (.dK (tblI l s))) : SzV K H (.ref q) (some (tblI l s)) :=
  ⟨q, rfl, h, fun p hp => by
    obtain ⟨i, hi⟩ := List.mem_iff_getElem?.mp hp
    obtain ⟨k, v⟩ := p
    obtain ⟨a, _, _, rfl⟩ := tblI_at hi
    exact ⟨_, .int _⟩⟩
theorem fixP_congrF {ts : List (Str × Str)} {n : Int} (o : TreeOk ts) {s1 s2 : Str → Int} (h : ∀ a ∈ ts.map Prod.fst, s1 a = s2 a) : fixP ts n s1 = fixP ts n s2 := by
  unfold fixP
  have key : ∀ (rows : List (Str × Int)) (zs : List Str), (∀ y ∈ rows, y.1 ∈ ts.map Prod.fst) → rows.foldl (fixS ts n s1) zs = rows.foldl (fixS ts n s2) zs := by
    intro rows
    induction rows with
    | nil => intro zs _; rfl
    | cons y rows ih =>
      intro zs hy
      have e : fixS ts n s1 zs y = fixS ts n s2 zs y := by
        unfold fixS starI
        rw [h y.1 (hy y List.mem_cons_self)]
      show rows.foldl (fixS ts n s1) (fixS ts n s1 zs y) = rows.foldl (fixS ts n s2) (fixS ts n s2 zs y)
      rw [e]
      exact ih _ fun z hz => hy z (List.mem_cons_of_mem _ hz)
  exact key _ _ fun y hy => (rowsW_perm o).mem_iff.mp (List.mem_map.mpr ⟨y, hy, rfl⟩)
abbrev NFr : List Str := ["_law_parents", "_law_folk", "_law_wood", "_law_rows", "_law_wide", "_law_found", "_law_one", "_law_other"]
section
variable {P : Program} {w : World} {K : PySem.W.Frag} {mg : Str → Option Value} {base : Heap}
theorem scFr : FnScope NFr ["_law_parents", "_law_folk"] (defScope s__law_fixed_right) := ⟨rfl, rfl, rfl, by decide +kernel, rfl, by decide +kernel, by decide +kernel⟩
theorem ok_fixR {f0 fI fA fX fH fB CF CA CS CU CN pT gT pS gS pP gP : Addr} {mc mcA : Value} {fd fdI fdA fdX fdH fdB fd1 fd2 fd3 : FuncData} (F : Fun K "_law_fixed_right" "_law_fixed_right" s__law_fixed_right f0 fd) (T : Nm mg) (Z : Fc K mg CF mc) (B : Ac K mg CA mcA)
    (fi : FnOk P w K mg base CX0 3 fI fdI ["self", "parents"] (spFInit CF)) (fim : Mk K CF fI) (fib : Binds K fdI ["self", "parents"] [])
    (AZ : Dn P w K mg base CX0 2 "_law_all_sizes" ["_law_parents", "_law_folk"] spAllSz fA fdA) (FX : Dn P w K mg base (L2.CX P w) 17 "fixed" ["forest", "users", "sizes"] (spFixed K CF CA CS CU CN) fX fdX)
    (HD : Dn P w K mg base CX0 2 "_law_held" ["_law_parents", "_law_places"] spHeld fH fdH) (AB : Dn P w K mg base CX0 1 "_law_are_best" ["_law_one", "_law_other"] spAreB fB fdB)
    (PT : PrN P w K mg base 1 CA "total" (spATotal CA) pT gT fd1) (PS : PrN P w K mg base 4 CA "sizes" (spASizes CF CA) pS gS fd2) (PP : PrN P w K mg base 1 CA "places" (spAPlaces CA) pP gP fd3) :
    FnOk P w K mg base CX0 18 f0 fd ["_law_parents", "_law_folk"] spFixR := by
  refine F.ok scFr (fun vs H Q E h => ?_) (fun cdv A outer s H vs Q E hr h => ?_)
  · obtain ⟨q, n, t, rfl, _⟩ := h
    rfl
  · obtain ⟨q, n, t, rfl, hq, o, n1, n3, mcT, k⟩ := h
    have hu := hu_of hr
    have nd := scFr.nd
    have hr1 : Room 1 _ := hr.mono (by decide)
    have hr2 : Room 2 _ := hr.mono (by decide)
    have hr4 : Room 4 _ := hr.mono (by decide)
    have hr5 : Room 5 _ := hr.mono (by decide)
    have hr17 : Room 17 _ := hr.mono (by decide)
    have big : 5000 ≤ sizeLine := by decide
    have few := o.few
    refine ⟨_, pss_cons (ps_par (i := 2) (j := 3) rfl nd rfl rfl (by decide) rfl rfl (pa_cons (pe_make fim fi hr4 (by rfl) Z.gF fib .nil pass0 (pa_cons (pv 0) pa_nil)) (pa_cons (pe_lst pa_nil) pa_nil)) (by rfl))
      (pss_cons (ps_for PassesOwn.never rfl (pi_list (pe_call AZ.ok hr2 rfl AZ.mgn AZ.kp AZ.bn .nil pass0 (pa_cons (pv 0) (pa_cons (pv 1) pa_nil)))) (pg_name (i := 4) nd rfl (.inl rfl))
        (pss_cons (ps_set (i := 5) nd rfl (.inl rfl) (pe_call (E := E0) FX.ok hr17 rfl FX.mgn FX.kp FX.bn .nil L2.passL (pa_cons (pv 2) (pa_cons (pv 1) (pa_cons (pv 4) pa_nil)))))
        (pss_cons (ps_if (PW.pt (pw_or (pt_cmpR op_ne (pe_prop (pv 5) B.cl PT.pr PT.fn hr2 PT.bn .nil pass0 (by rfl)) (pv 1) (nomark _)) (pw_or1 (pt_cmpR (op_ne_dictA (Nat.lt_of_succ_lt hu)) (pe_prop (pv 5) B.cl PS.pr PS.fn hr5 PS.bn .nil pass0 (by rfl)) (pv 4) (nomark _))))) (pss_one (ps_ret pe_bl)) pss_nil)
        (pss_one (ps_expr (pe_bm PySem.F.plainAttrs_list PySem.F.slot_list_append PySem.F.type_list_append mt_append (pv 3) (pa_cons (pe_call HD.ok hr2 rfl HD.mgn HD.kp HD.bn .nil pass0 (pa_cons (pv 0) (pa_cons (pe_prop (pv 5) B.cl PP.pr PP.fn hr2 PP.bn .nil pass0 (by rfl)) pa_nil))) pa_nil)))))))
      (pss_cons (ps_for PassesOwn.never rfl (pi_list (pv 3)) (pg_name (i := 6) nd rfl (.inr rfl))
        (pss_one (ps_if (pt_cmpR (op_neNil hr.units) (pe_lc (own := [("_law_other", 7)]) (g := gName 7) (tt := tNot (tB (tCall spAreB [] E0 (tCons (tVar 6) (tCons (tVar 7) tNil))))) (te := tVar 7) rfl nd (pi_list (pv 3)) (blkOk_by (N := NFr) (sc := defScope s__law_fixed_right) (by decide +kernel)) (fun _ _ _ _ _ => pg_name (i := 7) nd rfl (Or.inl rfl)) (fun _ _ _ _ _ => pts_one (pt_not (pt_val (pe_call AB.ok hr1 rfl AB.mgn AB.kp AB.bn .nil pass0 (pa_cons (pv 6) (pa_cons (pv 7) pa_nil)))))) (fun _ _ _ _ _ => pv 7)) (pe_lst pa_nil) (nomark _)) (pss_one (ps_ret pe_bl)) pss_nil)))
      (pss_one (ps_ret pe_bl)))), ?_⟩
    refine ⟨_, rfl, fun x dx nx ndx nxd => ?_⟩
    have sM : Same H (upd (upd H dx (.own x)) x (.ins CF dx [])) := fun b u e => by
      rw [upd_ne (ne_of_none e nx), upd_ne (ne_of_none e ndx)]
      exact e
    refine ⟨x, q, dx, t, rfl, upd_same, sM _ _ hq, o, fun H1 ts pts asc fx1 oth1 => ⟨rfl, ?_⟩⟩
    have s1 : Same H H1 := fun b u e => oth1 b u (ne_of_none e nx) (sM _ _ e)
    have ot : TreeOk ts := o.perm pts.symm
    have pk : (ts.map Prod.fst).Perm (t.map Prod.fst) := pts.map _
    have mc : memC ts (.int n) = true := by rw [memC_perm pts]; exact mcT
    have uo : usersOk (.int n) 60 = true := by
      show (decide (1 ≤ n) && decide (n ≤ 60)) = true
      rw [decide_eq_true n1, decide_eq_true (by omega)] <;> rfl
    refine ⟨by show 0 ≤ sizeLine; omega, fun R nR => ⟨.ref x, .ref R, rfl, ?_⟩⟩
    obtain ⟨H2, e2⟩ : ∃ X, X = upd H1 R (.lst ([] : List V)) := ⟨_, rfl⟩
    have s2 : Same H1 H2 := e2 ▸ same_new nR
    have hR2 : H2 R = some (.lst ([] : List V)) := by rw [e2, upd_same]
    rw [← e2]
    clear e2
    have s02 := s1.trans s2
    have fx2 := fx1.mono s2
    have nRH : H R = none := s1.free nR
    refine ⟨_, rfl, _, rfl, q, n, t, rfl, s02 _ _ hq, o, n1, n3, fun A ds H3 s3 nA hA lds hds => ⟨A, rfl, ⟨_, SqL.of hA⟩, ?_⟩⟩
    have AR : A ≠ R := (ne_of_none hR2 nA).symm
    have s03 := s02.trans s3
    have fx3 := fx2.mono s3
    have hR3 := s3 _ _ hR2
    have kxf : ∀ {Hx : Hp}, KeepX [R] H3 Hx → FAt CF Hx x ts := fun kx => by
      obtain ⟨d1, d2, f1, f2⟩ := id fx3
      exact ⟨d1, d2, kx _ _ (by rw [List.mem_singleton]; exact ne_of f1 hR3 (by intro z; cases z)) f1, kx _ _ (by rw [List.mem_singleton]; exact ne_of f2 hR3 (by intro z; cases z)) f2⟩
    have kq : ∀ {Hx : Hp}, KeepX [R] H3 Hx → Hx q = some (.dK (prs t)) := fun kx => kx q _ (by rw [List.mem_singleton]; exact ne_of_none hq nRH) (s03 _ _ hq)
    refine for_it walk_list (fun j σ' H' => ∃ (rs : List Addr) (u4 u5 : Option V), σ' = [some (.ref q), some (.int n), some (.ref x), some (.ref R), u4, u5, none, none] ∧ KeepX [R] H3 H' ∧ H' R = some (.lst (rs.map V.ref)) ∧ (∀ r ∈ rs, ∃ f, Fea ts n f ∧ HeldN t (fixP ts n f) H3 H' r) ∧ rs.length = j)
      ⟨[], _, _, rfl, fun b u _ e => e, hR3, fun r hr => (by cases hr), rfl⟩ (fun j σ' H' _ z => by obtain ⟨_, _, _, _, z, _⟩ := z; exact SqL.of (z _ _ (by rw [List.mem_singleton]; exact AR) hA)) ?_ ?_
    · intro j yv σ' Ha Hb hj ⟨rs, u4, u5, e, kx, hR, hrs, lrs⟩ ⟨eb, ey⟩
      subst e
      subst eb
      obtain ⟨d, hd, rfl⟩ := map_of (f := V.ref) (l := ds) ey
      have jl : j < ds.length := (List.getElem?_eq_some_iff.mp hd).1
      obtain ⟨f, hf, fe⟩ := hds d (List.mem_of_getElem? hd)
      have hfb := kx d _ (by rw [List.mem_singleton]; exact ne_of hf hR3 (by intro z; cases z)) hf
      have fets : Fea ts n f := Fea.perm pts.symm fe
      have fxb := kxf kx
      refine ⟨_, rfl, _, rfl, _, rfl, x, .int n, .ref d, ts, some (tblI (t.map Prod.fst) f), rfl, fxb, ot, ⟨_, .int _⟩, .inl (sz_tblF hfb), ?_⟩
      rw [if_pos uo]
      refine ⟨n, rfl, ?_⟩
      rw [if_pos mc, fets.ok pk.symm]
      intro y H4 s4 ny ay
      have eP : fixP ts n (szOf ((some (tblI (t.map Prod.fst) f)).getD [])) = fixP ts n f := fixP_congrF ot fun a ha => szOf_tbl (pk.mem_iff.mp ha)
      rw [eP] at ay
      obtain ⟨dy, py, y1, y2⟩ := id ay
      have lz := fixP_len (ts := ts) (n := n) (sz := f) ot
      have plz := fixP_pl (ts := ts) (n := n) (sz := f) ot
      refine ⟨_, rfl, y, dy, _, rfl, y1, y, x, _, rfl, ay, _, rfl, rfl, _, rfl, ?_⟩
      rw [decide_eq_true (show V.int ((fixP ts n f).length : Int) = V.int n by rw [lz, Int.toNat_of_nonneg (by omega)])]
      refine iteF ?_
      refine ⟨_, rfl, y, dy, _, rfl, y1, y, x, ts, _, rfl, ay, fxb.mono s4, ot, plz, fun p5 H5 s5 np5 hp5 => ?_⟩
      refine ⟨_, rfl, p5, d, _, _, rfl, rfl, hp5, s5 _ _ (s4 _ _ hfb), ?_, fun p hp => ?_, _, rfl, iteF ?_⟩
      · rw [tblI_len, tblI_len, pk.length_eq]
      · obtain ⟨jp, hjp⟩ := List.mem_iff_getElem?.mp hp
        obtain ⟨kk', vv⟩ := p
        obtain ⟨a, ha, rfl, rfl⟩ := tblI_at hjp
        have ma := List.mem_of_getElem? ha
        refine ⟨?_, rfl⟩
        rw [fixP_sz ot fets mc ma]
        exact tblI_val (pk.mem_iff.mp ma)
      have s45 := s4.trans s5
      have hR5 := s45 _ _ hR
      refine ⟨_, rfl, .inl ⟨rfl, _, SqL.of hR5⟩, _, rfl, _, rfl, y, dy, _, rfl, s5 _ _ y1, y, x, _, rfl, ay.mono s5, fun p6 np6 => ?_⟩
      have s6 := same_new (o := .lst ((fixP ts n f).map V.str)) np6
      refine ⟨q, p6, t, fixP ts n f, rfl, s6 _ _ (s45 _ _ (kq kx)), o, upd_same, fun z hz => (plz z hz).imp id fun m => pk.mem_iff.mp m, by omega, fun h7 H7 s7 hh7 => ?_⟩
      have s47 := s45.trans (s6.trans s7)
      refine ⟨R, _, _, rfl, rfl, s47 _ _ hR, by rw [List.length_map]; omega, rs ++ [h7], _, _, rfl, fun b u nb e => ?_, by rw [upd_same, List.map_append] <;> rfl, fun r hr => ?_, by rw [List.length_append, lrs]; rfl⟩
      · rw [upd_ne (fun z => nb (by rw [z]; exact List.mem_singleton_self _))]
        exact s47 _ _ (kx b u nb e)
      · have kxR : ∀ {u : HO}, KeepX [R] H7 (upd H7 R u) := fun b u nb e => by
          rw [upd_ne (fun z => nb (by rw [z]; exact List.mem_singleton_self _))]
          exact e
        rcases List.mem_append.mp hr with h | h
        · obtain ⟨g, fg, hg⟩ := hrs r h
          exact ⟨g, fg, hg.keepX hR3 fun b u nb e => kxR b u nb (s47 _ _ e)⟩
        · rw [List.mem_singleton.mp h]
          refine ⟨f, fets, ?_⟩
          obtain ⟨w0, xs, w1, w2, w3⟩ := hh7
          have back : ∀ {b : Addr}, (upd H5 p6 (.lst ((fixP ts n f).map V.str))) b = none → H3 b = none := fun {b} hb => by
            have z := s45.free (s6.free hb)
            cases e3 : H3 b with
            | none => rfl
            | some u =>
              have nb : b ∉ [R] := fun m => by
                rw [List.mem_singleton.mp m, hR] at z
                cases z
              rw [kx b u nb e3] at z
              cases z
          exact HeldN.keepX (H := H3) ⟨back w0, xs, w1, w2, fun z hz => ⟨back (w3 z hz).1, (w3 z hz).2⟩⟩ hR3 kxR
    · intro σ' H4 ⟨rs, u4, u5, e, kx, hR, hrs, lrs⟩
      subst e
      rw [List.length_map] at lrs
      have hall : ∀ r ∈ rs, ∃ f, Fea ts n f ∧ HeldAt t (fixP ts n f) H4 r := fun r hr => let ⟨f, a, b⟩ := hrs r hr; ⟨f, a, b.at⟩
      have s04 : Same H H4 := fun b u e => kx b u (by rw [List.mem_singleton]; exact ne_of_none e nRH) (s03 _ _ e)
      refine ⟨_, rfl, R, rfl, ⟨_, SqL.of hR⟩, ?_⟩
      refine for_it walk_list (fun j σ' H' => (∃ u4 u5 u6, σ' = [some (.ref q), some (.int n), some (.ref x), some (.ref R), u4, u5, u6, none]) ∧ Same H4 H') ⟨⟨_, _, _, rfl⟩, Same.refl⟩ (fun j σ' H' _ z => SqL.of (z.2 _ _ hR)) ?_ ?_
      · intro j yv σ' Ha Hb hj ⟨⟨v4, v5, v6, e⟩, sa⟩ ⟨eb, ey⟩
        subst e
        subst eb
        obtain ⟨r, hr', rfl⟩ := map_of (f := V.ref) (l := rs) ey
        obtain ⟨f1, fe1, h1⟩ := hall r (List.mem_of_getElem? hr')
        refine ⟨_, rfl, R, rfl, ⟨_, SqL.of (sa _ _ hR)⟩, fun D nD => ?_⟩
        refine lc_it walk_list (fun i H' => Same Hb H' ∧ H' D = some (.lst ([] : List V))) ⟨same_new nD, upd_same⟩ (fun i H' _ z => SqL.of (z.1 _ _ (sa _ _ hR))) ?_ ?_
        · intro i yv Hx Hy hi ⟨c1, c2⟩ ⟨eb, ex⟩
          subst eb
          obtain ⟨r2, hr2, rfl⟩ := map_of (f := V.ref) (l := rs) ex
          obtain ⟨f2, fe2, h2⟩ := hall r2 (List.mem_of_getElem? hr2)
          have c0 := sa.trans c1
          have l1 := fixP_len (ts := ts) (n := n) (sz := f1) ot
          have l2 := fixP_len (ts := ts) (n := n) (sz := f2) ot
          refine ⟨rfl, ?_⟩
          refine ⟨_, rfl, _, rfl, r, r2, t, _, _, rfl, h1.mono c0, h2.mono c0, o, by omega, by omega, fun H8 s8 => ⟨_, rfl, ?_⟩⟩
          rw [fix_arB pts ot fe1 fe2 mc]
          exact ⟨c1.trans s8, s8 _ _ c2⟩
        intro H8 ⟨c1, c2⟩
        refine ⟨by show 0 ≤ sizeLine; omega, fun e1 ne1 => ?_⟩
        have d1 := same_new (o := .lst ([] : List V)) ne1
        refine ⟨D, e1, _, rfl, rfl, d1 _ _ c2, upd_same, _, rfl, iteF ⟨⟨_, _, _, rfl⟩, sa.trans (c1.trans d1)⟩⟩
      · intro σ' H8 ⟨⟨v4, v5, v6, e⟩, sa⟩
        subst e
        exact k _ (s04.trans sa)
end
end FT


/-! _law_all_places -/
namespace FT
open PySem L2 TL ClX LiI
/-- a list of so many places -/
def PlD (t : List (Str × Str)) (n : Nat) (H : Hp) (d : Addr) : Prop := ∃ zs : List Str, H d = some (.lst (zs.map V.str)) ∧ zs.length = n ∧ ∀ z ∈ zs, Pl t z
theorem PlD.mono {t : List (Str × Str)} {n : Nat} {H H' : Hp} {d : Addr} (s : Same H H') (h : PlD t n H d) : PlD t n H' d := let ⟨f, e, r⟩ := h; ⟨f, s _ _ e, r⟩
theorem PlD.keepX {t : List (Str × Str)} {n : Nat} {M : Addr} {H H' : Hp} {d : Addr} (k : KeepX [M] H H') (ne : d ≠ M) (h : PlD t n H d) : PlD t n H' d := let ⟨f, e, r⟩ := h; ⟨f, k d _ (by rw [List.mem_singleton]; exact ne) e, r⟩
theorem PlD.put {t : List (Str × Str)} {n : Nat} {M : Addr} {H : Hp} {d : Addr} {u : HO} (ne : d ≠ M) (h : PlD t n H d) : PlD t n (upd H M u) d := let ⟨f, e, r⟩ := h; ⟨f, by rw [upd_ne ne]; exact e, r⟩
theorem PlD.there {t : List (Str × Str)} {n : Nat} {H : Hp} {d M : Addr} (h : PlD t n H d) (nM : H M = none) : d ≠ M := let ⟨_, e, _⟩ := h; ne_of_none e nM
def spAllPl : Sp := fun vs H Q _ => ∃ (q : Addr) (n : Nat) (t : List (Str × Str)), vs = [.ref q, .int (n : Int)] ∧ H q = some (.dK (prs t)) ∧ TreeOk t ∧ n ≤ 3 ∧
  ∀ (R : Addr) (ds : List Addr) (H' : Hp), Same H H' → H R = none → H' R = some (.lst (ds.map V.ref)) → ds.length ≤ 13 ^ n → (∀ d ∈ ds, PlD t n H' d) → Q (.ref R) H'
abbrev NAp : List Str := ["_law_parents", "_law_folk", "_law_found", "_law_k", "_law_more", "_law_places", "_law_place"]
section
variable {P : Program} {w : World} {K : PySem.W.Frag} {mg : Str → Option Value} {base : Heap}
theorem scAp : FnScope NAp ["_law_parents", "_law_folk"] (defScope s__law_all_places) := ⟨rfl, rfl, rfl, by decide +kernel, rfl, by decide +kernel, by decide +kernel⟩
theorem ok_allPl {f0 : Addr} {fd : FuncData} (F : Fun K "_law_all_places" "_law_all_places" s__law_all_places f0 fd) (T : Nm mg) : FnOk P w K mg base CX0 2 f0 fd ["_law_parents", "_law_folk"] spAllPl := by
  refine F.ok scAp (fun vs H Q E h => ?_) (fun cdv A outer s H vs Q E hr h => ?_)
  · obtain ⟨q, n, t, rfl, _⟩ := h
    rfl
  · obtain ⟨q, n, t, rfl, hq, o, n3, k⟩ := h
    have hu := hu_of hr
    have nd := scAp.nd
    have big : 30000 ≤ sizeLine := by decide
    have few := o.few
    refine ⟨_, pss_cons (ps_set (i := 2) nd rfl (.inl rfl) (pe_lst (pa_cons (pe_lst pa_nil) pa_nil)))
      (pss_cons (ps_for PassesOwn.never rfl (pi_range1 rfl T.rng (pa_cons (pv 1) pa_nil)) (pg_name (i := 3) nd rfl (.inl rfl))
        (pss_cons (ps_set (i := 4) nd rfl (.inl rfl) (pe_lst pa_nil))
        (pss_cons (ps_for PassesOwn.never rfl (pi_list (pv 2)) (pg_name (i := 5) nd rfl (.inr rfl))
          (pss_one (ps_expr (pe_bm PySem.F.plainAttrs_list PySem.F.slot_list_extend PySem.F.type_list_extend mt_extend (pv 4) (pa_cons (pe_lc (own := [("_law_place", 6)]) (g := gName 6) (tt := tYes) (te := tOp rCat (tVar 5) (tLst (tCons (tVar 6) tNil))) rfl nd (pi_list (pe_op op_cat (pe_lst (pa_cons pe_str pa_nil)) (pe_callB (call_sortedD rfl) (by rfl) T.srt (by decide +kernel) (pa_cons (pv 0) pa_nil)))) (blkOk_by (N := NAp) (sc := defScope s__law_all_places) (by decide +kernel)) (fun _ _ _ _ _ => pg_name (i := 6) nd rfl (Or.inl rfl)) (fun _ _ _ _ _ => pts_nil)
            (fun _ _ _ _ _ => pe_op op_cat (pv 5) (pe_lst (pa_cons (pv 6) pa_nil)))) pa_nil)))))
        (pss_one (ps_set (i := 2) nd rfl (.inl rfl) (pv 4))))))
      (pss_one (ps_ret (pv 2)))), ?_⟩
    refine ⟨by show 0 ≤ sizeLine; omega, fun p0 np0 => ⟨by show 1 ≤ sizeLine; omega, fun F0 nF0 => ?_⟩⟩
    have s0 := same_new (o := .lst ([] : List V)) np0
    have s1 : Same H (upd (upd H p0 (.lst ([] : List V))) F0 (.lst [.ref p0])) := s0.trans (same_new nF0)
    have hp0 : (upd (upd H p0 (.lst ([] : List V))) F0 (.lst [.ref p0])) p0 = some (.lst ([] : List V)) := by
      rw [upd_ne (fun z => by rw [← z, upd_same] at nF0; cases nF0), upd_same]
    obtain ⟨H1, e1⟩ : ∃ X, X = upd (upd H p0 (.lst ([] : List V))) F0 (.lst [.ref p0]) := ⟨_, rfl⟩
    have hF1 : H1 F0 = some (.lst [.ref p0]) := by rw [e1, upd_same]
    rw [← e1] at s1 hp0 ⊢
    clear e1
    have nF : H F0 = none := s0.free nF0
    refine ⟨_, rfl, (n : Int), rfl, by omega, by omega, ?_⟩
    refine for_it (walk_range (lo := 0) (n := (n : Int).toNat)) (fun j σ' H' => ∃ (F : Addr) (ds : List Addr) (u3 u4 u5 : Option V), σ' = [some (.ref q), some (.int (n : Int)), some (.ref F), u3, u4, u5, none] ∧ Same H H' ∧ H F = none ∧ H' F = some (.lst (ds.map V.ref)) ∧ (∀ d ∈ ds, PlD t j H' d) ∧ ds.length ≤ 13 ^ j)
      ⟨F0, [p0], _, _, _, rfl, s1, nF, hF1, fun d hd => ?_, Nat.le_refl _⟩ (fun _ _ _ _ _ => trivial) ?_ ?_
    · rw [List.mem_singleton.mp hd]
      exact ⟨[], hp0, rfl, fun z hz => by cases hz⟩
    · intro j y σ' Ha Hb hj ⟨F, ds, u3, u4, u5, e, sA, nFH, hF, hds, lds⟩ ⟨eb, ey⟩
      subst e
      subst eb
      subst ey
      have j3 : j < 3 := by omega
      have es : (13 : Nat) ^ (j + 1) = 13 ^ j * 13 := Nat.pow_succ ..
      have p3 : (13 : Nat) ^ (j + 1) ≤ 13 ^ 3 := Nat.pow_le_pow_right (by decide) (by omega)
      have p33 : (13 : Nat) ^ 3 = 2197 := by decide
      refine ⟨by show 0 ≤ sizeLine; omega, fun M nM => ?_⟩
      have FM : F ≠ M := ne_of_none hF nM
      obtain ⟨Hm, em⟩ : ∃ X, X = upd Hb M (.lst ([] : List V)) := ⟨_, rfl⟩
      have sm : Same Hb Hm := em ▸ same_new nM
      have hM : Hm M = some (.lst ([] : List V)) := by rw [em, upd_same]
      rw [← em]
      clear em
      refine ⟨_, rfl, F, rfl, ⟨_, SqL.of (sm _ _ hF)⟩, ?_⟩
      refine for_it walk_list (fun i σ' H' => ∃ (es : List Addr) (u5 : Option V), σ' = [some (.ref q), some (.int (n : Int)), some (.ref F), some (.int (0 + (j : Int))), some (.ref M), u5, none] ∧ KeepX [M] Hm H' ∧ H' M = some (.lst (es.map V.ref)) ∧ (∀ d ∈ es, PlD t (j + 1) H' d ∧ d ≠ M) ∧ es.length ≤ i * 13)
        ⟨[], _, rfl, fun b u _ e => e, hM, fun d hd => (by cases hd), Nat.zero_le _⟩ (fun i σ' H' _ z => by obtain ⟨_, _, _, z, _⟩ := z; exact SqL.of (z _ _ (by rw [List.mem_singleton]; exact FM) (sm _ _ hF))) ?_ ?_
      · intro i y σ' Hx Hy hi ⟨es, u5, e, kx, hM', hes, les⟩ ⟨eb, ex⟩
        subst e
        subst eb
        obtain ⟨d, hd, rfl⟩ := map_of (f := V.ref) (l := ds) ex
        have md := List.mem_of_getElem? hd
        have il : i < ds.length := (List.getElem?_eq_some_iff.mp hd).1
        have dM : d ≠ M := (hds d md).there nM
        obtain ⟨zs, hz, lz, plz⟩ := ((hds d md).mono sm).keepX kx dM
        have Mq : q ≠ M := ne_of_none (sA _ _ hq) nM
        have hqy := kx q _ (by rw [List.mem_singleton]; exact Mq) (sm _ _ (sA _ _ hq))
        refine ⟨_, rfl, .inl ⟨rfl, _, SqL.of hM'⟩, by show 1 ≤ sizeLine; omega, fun b0 nb0 => ?_⟩
        have c0 := same_new (o := .lst [V.str ""]) nb0
        refine ⟨_, rfl, q, prs t, t.map Prod.fst, rfl, .inl (c0 _ _ hqy), prs_keys t, by rw [List.length_map]; omega, fun ks pn pks srt npn => ?_⟩
        have c1 := same_new (o := .lst (ks.map V.str)) npn
        have lks := pks.length_eq
        rw [List.length_map] at lks
        refine ⟨b0, pn, _, _, rfl, rfl, c1 _ _ upd_same, upd_same, by rw [List.length_map]; show 1 + _ ≤ _; omega, fun pc npc => ?_⟩
        have c2 := same_new (o := .lst ([V.str ""] ++ ks.map V.str)) npc
        have sS := c0.trans (c1.trans c2)
        refine ⟨pc, rfl, ⟨_, SqL.of upd_same⟩, fun R nR => ?_⟩
        obtain ⟨Hs, eHs⟩ : ∃ X, X = upd (upd (upd Hy b0 (.lst [V.str ""])) pn (.lst (ks.map V.str))) pc (.lst ([V.str ""] ++ ks.map V.str)) := ⟨_, rfl⟩
        have hpc : Hs pc = some (.lst ((("" : Str) :: ks).map V.str)) := by rw [eHs, upd_same] <;> rfl
        rw [← eHs] at nR sS ⊢
        clear eHs c0 c1 c2
        refine lc_it walk_list (fun x H' => Same Hs H' ∧ ∃ rs : List Addr, H' R = some (.lst (rs.map V.ref)) ∧ (∀ d ∈ rs, PlD t (j + 1) H' d ∧ d ≠ R ∧ Hs d = none) ∧ rs.length = x) ⟨same_new nR, [], upd_same, fun d hd => (by cases hd), rfl⟩ (fun x H' _ z => SqL.of (z.1 _ _ hpc)) ?_ ?_
        · intro x y Hu Hv hx ⟨sy, rs, hR, hrs, lrs⟩ ⟨e1, ex⟩
          subst e1
          obtain ⟨b, hb, rfl⟩ := map_of (f := V.str) (l := ("" : Str) :: ks) ex
          have pb : Pl t b := by
            rcases List.mem_cons.mp (List.mem_of_getElem? hb) with h | h
            · exact .inl h
            · exact .inr (pks.mem_iff.mp h)
          refine ⟨rfl, ?_⟩
          refine ⟨_, rfl, _, rfl, by show 1 ≤ sizeLine; omega, fun l nl => ?_⟩
          have c3 := same_new (o := .lst [V.str b]) nl
          have xl : x < 13 := by
            rw [List.length_map, List.length_cons, lks] at hx
            omega
          refine ⟨d, l, _, _, rfl, rfl, c3 _ _ (sy _ _ (sS _ _ hz)), upd_same, by rw [List.length_map, lz]; show _ + 1 ≤ _; omega, fun D nD => ?_⟩
          have c4 := same_new (o := .lst (zs.map V.str ++ [V.str b])) nD
          have sF := c3.trans c4
          have RD : R ≠ D := ne_of_none (c3 _ _ hR) nD
          refine ⟨_, sF _ _ hR, by rw [List.length_map]; omega, (sy.trans sF).put nR, rs ++ [D], by rw [upd_same, List.map_append] <;> rfl, fun d' hd' => ?_, by rw [List.length_append, lrs]; rfl⟩
          rcases List.mem_append.mp hd' with h | h
          · obtain ⟨g1, g2, g3⟩ := hrs d' h
            exact ⟨(g1.mono sF).put g2, g2, g3⟩
          · rw [List.mem_singleton.mp h]
            refine ⟨⟨zs ++ [b], by rw [upd_ne RD.symm, upd_same, List.map_append] <;> rfl, by rw [List.length_append, lz]; rfl, fun z hz' => ?_⟩, RD.symm, sy.free (c3.free nD)⟩
            rcases List.mem_append.mp hz' with h' | h'
            · exact plz z h'
            · rw [List.mem_singleton.mp h']
              exact pb
        intro H4 ⟨s4, rs, hR, hrs, lrs⟩
        rw [List.length_map, List.length_cons, lks] at lrs
        have sy4 := sS.trans s4
        have hM4 := sy4 _ _ hM'
        have RM : R ≠ M := (ne_of_none (sS _ _ hM') nR).symm
        refine ⟨M, R, _, _, rfl, rfl, hM4, hR, by rw [List.length_map, List.length_map, lrs]; omega, es ++ rs, _, rfl, fun b u nb e => ?_, by rw [upd_same, List.map_append], fun d' hd' => ?_, by rw [List.length_append, lrs]; omega⟩
        · rw [upd_ne (fun z => nb (by rw [z]; exact List.mem_singleton_self _))]
          exact sy4 _ _ (kx b u nb e)
        · rcases List.mem_append.mp hd' with h | h
          · obtain ⟨g1, g2⟩ := hes d' h
            exact ⟨(g1.mono sy4).put g2, g2⟩
          · obtain ⟨g1, g2, g3⟩ := hrs d' h
            have nm : d' ≠ M := (ne_of_none (sS _ _ hM') g3).symm
            exact ⟨g1.put nm, nm⟩
      · intro σ' H5 ⟨es, u5, e, kx, hM', hes, les⟩
        subst e
        rw [List.length_map] at les
        refine ⟨_, rfl, M, es, _, _, _, rfl, fun b u e => kx b u (by rw [List.mem_singleton]; exact ne_of_none (sA _ _ e) nM) (sm _ _ (sA _ _ e)), sA.free nM, hM', fun d hd => (hes d hd).1, by omega⟩
    · intro σ' H5 ⟨F, ds, u3, u4, u5, e, sA, nFH, hF, hds, lds⟩
      subst e
      rw [Int.toNat_natCast] at hds lds
      exact ⟨_, rfl, k F ds H5 sA nFH hF lds hds⟩
end
end FT


/-! _law_counted: the sizes of a list of places -/
namespace FT
open PySem L2 TL ClX LiI
def spCounted : Sp := fun vs H Q _ => ∃ (q l : Addr) (t : List (Str × Str)) (zs : List Str), vs = [.ref q, .ref l] ∧ H q = some (.dK (prs t)) ∧ TreeOk t ∧ H l = some (.lst (zs.map V.str)) ∧ (∀ z ∈ zs, Pl t z) ∧
  ∀ (ks : List Str) (p : Addr) (H' : Hp), Same H H' → H p = none → ks.Perm (t.map Prod.fst) → PyProof.Rows.sortedS ks = true → H' p = some (.dK (tblI ks (szZ t zs))) → Q (.ref p) H'
section
variable {P : Program} {w : World} {K : PySem.W.Frag} {mg : Str → Option Value} {base : Heap}
abbrev NCd : List Str := ["_law_parents", "_law_places", "_law_name", "_law_wide", "_law_place"]
theorem scCd : FnScope NCd ["_law_parents", "_law_places"] (defScope s__law_counted) := ⟨rfl, rfl, rfl, by decide +kernel, rfl, by decide +kernel, by decide +kernel⟩
theorem ok_counted {f fP : Addr} {fd fdP : FuncData} (F : Fun K "_law_counted" "_law_counted" s__law_counted f fd) (T : Nm mg) (DP : Dn P w K mg base CX0 1 "_law_path" ["_law_parents", "_law_place"] spPathL fP fdP) : FnOk P w K mg base CX0 2 f fd ["_law_parents", "_law_places"] spCounted := by
  refine F.ok scCd (fun vs H Q E h => ?_) (fun cdv A outer s H vs Q E hr h => ?_)
  · obtain ⟨q, l, t, zs, rfl, _⟩ := h
    rfl
  · obtain ⟨q, l, t, zs, rfl, hq, o, hl, pl, k⟩ := h
    have hu := hu_of hr
    have nd := scCd.nd
    have big : 1000 ≤ sizeLine := by decide
    have few := o.few
    refine ⟨_, pss_cons (ps_set (i := 3) nd rfl (.inl rfl) (pe_callTy (call_dictP rfl) (by rfl) T.dct (by decide +kernel) (pa_cons (pe_lc (own := [("_law_name", 2)]) (g := gName 2) (tt := tYes) rfl nd (pi_list (pe_callB (call_sortedD rfl) (by rfl) T.srt (by decide +kernel) (pa_cons (pv 0) pa_nil)))
          (blkOk_by (N := NCd) (sc := defScope s__law_counted) (by decide +kernel)) (fun _ _ _ _ _ => pg_name (i := 2) nd rfl (Or.inl rfl)) (fun _ _ _ _ _ => pts_nil) (fun _ _ _ _ _ => pe_tup (pa_cons (pv 2) (pa_cons pe_int pa_nil)))) pa_nil)))
      (pss_cons (ps_for PassesOwn.never rfl (pi_list (pv 1)) (pg_name (i := 4) nd rfl (.inl rfl))
        (pss_one (ps_for PassesOwn.never rfl (pi_list (pe_call DP.ok hr rfl DP.mgn DP.kp DP.bn .nil pass0 (pa_cons (pv 0) (pa_cons (pv 4) pa_nil)))) (pg_name (i := 2) nd rfl (.inl rfl))
          (pss_one (ps_dput hu (pv 3) (pv 2) (pe_op op_add (pe_dget hu (pv 3) (pv 2) (fun _ _ => rfl)) pe_int) rfl)))))
      (pss_one (ps_ret (pv 3)))), ?_⟩
    refine ⟨_, rfl, q, prs t, t.map Prod.fst, rfl, .inl hq, prs_keys t, by rw [List.length_map]; omega, fun ks pf perm srt nf => ⟨pf, rfl, ⟨_, SqL.of upd_same⟩, fun D nD => ?_⟩⟩
    have lk := perm.length_eq
    rw [List.length_map] at lk
    have ndk : ks.Nodup := perm.nodup_iff.mpr o.nd
    obtain ⟨H1, e1⟩ : ∃ X, X = upd H pf (.lst (ks.map V.str)) := ⟨_, rfl⟩
    have s1 : Same H H1 := e1 ▸ same_new nf
    have a1 : H1 pf = some (.lst (ks.map V.str)) := by rw [e1]; exact upd_same
    rw [← e1] at nD ⊢
    refine lc_it walk_list (fun i H' => Same H1 H' ∧ ∃ rs : List Addr, H' D = some (.lst (rs.map V.ref)) ∧ PrG (fun _ => .int 0) H' rs (ks.take i)) ⟨same_new nD, [], upd_same, .nil⟩ (fun i H' _ z => SqL.of (z.1 _ _ a1)) ?_ ?_
    · intro i y Hz Ha hi ⟨z1, rs, hD, pr⟩ ⟨eb, ex⟩
      subst eb
      obtain ⟨a, ha, rfl⟩ := map_of ex
      have lr := pr.len
      rw [List.length_take] at lr
      refine ⟨rfl, ?_⟩
      refine ⟨_, rfl, by show 2 ≤ sizeLine; omega, fun tq ntq => ?_⟩
      have sq : Same Ha (upd Ha tq (.tup [.str a, .int 0])) := same_new ntq
      refine ⟨_, sq _ _ hD, by rw [List.length_map]; omega, (z1.trans sq).put nD, rs ++ [tq], by rw [upd_same, List.map_append] <;> rfl, ?_⟩
      rw [take_more ha]
      exact PrG.push (sq _ _ hD) (PrG.snoc upd_same (pr.mono sq))
    intro H2 ⟨z1, rs, hD, pr⟩
    rw [List.length_map, List.take_length] at pr
    refine ⟨D, rs, _, rfl, SqL.of hD, pr.kvs, fun pd npd => ?_⟩
    rw [merge_nd (by rw [map_fst]; exact ndk)]
    have s02 : Same H H2 := s1.trans z1
    have np0 : H pd = none := s02.free npd
    obtain ⟨H3, e3⟩ : ∃ X, X = upd H2 pd (.dK (kvT (ks.map fun a => (a, V.int 0)))) := ⟨_, rfl⟩
    have s03 : Same H H3 := e3 ▸ s02.trans (same_new npd)
    have hp3 : H3 pd = some (.dK (tblI ks (szZ t []))) := by rw [e3, upd_same] <;> rfl
    rw [← e3]
    refine ⟨_, rfl, l, rfl, ⟨_, SqL.of (s03 _ _ hl)⟩, ?_⟩
    refine for_it walk_list (fun j σ' H' => (∃ u2 u4, σ' = [some (.ref q), some (.ref l), u2, some (.ref pd), u4]) ∧ Same H H' ∧ H' pd = some (.dK (tblI ks (szZ t (zs.take j))))) ⟨⟨_, _, rfl⟩, s03, by rw [List.take_zero]; exact hp3⟩ (fun j σ' H' _ z => SqL.of (z.2.1 _ _ hl)) ?_ ?_
    · intro j y σ' Hz Ha hj ⟨⟨u2, u4, e⟩, sa, hpd⟩ ⟨eb, ex⟩
      subst e
      subst eb
      obtain ⟨z, hz, rfl⟩ := map_of ex
      have mz := pl z (List.mem_of_getElem? hz)
      refine ⟨_, rfl, _, rfl, q, z, t, rfl, .inl (sa _ _ hq), o, mz, fun pt H4 s4 npt hpt => ?_⟩
      have pdt : pd ≠ pt := ne_of_none hpd npt
      have nt0 : H pt = none := sa.free npt
      refine ⟨pt, rfl, ⟨_, SqL.of hpt⟩, ?_⟩
      have nodup : (pathOf t z).reverse.Nodup := (List.reverse_perm _).nodup_iff.mpr (path_nd o mz)
      refine for_it walk_list (fun i σ' H' => (∃ u2, σ' = [some (.ref q), some (.ref l), u2, some (.ref pd), some (.str z)]) ∧ Same H H' ∧ H' pt = some (.lst ((pathOf t z).reverse.map V.str)) ∧ H' pd = some (.dK (tblI ks fun a => szZ t (zs.take j) a + if a ∈ (pathOf t z).reverse.take i then 1 else 0)))
        ⟨⟨_, rfl⟩, sa.trans s4, hpt, by rw [s4 _ _ hpd]; congr 2⟩ (fun i σ' H' _ w => SqL.of w.2.2.1) ?_ ?_
      · intro i y2 σ2 Hy Hb hi ⟨⟨u2', e⟩, sb, hpt', hpd'⟩ ⟨eb, ex⟩
        subst e
        subst eb
        obtain ⟨b, hb, rfl⟩ := map_of ex
        have mb := perm.mem_iff.mpr (path_all o mz b (List.mem_reverse.mp (List.mem_of_getElem? hb)))
        have nb := nat_fresh nodup hb
        have dg : DGet Hb pd (.str b) (some (.int (szZ t (zs.take j) b + 0))) := by
          have w := DGet.k (k := Sum.inr b) hpd'
          rw [tblI_val mb, if_neg nb] at w
          exact w
        refine ⟨_, rfl, _, rfl, pd, _, rfl, dg, _, _, rfl, rfl, _, rfl, _, rfl, pd, _, rfl, DPut.k (k := Sum.inr b) hpd' (by rw [tblI_len]; omega), ?_⟩
        rw [tblI_put mb]
        refine ⟨⟨_, rfl⟩, sb.put np0, by rw [upd_ne pdt.symm]; exact hpt', ?_⟩
        rw [upd_same, take_more hb]
        congr 2
        refine tblI_congr fun a _ => ?_
        by_cases w : a = b
        · rw [if_pos w, w, if_pos (List.mem_append_right _ (List.mem_singleton_self _)), Int.add_zero]
        · rw [if_neg w]
          by_cases m : a ∈ (pathOf t z).reverse.take i
          · rw [if_pos m, if_pos (List.mem_append_left _ m)]
          · rw [if_neg m, if_neg fun h => (List.mem_append.mp h).elim m fun h => w (List.mem_singleton.mp h)]
      · intro σ2 Hb ⟨⟨u2', e⟩, sb, hpt', hpd'⟩
        subst e
        rw [List.length_map, List.take_length] at hpd'
        refine ⟨⟨_, _, rfl⟩, sb, ?_⟩
        rw [hpd']
        congr 2
        refine tblI_congr fun a _ => ?_
        rw [szZ_more hz]
        by_cases m : a ∈ pathOf t z
        · rw [if_pos m, if_pos (List.mem_reverse.mpr m)]
        · rw [if_neg m, if_neg fun h => m (List.mem_reverse.mp h)]
    · intro σ' H4 ⟨⟨u2, u4, e⟩, sa, hpd⟩
      subst e
      rw [List.length_map, List.take_length] at hpd
      exact ⟨_, rfl, k ks pd H4 sa np0 perm srt hpd⟩
end
end FT


/-! _law_witness_right -/
namespace FT
open PySem L2 TL ClX LiI
def spWitR : Sp := fun vs H Q _ => ∃ (q Rt q0 q1 q2 : Addr) (n : Nat) (t ts : List (Str × Str)), vs = [.ref q, .int (n : Int), .ref Rt] ∧ H q = some (.dK (prs t)) ∧ TreeOk t ∧ ts.Perm t ∧ 2 ≤ n ∧ n ≤ 3 ∧ twoC ts = false ∧ H Rt = some (.lst [.ref q0, .ref q1, .ref q2]) ∧
  H q0 = some (.dK (tblI (ts.map Prod.fst) (wW ts n 0))) ∧ H q1 = some (.dK (tblI (ts.map Prod.fst) (wW ts n 1))) ∧ H q2 = some (.dK (tblI (ts.map Prod.fst) (wW ts n 2))) ∧ ∀ H', Same H H' → Q (.bl true) H'
theorem eqDK_tbl {ks L : List Str} {f g : Str → Int} (h : eqDK (tblI ks f) (tblI L g) = true) : ∀ a ∈ ks, a ∈ L → f a = g a := fun a ha hl => by
  unfold eqDK at h
  have h2 := List.all_eq_true.mp (Bool.and_eq_true_iff.mp h).2 (Sum.inr a, V.int (f a)) (by
    unfold tblI kvT
    rw [List.map_map]
    exact List.mem_map.mpr ⟨a, ha, rfl⟩)
  unfold rowEq at h2
  rw [tblI_val hl] at h2
  have h3 := h2
  simp [eqV] at h3
  omega
theorem tbl_flat {l : List Str} {f : Str → Int} : ∀ p ∈ tblI l f, flatV p.2 = true := fun p hp => by
  obtain ⟨i, hi⟩ := List.mem_iff_getElem?.mp hp
  obtain ⟨k, v⟩ := p
  obtain ⟨a, _, _, rfl⟩ := tblI_at hi
  rfl
/-- places with the sizes of the witness -/
structure GoodW (t ts : List (Str × Str)) (n i : Nat) (zs : List Str) : Prop where
  len : zs.length = n
  pl : ∀ z ∈ zs, Pl t z
  sz : ∀ a ∈ ts.map Prod.fst, szZ ts zs a = wW ts n i a
/-- a list of what such places hold -/
def LsW (t ts : List (Str × Str)) (n : Nat) (R : Addr) (H0 H : Hp) (r : Addr) (i : Nat) : Prop := r ≠ R ∧ ∃ hs : List Addr, H r = some (.lst (hs.map V.ref)) ∧ hs.length ≤ 2197 ∧ ∀ h ∈ hs, ∃ zs, GoodW t ts n i zs ∧ HeldN t zs H0 H h
abbrev NWr : List Str := ["_law_parents", "_law_folk", "_law_told", "_law_wide", "_law_rows", "_law_some", "_law_one", "_law_other", "_law_ahead", "_law_behind", "_law_places", "_law_third"]
section
variable {P : Program} {w : World} {K : PySem.W.Frag} {mg : Str → Option Value} {base : Heap}
theorem scWr : FnScope NWr ["_law_parents", "_law_folk", "_law_told"] (defScope s__law_witness_right) := ⟨rfl, rfl, rfl, by decide +kernel, rfl, by decide +kernel, by decide +kernel⟩
theorem ok_witR {f0 fF fA fC fH fB : Addr} {fd fdF fdA fdC fdH fdB : FuncData} (F : Fun K "_law_witness_right" "_law_witness_right" s__law_witness_right f0 fd) (T : Nm mg)
    (FI : Dn P w K mg base CX0 1 "_law_fits" ["_law_parents", "_law_folk", "_law_wide"] spFits fF fdF) (AP : Dn P w K mg base CX0 2 "_law_all_places" ["_law_parents", "_law_folk"] spAllPl fA fdA)
    (CD : Dn P w K mg base CX0 2 "_law_counted" ["_law_parents", "_law_places"] spCounted fC fdC) (HD : Dn P w K mg base CX0 2 "_law_held" ["_law_parents", "_law_places"] spHeld fH fdH) (AB : Dn P w K mg base CX0 1 "_law_are_best" ["_law_one", "_law_other"] spAreB fB fdB) :
    FnOk P w K mg base CX0 3 f0 fd ["_law_parents", "_law_folk", "_law_told"] spWitR := by
  refine F.ok scWr (fun vs H Q E h => ?_) (fun cdv A outer s H vs Q E hr h => ?_)
  · obtain ⟨q, Rt, q0, q1, q2, n, t, ts, rfl, _⟩ := h
    rfl
  · obtain ⟨q, Rt, q0, q1, q2, n, t, ts, rfl, hq, o, pts, n2, n3, nt, hRt, h0, h1, h2, k⟩ := h
    have hu := hu_of hr
    have nd := scWr.nd
    have hr1 : Room 1 _ := hr.mono (by decide)
    have hr2 : Room 2 _ := hr.mono (by decide)
    have big : 5000 ≤ sizeLine := by decide
    have few := o.few
    refine ⟨_, pss_cons (ps_if (PW.pt (pw_or (pt_not (pt_val (pe_callB call_isi (by rfl) T.isi (by decide +kernel) (pa_cons (pv 2) (pa_cons (pe_bltn (v := .ty "list") (u := .type "list") (by rfl) T.lst (by decide +kernel) rfl) pa_nil))))) (pw_or1 (pt_cmpR op_ne (pe_callB call_len_seq (by rfl) T.len PySem.boot_len (pa_cons (pv 2) pa_nil)) pe_int (nomark _))))) (pss_one (ps_ret pe_bl)) pss_nil)
      (pss_cons (ps_for PassesOwn.never rfl (pi_list (pv 2)) (pg_name (i := 3) nd rfl (.inr rfl))
        (pss_one (ps_if (PW.pt (pw_or (pt_cmpR (op_neD hr.units) (pe_callB (call_sortedD rfl) (by rfl) T.srt (by decide +kernel) (pa_cons (pv 3) pa_nil)) (pe_callB (call_sortedD rfl) (by rfl) T.srt (by decide +kernel) (pa_cons (pv 0) pa_nil)) (nomark _)) (pw_or1 (pt_not (pt_val (pe_call FI.ok hr1 rfl FI.mgn FI.kp FI.bn .nil pass0 (pa_cons (pv 0) (pa_cons (pv 1) (pa_cons (pv 3) pa_nil))))))))) (pss_one (ps_ret pe_bl)) pss_nil)))
      (pss_cons (ps_set (i := 4) nd rfl (.inl rfl) (pe_lst pa_nil))
      (pss_cons (ps_for PassesOwn.never rfl (pi_list (pv 2)) (pg_name (i := 3) nd rfl (.inr rfl))
        (pss_cons (ps_setLc (i := 5) (own := [("_law_places", 10)]) (g := gName 10) (tt := tTest (tOp rEqDC (tCall spCounted [] E0 (tCons (tVar 0) (tCons (tVar 10) tNil))) (tVar 3))) (te := tVar 10) rfl nd rfl rfl (sw_true rfl rfl rfl (by decide +kernel)) (pi_list (pe_call AP.ok hr2 rfl AP.mgn AP.kp AP.bn .nil pass0 (pa_cons (pv 0) (pa_cons (pv 1) pa_nil)))) (blkOk_by (N := NWr) (sc := defScope s__law_witness_right) (by decide +kernel)) (fun _ _ _ _ _ => pg_name (i := 10) nd rfl (Or.inl rfl))
            (fun _ _ _ _ _ => pts_one (pt_cmpR (op_eq_dictC (Nat.lt_of_succ_lt hu)) (pe_call CD.ok hr2 rfl CD.mgn CD.kp CD.bn .nil pass0 (pa_cons (pv 0) (pa_cons (pv 10) pa_nil))) (pv 3) (nomark _))) (fun _ _ _ _ _ => pv 10))
        (pss_one (ps_expr (pe_bm PySem.F.plainAttrs_list PySem.F.slot_list_append PySem.F.type_list_append mt_append (pv 4) (pa_cons (pe_lc (own := [("_law_places", 10)]) (g := gName 10) (tt := tYes) (te := tCall spHeld [] E0 (tCons (tVar 0) (tCons (tVar 10) tNil))) rfl nd (pi_list (pv 5)) (blkOk_by (N := NWr) (sc := defScope s__law_witness_right) (by decide +kernel)) (fun _ _ _ _ _ => pg_name (i := 10) nd rfl (Or.inl rfl)) (fun _ _ _ _ _ => pts_nil)
            (fun _ _ _ _ _ => pe_call HD.ok hr2 rfl HD.mgn HD.kp HD.bn .nil pass0 (pa_cons (pv 0) (pa_cons (pv 10) pa_nil)))) pa_nil))))))
      (pss_cons (ps_for PassesOwn.never rfl (pi_list (pe_ix ix_list (pv 4) pe_int (fun _ _ => rfl))) (pg_name (i := 6) nd rfl (.inr rfl))
        (pss_cons (ps_setLc (i := 8) (own := [("_law_other", 7)]) (g := gName 7) (tt := tB (tCall spAreB [] E0 (tCons (tVar 6) (tCons (tVar 7) tNil)))) (te := tVar 7) rfl nd rfl rfl (sw_true rfl rfl rfl (by decide +kernel)) (pi_list (pe_ix ix_list (pv 4) pe_int (fun _ _ => rfl))) (blkOk_by (N := NWr) (sc := defScope s__law_witness_right) (by decide +kernel)) (fun _ _ _ _ _ => pg_name (i := 7) nd rfl (Or.inl rfl))
            (fun _ _ _ _ _ => pts_one (pt_val (pe_call AB.ok hr1 rfl AB.mgn AB.kp AB.bn .nil pass0 (pa_cons (pv 6) (pa_cons (pv 7) pa_nil))))) (fun _ _ _ _ _ => pv 7))
        (pss_cons (ps_setLc (i := 9) (own := [("_law_other", 7)]) (g := gName 7) (tt := tB (tCall spAreB [] E0 (tCons (tVar 6) (tCons (tVar 7) tNil)))) (te := tVar 7) rfl nd rfl rfl (sw_true rfl rfl rfl (by decide +kernel)) (pi_list (pe_ix ix_list (pv 4) pe_int (fun _ _ => rfl))) (blkOk_by (N := NWr) (sc := defScope s__law_witness_right) (by decide +kernel)) (fun _ _ _ _ _ => pg_name (i := 7) nd rfl (Or.inl rfl))
            (fun _ _ _ _ _ => pts_one (pt_val (pe_call AB.ok hr1 rfl AB.mgn AB.kp AB.bn .nil pass0 (pa_cons (pv 6) (pa_cons (pv 7) pa_nil))))) (fun _ _ _ _ _ => pv 7))
        (pss_one (ps_for PassesOwn.never rfl (pi_list (pv 8)) (pg_name (i := 7) nd rfl (.inr rfl))
          (pss_one (ps_if (pt_cmpR (op_neNil hr.units) (pe_lc (own := [("_law_third", 11)]) (g := gName 11) (tt := tB (tCall spAreB [] E0 (tCons (tVar 7) (tCons (tVar 11) tNil)))) (te := tVar 11) rfl nd (pi_list (pv 9)) (blkOk_by (N := NWr) (sc := defScope s__law_witness_right) (by decide +kernel)) (fun _ _ _ _ _ => pg_name (i := 11) nd rfl (Or.inl rfl))
            (fun _ _ _ _ _ => pts_one (pt_val (pe_call AB.ok hr1 rfl AB.mgn AB.kp AB.bn .nil pass0 (pa_cons (pv 7) (pa_cons (pv 11) pa_nil))))) (fun _ _ _ _ _ => pv 11)) (pe_lst pa_nil) (nomark _)) (pss_one (ps_ret pe_bl)) pss_nil)))))))
      (pss_one (ps_ret pe_bl)))))), ?_⟩
    have ot : TreeOk ts := o.perm pts.symm
    have pk : (ts.map Prod.fst).Perm (t.map Prod.fst) := pts.map _
    have hqi : ∀ i, i < 3 → ∃ qi, ([V.ref q0, .ref q1, .ref q2] : List V)[i]? = some (.ref qi) ∧ H qi = some (.dK (tblI (ts.map Prod.fst) (wW ts n i))) := fun i hi => match i, hi with
      | 0, _ => ⟨q0, rfl, h0⟩
      | 1, _ => ⟨q1, rfl, h1⟩
      | 2, _ => ⟨q2, rfl, h2⟩
    refine ⟨_, rfl, .ref Rt, .ty "list", _, _, true, rfl, .ty _, .base (.lst hRt), kit_ty (r := true) (by decide +kernel), true, rfl, iteF ?_⟩
    refine ⟨_, rfl, Rt, _, rfl, .inl (SqL.of hRt), rfl, _, rfl, ?_⟩
    rw [decide_eq_true (show V.int (([V.ref q0, .ref q1, .ref q2] : List V).length : Int) = V.int 3 from rfl)]
    refine iteF ?_
    -- feasible sizes
    refine ⟨_, rfl, Rt, rfl, ⟨_, SqL.of hRt⟩, ?_⟩
    refine for_it walk_list (fun j σ' H' => (∃ u3, σ' = [some (.ref q), some (.int (n : Int)), some (.ref Rt), u3, none, none, none, none, none, none, none, none]) ∧ Same H H') ⟨⟨_, rfl⟩, Same.refl⟩ (fun j σ' H' _ z => SqL.of (z.2 _ _ hRt)) ?_ ?_
    · intro j y σ' Ha Hb hj ⟨⟨u3, e⟩, sa⟩ ⟨eb, ey⟩
      subst e
      subst eb
      have j3 : j < 3 := hj
      obtain ⟨qi, ei, hqi'⟩ := hqi j j3
      rw [ei] at ey
      cases ey
      have hb := sa _ _ hqi'
      refine ⟨_, rfl, qi, _, ts.map Prod.fst, rfl, .inl hb, tblI_keys _ _, by rw [List.length_map, pts.length_eq]; omega, fun k1 p1 pk1 st1 m1 => ?_⟩
      have t1 := same_new (o := .lst (k1.map V.str)) m1
      refine ⟨_, rfl, q, prs t, t.map Prod.fst, rfl, .inl (t1 _ _ (sa _ _ hq)), prs_keys t, by rw [List.length_map]; omega, fun k2 p2 pk2 st2 m2 => ?_⟩
      have t2 := same_new (o := .lst (k2.map V.str)) m2
      have ek : k1 = k2 := sorted_one ((pk1.trans pk).trans pk2.symm) st1 st2
      subst ek
      have shp : SeqAt.shaped (.list (k1.map PyData.str)) = true := strs_shaped fun z hz => strOk_name (o.nm z (pk2.mem_iff.mp hz))
      refine ⟨_, _, .lst (SqL.of (t2 _ _ upd_same)) (dps_strs _), .lst (SqL.of upd_same) (dps_strs _), shp, shp, _, rfl, ?_⟩
      rw [SeqAt.eqv_refl _ (SeqAt.canLay_of_shaped shp)]
      refine iteF ?_
      have s3 := sa.trans (t1.trans t2)
      refine ⟨_, rfl, _, rfl, _, rfl, q, qi, (n : Int), t, ts.map Prod.fst, wW ts n j, rfl, s3 _ _ hq, o, s3 _ _ hqi', pk, fun H4 s4 => ⟨_, rfl, ?_⟩⟩
      rw [fit_fea.mpr (Fea.perm pts (wit_fea ot nt (by omega) j j3))]
      exact iteF ⟨⟨_, rfl⟩, s3.trans s4⟩
    intro σ' H1 ⟨⟨u3, e⟩, s1⟩
    subst e
    -- the rows
    refine ⟨by show 0 ≤ sizeLine; omega, fun R nR => ?_⟩
    obtain ⟨H2, e2⟩ : ∃ X, X = upd H1 R (.lst ([] : List V)) := ⟨_, rfl⟩
    have s2 : Same H1 H2 := e2 ▸ same_new nR
    have hR2 : H2 R = some (.lst ([] : List V)) := by rw [e2, upd_same]
    have nRH : H R = none := s1.free nR
    have s02 := s1.trans s2
    rw [← e2]
    clear e2
    have RtR : Rt ≠ R := ne_of_none hRt nRH
    have kH : ∀ {Hx : Hp}, KeepX [R] H2 Hx → Same H Hx := fun kx b u e => kx b u (by rw [List.mem_singleton]; exact ne_of_none e nRH) (s02 _ _ e)
    refine ⟨_, rfl, Rt, rfl, ⟨_, SqL.of (s02 _ _ hRt)⟩, ?_⟩
    refine for_it walk_list (fun j σ' H' => ∃ (rs : List Addr) (u3 u5 : Option V), σ' = [some (.ref q), some (.int (n : Int)), some (.ref Rt), u3, some (.ref R), u5, none, none, none, none, none, none] ∧ KeepX [R] H2 H' ∧ H' R = some (.lst (rs.map V.ref)) ∧ Paired (fun r i => LsW t ts n R H2 H' r i) rs (([0, 1, 2] : List Nat).take j))
      ⟨[], _, _, rfl, fun b u _ e => e, hR2, .nil⟩ (fun j σ' H' _ z => by obtain ⟨_, _, _, _, z, _⟩ := z; exact SqL.of (kH z _ _ hRt)) ?_ ?_
    · intro j y σ' Ha Hb hj ⟨rs, u3', u5, e, kx, hR, prs'⟩ ⟨eb, ey⟩
      subst e
      subst eb
      have j3 : j < 3 := hj
      obtain ⟨qi, ei, hqi'⟩ := hqi j j3
      rw [ei] at ey
      cases ey
      have sb := kH kx
      have lrs := pair_lenZ prs'
      rw [List.length_take] at lrs
      have l3 : ([0, 1, 2] : List Nat).length = 3 := rfl
      -- the places with these sizes
      refine ⟨_, rfl, _, rfl, q, n, t, rfl, sb _ _ hq, o, n3, fun A ds H3 s3 nA hA lds hds => ⟨A, rfl, ⟨_, SqL.of hA⟩, fun D nD => ?_⟩⟩
      have l13 : ds.length ≤ 2197 := by
        have : (13 : Nat) ^ n ≤ 13 ^ 3 := Nat.pow_le_pow_right (by decide) n3
        have e13 : (13 : Nat) ^ 3 = 2197 := by decide
        omega
      refine lc_it walk_list (fun i H' => Same H3 H' ∧ ∃ gs : List Addr, H' D = some (.lst (gs.map V.ref)) ∧ gs.length ≤ i ∧ ∀ g ∈ gs, ∃ zs, H3 g = some (.lst (zs.map V.str)) ∧ GoodW t ts n j zs) ⟨same_new nD, [], upd_same, Nat.le_refl _, fun g hg => (by cases hg)⟩ (fun i H' _ z => SqL.of (z.1 _ _ hA)) ?_ ?_
      · intro i yv Hx Hy hi ⟨c1, gs, c2, lgs, c3⟩ ⟨eb, ex⟩
        subst eb
        obtain ⟨d, hd, rfl⟩ := map_of (f := V.ref) (l := ds) ex
        have il := (List.getElem?_eq_some_iff.mp hd).1
        obtain ⟨zs, hz, lz, plz⟩ := hds d (List.mem_of_getElem? hd)
        have sc := sb.trans (s3.trans c1)
        refine ⟨rfl, ?_⟩
        refine ⟨_, rfl, _, rfl, q, d, t, zs, rfl, sc _ _ hq, o, c1 _ _ hz, plz, fun ks pc H4 s4 npc perm srt hpc => ?_⟩
        refine ⟨_, rfl, pc, qi, _, _, rfl, rfl, hpc, s4 _ _ (sc _ _ hqi'), tbl_flat, tbl_flat, _, rfl, ?_⟩
        refine ite2 (fun yes => ?_) (fun no => ?_)
        · refine ⟨_, rfl, _, s4 _ _ c2, by rw [List.length_map]; omega, (c1.trans s4).put nD, gs ++ [d], by rw [upd_same, List.map_append] <;> rfl, by rw [List.length_append, List.length_singleton]; omega, fun g hg => ?_⟩
          rcases List.mem_append.mp hg with h | h
          · exact c3 g h
          · rw [List.mem_singleton.mp h]
            refine ⟨zs, hz, lz, plz, fun a ha => ?_⟩
            rw [← eqDK_tbl yes a (perm.mem_iff.mpr (pk.mem_iff.mp ha)) ha]
            unfold szZ
            rw [List.filter_congr (q := fun z => decide (a ∈ pathOf t z)) fun z _ => by rw [path_perm ot.nd pts z]]
        · exact ⟨c1.trans s4, gs, s4 _ _ c2, by omega, c3⟩
      intro H4 ⟨c1, gs, c2, lgs, c3⟩
      rw [List.length_map] at lgs
      have s4 := s3.trans c1
      have hR4 := s4 _ _ hR
      -- what they hold
      refine ⟨_, rfl, .inl ⟨rfl, _, SqL.of hR4⟩, _, rfl, D, rfl, ⟨_, SqL.of c2⟩, fun G nG => ?_⟩
      have RG : R ≠ G := ne_of_none hR4 nG
      have back : ∀ {Hx : Hp} {b : Addr}, Same H4 Hx → Hx b = none → H2 b = none := fun {Hx b} sx hb => by
        have z := s4.free (sx.free hb)
        cases e3 : H2 b with
        | none => rfl
        | some u =>
          have nb : b ∉ [R] := fun m => by
            rw [List.mem_singleton.mp m, hR] at z
            cases z
          rw [kx b u nb e3] at z
          cases z
      refine lc_it walk_list (fun i H' => Same H4 H' ∧ ∃ hs : List Addr, H' G = some (.lst (hs.map V.ref)) ∧ hs.length = i ∧ ∀ h ∈ hs, ∃ zs, GoodW t ts n j zs ∧ HeldN t zs (upd H4 G (.lst ([] : List V))) H' h) ⟨same_new nG, [], upd_same, rfl, fun g hg => (by cases hg)⟩ (fun i H' _ z => SqL.of (z.1 _ _ c2)) ?_ ?_
      · intro i yv Hx Hy hi ⟨d1, hs, d2, lhs, d3⟩ ⟨eb, ex⟩
        subst eb
        obtain ⟨g, hg, rfl⟩ := map_of (f := V.ref) (l := gs) ex
        have il := (List.getElem?_eq_some_iff.mp hg).1
        obtain ⟨zs, hz, gw⟩ := c3 g (List.mem_of_getElem? hg)
        have sc := sb.trans (s4.trans d1)
        refine ⟨rfl, ?_⟩
        refine ⟨_, rfl, _, rfl, q, g, t, zs, rfl, sc _ _ hq, o, d1 _ _ (c1 _ _ hz), gw.pl, by rw [gw.len]; omega, fun h5 H5 s5 hh5 => ?_⟩
        have gN : (upd H4 G (.lst ([] : List V))) G ≠ none := by rw [upd_same]; exact fun z => by cases z
        have kxG : ∀ {Hz : Hp} {u : HO}, KeepX [G] Hz (upd Hz G u) := fun {Hz u} b u' nb e => by
          rw [upd_ne (fun z => nb (by rw [z]; exact List.mem_singleton_self _))]
          exact e
        refine ⟨_, s5 _ _ d2, by rw [List.length_map]; omega, (d1.trans s5).put nG, hs ++ [h5], by rw [upd_same, List.map_append] <;> rfl, by rw [List.length_append, lhs]; rfl, fun h hm => ?_⟩
        rcases List.mem_append.mp hm with hm | hm
        · obtain ⟨z', gz, hz'⟩ := d3 h hm
          exact ⟨z', gz, hz'.keepX upd_same fun b u nb e => kxG b u nb (s5 _ _ e)⟩
        · rw [List.mem_singleton.mp hm]
          refine ⟨zs, gw, ?_⟩
          obtain ⟨w0, xs, w1, w2, w3⟩ := hh5
          have bk : ∀ {b : Addr}, Hy b = none → (upd H4 G (.lst ([] : List V))) b = none := fun {b} hb => by
            have nb : b ≠ G := fun z => by rw [z, d2] at hb; cases hb
            rw [upd_ne nb]
            exact d1.free hb
          exact HeldN.keepX (H := upd H4 G (.lst ([] : List V))) ⟨bk w0, xs, w1, w2, fun z hz => ⟨bk (w3 z hz).1, (w3 z hz).2⟩⟩ upd_same kxG
      intro H5 ⟨d1, hs, d2, lhs, d3⟩
      rw [List.length_map] at lhs
      have s5 := s4.trans d1
      have kxR : ∀ {Hz : Hp} {u : HO}, KeepX [R] Hz (upd Hz R u) := fun {Hz u} b u' nb e => by
        rw [upd_ne (fun z => nb (by rw [z]; exact List.mem_singleton_self _))]
        exact e
      refine ⟨R, _, _, rfl, rfl, s5 _ _ hR, by rw [List.length_map]; omega, rs ++ [G], _, _, rfl, fun b u nb e => kxR b u nb (s5 _ _ (kx b u nb e)), by rw [upd_same, List.map_append] <;> rfl, ?_⟩
      have ej : (([0, 1, 2] : List Nat).take (j + 1)) = ([0, 1, 2] : List Nat).take j ++ [j] := take_more (by
        match j, j3 with
        | 0, _ => rfl
        | 1, _ => rfl
        | 2, _ => rfl)
      rw [ej]
      refine pair_appW (pair_impW (fun r i hr => ?_) prs') (.cons ?_ .nil)
      · obtain ⟨r1, hs', r2, r3, r4⟩ := hr
        refine ⟨r1, hs', by rw [upd_ne r1]; exact s5 _ _ r2, r3, fun h hm => ?_⟩
        obtain ⟨z', gz, hz'⟩ := r4 h hm
        exact ⟨z', gz, hz'.keepX hR2 fun b u nb e => kxR b u nb (s5 _ _ e)⟩
      · refine ⟨RG.symm, hs, by rw [upd_ne RG.symm]; exact d2, by omega, fun h hm => ?_⟩
        obtain ⟨z', gz, w0, xs, w1, w2, w3⟩ := d3 h hm
        refine ⟨z', gz, ?_⟩
        have bk : ∀ {b : Addr}, (upd H4 G (.lst ([] : List V))) b = none → H2 b = none := fun {b} hb => back (same_new nG) hb
        exact HeldN.keepX (H := H2) ⟨bk w0, xs, w1, w2, fun z hz => ⟨bk (w3 z hz).1, (w3 z hz).2⟩⟩ hR2 kxR
    intro σ' H3 ⟨rs, u3', u5, e, kx, hR, prs'⟩
    subst e
    have sH := kH kx
    obtain ⟨r0, r1, r2, ers, ⟨_, hs0, hr0, lh0, g0⟩, ⟨_, hs1, hr1', lh1, g1⟩, ⟨_, hs2, hr2', lh2, g2⟩⟩ : ∃ r0 r1 r2, rs = [r0, r1, r2] ∧ LsW t ts n R H2 H3 r0 0 ∧ LsW t ts n R H2 H3 r1 1 ∧ LsW t ts n R H2 H3 r2 2 := by
      match rs, prs' with
      | [r0, r1, r2], .cons a0 (.cons a1 (.cons a2 .nil)) => exact ⟨r0, r1, r2, rfl, a0, a1, a2⟩
    subst ers
    -- no three of them
    refine ⟨_, rfl, R, _, 0, .ref r0, rfl, rfl, SqL.of hR, atI_nat (j := 0) rfl, r0, rfl, ⟨_, SqL.of hr0⟩, ?_⟩
    refine for_it walk_list (fun j σ' H' => (∃ u3 u5 u6 u7 u8 u9, σ' = [some (.ref q), some (.int (n : Int)), some (.ref Rt), u3, some (.ref R), u5, u6, u7, u8, u9, none, none]) ∧ Same H3 H') ⟨⟨_, _, _, _, _, _, rfl⟩, Same.refl⟩ (fun j σ' H' _ z => SqL.of (z.2 _ _ hr0)) ?_ ?_
    · intro j y σ' Ha Hb hj ⟨⟨v3, v5, v6, v7, v8, v9, e⟩, sa⟩ ⟨eb, ey⟩
      subst e
      subst eb
      obtain ⟨h0', hh0, rfl⟩ := map_of (f := V.ref) (l := hs0) ey
      obtain ⟨z0, gz0, hz0⟩ := g0 h0' (List.mem_of_getElem? hh0)
      have hz0 := hz0.at
      refine ⟨_, rfl, R, _, 1, .ref r1, rfl, rfl, SqL.of (sa _ _ hR), atI_nat (j := 1) rfl, r1, rfl, ⟨_, SqL.of (sa _ _ hr1')⟩, fun D nD => ?_⟩
      refine lc_it walk_list (fun i H' => Same Hb H' ∧ ∃ gs : List Addr, H' D = some (.lst (gs.map V.ref)) ∧ gs.length ≤ i ∧ ∀ g ∈ gs, ∃ zs, GoodW t ts n 1 zs ∧ HeldAt t zs H3 g ∧ arB t z0 zs = true) ⟨same_new nD, [], upd_same, Nat.le_refl _, fun g hg => (by cases hg)⟩ (fun i H' _ z => SqL.of (z.1 _ _ (sa _ _ hr1'))) ?_ ?_
      · intro i yv Hx Hy hi ⟨c1, gs, c2, lgs, c3⟩ ⟨eb, ex⟩
        subst eb
        obtain ⟨h1', hh1, rfl⟩ := map_of (f := V.ref) (l := hs1) ex
        have il := (List.getElem?_eq_some_iff.mp hh1).1
        obtain ⟨z1, gz1, hz1⟩ := g1 h1' (List.mem_of_getElem? hh1)
        have sc := sa.trans c1
        refine ⟨rfl, ?_⟩
        refine ⟨_, rfl, _, rfl, h0', h1', t, z0, z1, rfl, hz0.mono sc, hz1.at.mono sc, o, by rw [gz0.len]; omega, by rw [gz1.len]; omega, fun H4 s4 => ⟨_, rfl, ?_⟩⟩
        refine ite2 (fun yes => ?_) (fun no => ?_)
        · refine ⟨_, rfl, _, s4 _ _ c2, by rw [List.length_map]; omega, (c1.trans s4).put nD, gs ++ [h1'], by rw [upd_same, List.map_append] <;> rfl, by rw [List.length_append, List.length_singleton]; omega, fun g hg => ?_⟩
          rcases List.mem_append.mp hg with h | h
          · exact c3 g h
          · rw [List.mem_singleton.mp h]
            exact ⟨z1, gz1, hz1.at, yes⟩
        · exact ⟨c1.trans s4, gs, s4 _ _ c2, by omega, c3⟩
      intro H4 ⟨c1, ga, hD, lga, c3⟩
      rw [List.length_map] at lga
      have s4 := sa.trans c1
      refine ⟨_, rfl, R, _, 2, .ref r2, rfl, rfl, SqL.of (s4 _ _ hR), atI_nat (j := 2) rfl, r2, rfl, ⟨_, SqL.of (s4 _ _ hr2')⟩, fun G nG => ?_⟩
      refine lc_it walk_list (fun i H' => Same H4 H' ∧ ∃ gs : List Addr, H' G = some (.lst (gs.map V.ref)) ∧ gs.length ≤ i ∧ ∀ g ∈ gs, ∃ zs, GoodW t ts n 2 zs ∧ HeldAt t zs H3 g ∧ arB t z0 zs = true) ⟨same_new nG, [], upd_same, Nat.le_refl _, fun g hg => (by cases hg)⟩ (fun i H' _ z => SqL.of (z.1 _ _ (s4 _ _ hr2'))) ?_ ?_
      · intro i yv Hx Hy hi ⟨d1, gs, d2, lgs, d3⟩ ⟨eb, ex⟩
        subst eb
        obtain ⟨h2', hh2, rfl⟩ := map_of (f := V.ref) (l := hs2) ex
        have il := (List.getElem?_eq_some_iff.mp hh2).1
        obtain ⟨z2, gz2, hz2⟩ := g2 h2' (List.mem_of_getElem? hh2)
        have sc := s4.trans d1
        refine ⟨rfl, ?_⟩
        refine ⟨_, rfl, _, rfl, h0', h2', t, z0, z2, rfl, hz0.mono sc, hz2.at.mono sc, o, by rw [gz0.len]; omega, by rw [gz2.len]; omega, fun H5 s5 => ⟨_, rfl, ?_⟩⟩
        refine ite2 (fun yes => ?_) (fun no => ?_)
        · refine ⟨_, rfl, _, s5 _ _ d2, by rw [List.length_map]; omega, (d1.trans s5).put nG, gs ++ [h2'], by rw [upd_same, List.map_append] <;> rfl, by rw [List.length_append, List.length_singleton]; omega, fun g hg => ?_⟩
          rcases List.mem_append.mp hg with h | h
          · exact d3 g h
          · rw [List.mem_singleton.mp h]
            exact ⟨z2, gz2, hz2.at, yes⟩
        · exact ⟨d1.trans s5, gs, s5 _ _ d2, by omega, d3⟩
      intro H5 ⟨d1, gb, hG, lgb, d3⟩
      rw [List.length_map] at lgb
      have s5 := s4.trans d1
      have hD5 := d1 _ _ hD
      refine ⟨_, rfl, D, rfl, ⟨_, SqL.of hD5⟩, ?_⟩
      refine for_it walk_list (fun x σ' H' => (∃ u7, σ' = [some (.ref q), some (.int (n : Int)), some (.ref Rt), v3, some (.ref R), v5, some (.ref h0'), u7, some (.ref D), some (.ref G), none, none]) ∧ Same H5 H') ⟨⟨_, rfl⟩, Same.refl⟩ (fun x σ' H' _ z => SqL.of (z.2 _ _ hD5)) ?_ ?_
      · intro x y σ' Hx Hy hx ⟨⟨u7, e⟩, sx⟩ ⟨eb, ey⟩
        subst e
        subst eb
        obtain ⟨h1', hh1, rfl⟩ := map_of (f := V.ref) (l := ga) ey
        obtain ⟨z1, gz1, hz1, ar01⟩ := c3 h1' (List.mem_of_getElem? hh1)
        refine ⟨_, rfl, G, rfl, ⟨_, SqL.of (sx _ _ hG)⟩, fun W nW => ?_⟩
        refine lc_it walk_list (fun i H' => Same Hy H' ∧ H' W = some (.lst ([] : List V))) ⟨same_new nW, upd_same⟩ (fun i H' _ z => SqL.of (z.1 _ _ (sx _ _ hG))) ?_ ?_
        · intro i yv Hu Hv hi ⟨w1, w2⟩ ⟨eb, ex⟩
          subst eb
          obtain ⟨h2', hh2, rfl⟩ := map_of (f := V.ref) (l := gb) ex
          obtain ⟨z2, gz2, hz2, ar02⟩ := d3 h2' (List.mem_of_getElem? hh2)
          have sc := s5.trans (sx.trans w1)
          refine ⟨rfl, ?_⟩
          refine ⟨_, rfl, _, rfl, h1', h2', t, z1, z2, rfl, hz1.mono sc, hz2.mono sc, o, by rw [gz1.len]; omega, by rw [gz2.len]; omega, fun H6 s6 => ⟨_, rfl, ?_⟩⟩
          cases ar12 : arB t z1 z2 with
          | false => exact ⟨w1.trans s6, s6 _ _ w2⟩
          | true =>
            have pl : ∀ {zs : List Str}, (∀ z ∈ zs, Pl t z) → ∀ z ∈ zs, Pl ts z := fun h z hz => (h z hz).imp id fun m => pk.mem_iff.mpr m
            exact (wit_no ot nt gz0.len gz1.len gz2.len (pl gz0.pl) (pl gz1.pl) (pl gz2.pl) gz0.sz gz1.sz gz2.sz (arB_one pts ot (by rw [gz0.len, gz1.len]) ar01) (arB_one pts ot (by rw [gz0.len, gz2.len]) ar02) (arB_one pts ot (by rw [gz1.len, gz2.len]) ar12)).elim
        intro H6 ⟨w1, w2⟩
        refine ⟨by show 0 ≤ sizeLine; omega, fun e1 ne1 => ?_⟩
        have d1 := same_new (o := .lst ([] : List V)) ne1
        refine ⟨W, e1, _, rfl, rfl, d1 _ _ w2, upd_same, _, rfl, iteF ⟨⟨_, rfl⟩, sx.trans (w1.trans d1)⟩⟩
      · intro σ' H6 ⟨⟨u7, e⟩, sx⟩
        subst e
        exact ⟨⟨_, _, _, _, _, _, rfl⟩, s5.trans sx⟩
    · intro σ' H4 ⟨⟨v3, v5, v6, v7, v8, v9, e⟩, sa⟩
      subst e
      exact k _ (sH.trans sa)
end
end FT


/-! Own: calls with keywords alone, two or four of them turned; pairs of a text and an int as data. -/
namespace FT
open PySem L2 TL ClX
def tCallK0 (m : Nat) (sp : Sp) (gV : List V → List V → List V) (E : XK) (tk : TA) : TE := fun σ H Q => tk σ H fun zs H1 => zs.length = m ∧ sp (gV [] zs) H1 Q E
/-- f(k = v, ..), no value by place -/
theorem pe_callK0 {X : Cx} {CX : CXT} {k : Nat} {f : Addr} {fd : FuncData} {ps ks : List Str} {sp : Sp} {E : XK} {x : Str} {p pos : Pos} {kw : Keyword} {kws : List Keyword} {tk : TA} {g : List Value → List Value → List Value} {gV : List V → List V → List V}
    (F : FnOk X.prog X.w X.K X.mg X.base CX k f fd ps sp) (hr : Room k X.A) (hg : Gl X x) (hm : X.mg x = some (.ref f)) (hk : PySem.W.keepIn X.K (.ref f) = true) (hb : KBn X.K fd ps 0 ks g gV) (hx : Passes CX X E)
    (hkw : PK X (kw :: kws) tk) (hall : (backToKw pos (keywordEach (kw :: kws) X.env)).all (·.1.isSome) = true := by rfl) (hks : (backToKw pos (keywordEach (kw :: kws) X.env)).filterMap (·.1) = ks := by rfl)
    (hdb : (x == ("__debug__" : Str)) = false := by decide) (hpl : ((backTo pos (starEach [] X.env)).any (·.1) || (backToKw pos (keywordEach (kw :: kws) X.env)).any (·.1.isNone)) = false := by rfl) : PE X (.Call (.Name x p) [] (kw :: kws) pos) (tCallK0 ks.length sp gV E tk) := by
  refine ⟨fun pins s σ H Q I h => ?_⟩
  refine wpAny_Call_Name_kw (ld_glob I hg hm ?_ hdb)
  refine PySem.W.callWith_KW0 (h₀ := X.base) I.ok.mod.kin hk hall ?_ hpl
  refine thn (hkw.run pos pins s σ H _ I h) fun ws s2 ⟨zs, H2, J, rz, l2, want⟩ => ⟨J.kIn, ?_⟩
  rw [hks]
  exact run_fnN (us := []) (vs := []) F hr hb hx J .nil rz rfl l2 want
/-- four values, turned -/
def turn4 {α : Type} : List α → List α
  | [a, b, c, d] => [d, c, b, a]
  | l => l
end FT


/-! two keywords, turned; defs that get a lambda -/
namespace FT
open PySem L2 TL ClX
def turn2 {α : Type} : List α → List α
  | [a, b] => [b, a]
  | l => l
theorem turn2_rel {vs : List V} {us : List Value} (r : Vals vs us) : Vals (turn2 vs) (turn2 us) := by
  cases r with
  | nil => exact .nil
  | cons a r =>
    cases r with
    | nil => exact .cons a .nil
    | cons b r =>
      cases r with
      | nil => exact .cons b (.cons a .nil)
      | cons c r => exact .cons a (.cons b (.cons c r))
abbrev tn2 (α : Type) : List α → List α → List α := fun _ ws => turn2 ws
theorem kw2 {K : PySem.W.Frag} {x qual a b : Str} {st : Stmt} {f : Addr} {fd : FuncData} {ps : List Str} (F : L2.Fun K x qual st f fd)
    (h : ∀ (kV doc pm : Value) (an : Option Addr) (cdv ct u v : Value), bindArgs (PySem.W.fnOf x qual (defArgs st) (defBody st) (defScope st) .none kV doc pm an cdv ct) ⟨[], [(a, u), (b, v)]⟩ = pure (ps.zip [v, u])) :
    KBn K fd ps 0 [a, b] (tn2 Value) (tn2 V) := by
  obtain ⟨oc, od, kV, doc, pm, an, cdv, ct, osl, rfl, lk, hcd⟩ := F.ex
  refine ⟨fun s us ws _ h1 h2 => ?_, fun _ r => turn2_rel r⟩
  match us, ws, h1, h2 with
  | [], [u, v], _, _ => exact .of_eq (h kV doc pm an cdv ct u v)
/-- the two defs that get a lambda -/
structure Ge (K : PySem.W.Frag) (mg : Str → Option Value) (x : Str) (st : Stmt) (f : Addr) (fd : FuncData) : Prop where
  fn : Fun K x x st f fd
  bn : Binds K fd ["_law_work"] []
  mgn : mg x = some (.ref f)
end FT


/-! the law of k22 -/
namespace FT
open PySem L2 TL ClX LiI
/-- what the law of k22 leans on -/
structure W22 (P : Program) (w : World) (K : PySem.W.Frag) (mg : Str → Option Value) (base : Heap) (CF CU : Addr) (mc : Value) (f : Nat → Addr) (fd : Nat → FuncData) : Prop where
  Z : Fc K mg CF mc
  bg : Dn P w K mg base CX0 1 "_law_begin" ["_law_script"] (spBeginB K) (f 0) (fd 0)
  dt : Dn P w K mg base CX0 2 "_law_take" ["_law_draw", "_law_size"] spTakeB (f 1) (fd 1)
  fo : Dn P w K mg base CX0 4 "_law_forest" ["_law_draw", "_law_most"] spForB (f 2) (fd 2)
  fi : FnOk P w K mg base CX0 3 (f 3) (fd 3) ["self", "parents"] (spFInit CF)
  fim : Mk K CF (f 3)
  fib : Binds K (fd 3) ["self", "parents"] []
  me : Dn P w K mg base (L2.CX P w) 4 "is_memoryless" ["forest", "users"] (spMem K CF CU) (f 4) (fd 4)
  mek : KBn K (fd 4) ["forest", "users"] 0 ["users", "forest"] (tn2 Value) (tn2 V)
  wi : Dn P w K mg base (L2.CX P w) 5 "witness" ["forest", "users"] (spWit K CF CU) (f 5) (fd 5)
  wik : KBn K (fd 5) ["forest", "users"] 0 ["users", "forest"] (tn2 Value) (tn2 V)
  fl : Dn P w K mg base CX0 1 "_law_flipped" ["_law_some"] spFlipP (f 6) (fd 6)
  fr : Dn P w K mg base CX0 18 "_law_fixed_right" ["_law_parents", "_law_folk"] spFixR (f 7) (fd 7)
  wr : Dn P w K mg base CX0 3 "_law_witness_right" ["_law_parents", "_law_folk", "_law_told"] spWitR (f 8) (fd 8)
def spLaw22 (K : PySem.W.Frag) : Sp := fun vs H Q _ => ∃ (a : Addr) (ns : List Int), vs = [.ref a] ∧ SqL K H a (ns.map V.int) ∧ ns.length ≤ 63 ∧ ∀ H', Q (.bl true) H'
abbrev N22 : List Str := ["_law_script", "_law_draw", "_law_turn", "_law_parents", "_law_folk", "_law_found", "_law_told", "_law_flipped_here"]
/-- witness answers -/
theorem told_of {K : PySem.W.Frag} {CF CU : Addr} {H : Hp} {x : Addr} {ts : List (Str × Str)} {n : Int} {Q : VK} {E : XK} (fa : FAt CF H x ts) (o : TreeOk ts) (uo : usersOk (.int n) (10 ^ 30) = true)
    (k : ∀ v d H', Same H H' → Told ts n H' v d → Q v H') : spWit K CF CU [.ref x, .int n] H Q E := by
  refine ⟨x, ts, .int n, rfl, fa, o, ⟨_, .int _⟩, ?_⟩
  rw [if_pos uo]
  by_cases e : memC ts (.int n) = true
  · rw [if_pos e]
    exact fun H' s => k _ _ H' s (.none e)
  · rw [if_neg e]
    exact ⟨n, rfl, fun R q0 q1 q2 H' s w => k _ _ H' s (.some (Bool.eq_false_iff.mpr e) w.hR w.h0 w.h1 w.h2)⟩
section
variable {P : Program} {w : World} {K : PySem.W.Frag} {mg : Str → Option Value} {base : Heap}
theorem sc22 : FnScope N22 ["_law_script"] (defScope s_law) := ⟨rfl, rfl, rfl, by decide +kernel, rfl, by decide +kernel, by decide +kernel⟩
theorem ok_law22 {f0 CF CU : Addr} {mc : Value} {f : Nat → Addr} {fd : Nat → FuncData} {fd0 : FuncData} (F : Fun K "law" "law" s_law f0 fd0) (N : Nm mg) (L : W22 P w K mg base CF CU mc f fd) : FnG P w K mg base CX0 19 f0 fd0 ["_law_script"] (spLaw22 K) := by
  refine F.okG sc22 (fun vs H Q E h => ?_) (fun cdv A outer s H vs Q E clr hr h => ?_)
  · obtain ⟨a, ns, rfl, _⟩ := h
    rfl
  · obtain ⟨a, ns, rfl, hS, hlen, k⟩ := h
    have hu := hu_of hr
    have hr1 : Room 1 _ := hr.mono (by decide)
    have hr2 : Room 2 _ := hr.mono (by decide)
    have hr3 : Room 3 _ := hr.mono (by decide)
    have hr4 : Room 4 _ := hr.mono (by decide)
    have hr5 : Room 5 _ := hr.mono (by decide)
    have hr18 : Room 18 _ := hr.mono (by decide)
    have nd := sc22.nd
    have big : 1000 ≤ sizeLine := by decide
    refine ⟨_, pss_cons (ps_set (i := 1) nd rfl (.inl rfl) (pe_call L.bg.ok hr1 rfl L.bg.mgn L.bg.kp L.bg.bn .nil pass0 (pa_cons (pv 0) pa_nil)))
      (pss_cons (ps_for PassesOwn.never rfl (pi_range1 (by rfl) N.rng (pa_cons (pe_op op_add pe_int (pe_callB (call_min2 rfl) (by rfl) N.min (by decide +kernel) (pa_cons (pe_callB call_len_seq (by rfl) N.len PySem.boot_len (pa_cons (pv 0) pa_nil)) (pa_cons pe_int pa_nil)))) pa_nil)) (pg_name (i := 2) nd rfl (.inl rfl))
        (pss_cons (ps_par (i := 3) (j := 4) rfl nd rfl rfl (by decide) rfl rfl (pa_cons (pe_call L.fo.ok hr4 rfl L.fo.mgn L.fo.kp L.fo.bn .nil pass0 (pa_cons (pv 1) (pa_cons pe_int pa_nil)))
          (pa_cons (pe_op op_add pe_int (pe_call L.dt.ok hr2 rfl L.dt.mgn L.dt.kp L.dt.bn .nil pass0 (pa_cons (pv 1) (pa_cons pe_int pa_nil)))) pa_nil)) (by rfl))
        (pss_cons (ps_set (i := 5) nd rfl (.inl rfl) (pe_call (E := E0) L.me.ok hr4 rfl L.me.mgn L.me.kp L.me.bn .nil L2.passL (pa_cons (pe_make L.fim L.fi hr4 (by rfl) L.Z.gF L.fib .nil pass0 (pa_cons (pv 3) pa_nil)) (pa_cons (pv 4) pa_nil))))
        (pss_cons (ps_set (i := 6) nd rfl (.inl rfl) (pe_callK0 (E := E0) L.wi.ok hr5 rfl L.wi.mgn L.wi.kp L.wik L2.passL (pk_cons (pv 4) (pk_cons (pe_make L.fim L.fi hr4 (by rfl) L.Z.gF L.fib .nil pass0 (pa_cons (pv 3) pa_nil)) pk_nil))))
        (pss_cons (ps_if (PW.pt (pw_or (pt_cmpR op_ne (pe_callB (call_reprR clr.deeper hr.units) (by rfl) N.rep (by decide +kernel) (pa_cons (pv 5) pa_nil)) (pe_callB (call_reprR clr.deeper hr.units) (by rfl) N.rep (by decide +kernel) (pa_cons (pe_cmpR op_isN (pv 6) pe_non (nomark _)) pa_nil)) (nomark _))
            (pw_or1 (pt_cmpR op_ne (pe_callK0 (E := E0) L.me.ok hr4 rfl L.me.mgn L.me.kp L.mek L2.passL (pk_cons (pv 4) (pk_cons (pe_make L.fim L.fi hr4 (by rfl) L.Z.gF L.fib .nil pass0 (pa_cons (pv 3) pa_nil)) pk_nil))) (pv 5) (nomark _))))) (pss_one (ps_ret pe_bl)) pss_nil)
        (pss_cons (ps_set (i := 7) nd rfl (.inl rfl) (pe_make L.fim L.fi hr4 (by rfl) L.Z.gF L.fib .nil pass0 (pa_cons (pe_call L.fl.ok hr1 rfl L.fl.mgn L.fl.kp L.fl.bn .nil pass0 (pa_cons (pv 3) pa_nil)) pa_nil)))
        (pss_cons (ps_if (PW.pt (pw_or (pt_cmpR op_ne (pe_call (E := E0) L.me.ok hr4 rfl L.me.mgn L.me.kp L.me.bn .nil L2.passL (pa_cons (pv 7) (pa_cons (pv 4) pa_nil))) (pv 5) (nomark _))
            (pw_or1 (pt_cmpR op_ne (pe_callB (call_reprR clr.deeper hr.units) (by rfl) N.rep (by decide +kernel) (pa_cons (pe_call (E := E0) L.wi.ok hr5 rfl L.wi.mgn L.wi.kp L.wi.bn .nil L2.passL (pa_cons (pv 7) (pa_cons (pv 4) pa_nil))) pa_nil)) (pe_callB (call_reprR clr.deeper hr.units) (by rfl) N.rep (by decide +kernel) (pa_cons (pv 6) pa_nil)) (nomark _))))) (pss_one (ps_ret pe_bl)) pss_nil)
        (pss_cons (ps_if (PW.pt (pw_and (pt_val (pv 5)) (pw_and1 (pt_not (pt_val (pe_call L.fr.ok hr18 rfl L.fr.mgn L.fr.kp L.fr.bn .nil pass0 (pa_cons (pv 3) (pa_cons (pv 4) pa_nil)))))))) (pss_one (ps_ret pe_bl)) pss_nil)
        (pss_one (ps_if (PW.pt (pw_and (pt_not (pt_val (pv 5))) (pw_and1 (pt_not (pt_val (pe_call L.wr.ok hr3 rfl L.wr.mgn L.wr.kp L.wr.bn .nil pass0 (pa_cons (pv 3) (pa_cons (pv 4) (pa_cons (pv 6) pa_nil))))))))) (pss_one (ps_ret pe_bl)) pss_nil))))))))))
      (pss_one (ps_ret pe_bl))), ?_⟩
    refine ⟨_, rfl, a, ns, rfl, hS, hlen, fun H0 d l i s0 nd0 nl0 ni0 dr0 => ?_⟩
    refine ⟨_, rfl, a, _, rfl, .inl (Same.sql s0 hS), _, _, rfl, _, _, rfl, rfl, ?_⟩
    obtain ⟨m, em⟩ : ∃ m : Int, m = 2 + (if (4 : Int) < ((ns.map V.int).length : Int) then 4 else ((ns.map V.int).length : Int)) := ⟨_, rfl⟩
    have lm : 0 ≤ m ∧ m ≤ 6 := by
      rw [List.length_map] at em
      subst em
      split <;> constructor <;> omega
    refine ⟨m, by rw [em] <;> rfl, by omega, by omega, ?_⟩
    refine for_it (walk_range (lo := 0) (n := m.toNat)) (fun j σ' H' => (∃ u2 u3 u4 u5 u6 u7, σ' = [some (.ref a), some (.ref d), u2, u3, u4, u5, u6, u7]) ∧ DrawB H' d l i (1000 * (j : Int))) ⟨⟨_, _, _, _, _, _, rfl⟩, dr0.more (by omega)⟩ (fun _ _ _ _ _ => trivial) ?_ (fun σ' H' _ => k H')
    intro jj xj σ' Ha Hb hj ⟨⟨u2, u3, u4, u5, u6, u7, e⟩, dr⟩ ⟨e1, e2⟩
    subst e
    subst e1
    subst e2
    obtain ⟨b0, eb0⟩ : ∃ b0 : Int, b0 = 1000 * (jj : Int) := ⟨_, rfl⟩
    rw [← eb0] at dr
    have bb : b0 + 1000 ≤ 10 ^ 12 - 1000 := by omega
    -- the tree, the users
    refine ⟨_, rfl, d, l, i, _, 4, rfl, by decide, by decide, dr, by omega, fun q t H1 o ah nq hq1 dr1 k1 => ?_⟩
    have few := o.few
    refine ⟨_, rfl, d, l, i, _, 3, rfl, dr1, by omega, by omega, by decide, fun c H2 c0 c1 dr2 k2 => ?_⟩
    obtain ⟨n, en⟩ : ∃ n : Nat, n = (1 + c).toNat := ⟨_, rfl⟩
    have n1 : 1 ≤ n := by omega
    have n3 : n ≤ 3 := by omega
    refine ⟨_, _, rfl, rfl, .ref q, .int (n : Int), by rw [show (n : Int) = 1 + c by omega] <;> rfl, ?_⟩
    have qd1 := dr1.off_prs hq1
    have hq : H2 q = some (.dK (prs t)) := kx_at k2 hq1 qd1.1 qd1.2.1
    have uo : usersOk (.int (n : Int)) (10 ^ 30) = true := by
      show (decide ((1 : Int) ≤ n) && decide ((n : Int) ≤ 10 ^ 30)) = true
      rw [decide_eq_true (by omega), decide_eq_true (by omega)] <;> rfl
    -- is_memoryless
    refine ⟨_, rfl, fun x dx nx ndx nxd => ?_⟩
    have sM : ∀ {Hx : Hp} {x dx : Addr}, Hx x = none → Hx dx = none → Same Hx (upd (upd Hx dx (.own x)) x (.ins CF dx [])) := fun nx ndx b u e => by
      rw [upd_ne (ne_of_none e nx), upd_ne (ne_of_none e ndx)]
      exact e
    refine ⟨x, q, dx, t, rfl, upd_same, sM nx ndx _ _ hq, o, fun H3 ts pts asc fx3 oth3 => ⟨rfl, ?_⟩⟩
    have s3 : Same H2 H3 := fun b u e => oth3 b u (ne_of_none e nx) (sM nx ndx _ _ e)
    have ot : TreeOk ts := o.perm pts.symm
    refine ⟨_, rfl, x, ts, .int (n : Int), rfl, fx3, ot, ⟨_, .int _⟩, ?_⟩
    rw [if_pos uo]
    intro H4 s4
    have s24 := s3.trans s4
    -- witness
    refine ⟨_, rfl, _, rfl, fun x2 dx2 nx2 ndx2 nxd2 => ?_⟩
    refine ⟨x2, q, dx2, t, rfl, upd_same, sM nx2 ndx2 _ _ (s24 _ _ hq), o, fun H5 us pus ascu fx5 oth5 => ⟨rfl, ?_⟩⟩
    have s5 : Same H4 H5 := fun b u e => oth5 b u (ne_of_none e nx2) (sM nx2 ndx2 _ _ e)
    have eus : us = ts := ascOne (o.perm pus.symm) (pus.trans pts.symm) ascu asc
    subst eus
    refine ⟨rfl, told_of fx5 ot uo fun v dv H6 s6 td => ?_⟩
    have s26 := (s24.trans s5).trans s6
    -- the same answer
    obtain ⟨r1, r2, r3, r4⟩ := bool_repr (H := H6) (K := K) (memC us (.int (n : Int)))
    refine ⟨_, rfl, _, .bool (memC us (.int (n : Int))), rfl, r1, r2, r3, r4, ?_⟩
    refine ⟨_, rfl, rfl, ?_⟩
    rw [td.non]
    refine ⟨_, .bool (memC us (.int (n : Int))), rfl, r1, r2, r3, r4, rfl, _, rfl, ?_⟩
    rw [decide_eq_true (show V.str _ = V.str _ from rfl)]
    refine iteF ?_
    -- by keywords
    refine ⟨_, rfl, _, rfl, fun x3 dx3 nx3 ndx3 nxd3 => ?_⟩
    refine ⟨x3, q, dx3, t, rfl, upd_same, sM nx3 ndx3 _ _ (s26 _ _ hq), o, fun H7 us7 pus7 ascu7 fx7 oth7 => ⟨rfl, ?_⟩⟩
    have s7 : Same H6 H7 := fun b u e => oth7 b u (ne_of_none e nx3) (sM nx3 ndx3 _ _ e)
    have eus7 : us7 = us := ascOne (o.perm pus7.symm) (pus7.trans pts.symm) ascu7 asc
    subst eus7
    refine ⟨rfl, x3, us7, .int (n : Int), rfl, fx7, ot, ⟨_, .int _⟩, ?_⟩
    rw [if_pos uo]
    intro H8 s8
    have s28 := (s26.trans s7).trans s8
    refine ⟨_, rfl, rfl, _, rfl, ?_⟩
    rw [decide_eq_true (show V.bl _ = V.bl _ from rfl)]
    refine iteF ?_
    -- turned about
    refine ⟨_, rfl, q, t, rfl, s28 _ _ hq, o.nd, by omega, fun p H9 s9 np hp => ?_⟩
    have s29 := s28.trans s9
    have orv : TreeOk t.reverse := o.perm (List.reverse_perm t).symm
    refine fun x4 dx4 nx4 ndx4 nxd4 => ?_
    refine ⟨x4, p, dx4, t.reverse, rfl, upd_same, sM nx4 ndx4 _ _ hp, orv, fun H10 us10 pus10 ascu10 fx10 oth10 => ⟨rfl, ?_⟩⟩
    have s10 : Same H9 H10 := fun b u e => oth10 b u (ne_of_none e nx4) (sM nx4 ndx4 _ _ e)
    have eus10 : us10 = us7 := ascOne (orv.perm pus10.symm) ((pus10.trans (List.reverse_perm t)).trans pts.symm) ascu10 asc
    subst eus10
    refine ⟨_, rfl, _, rfl, x4, us10, .int (n : Int), rfl, fx10, ot, ⟨_, .int _⟩, ?_⟩
    rw [if_pos uo]
    intro H11 s11
    refine ⟨_, rfl, rfl, _, rfl, ?_⟩
    rw [decide_eq_true (show V.bl _ = V.bl _ from rfl)]
    refine iteF ?_
    refine ⟨_, rfl, _, rfl, ?_⟩
    simp only [tNil, List.append_nil]
    show spWit K CF CU [.ref x4, .int (n : Int)] H11 _ _
    refine told_of (fx10.mono s11) ot uo fun v2 dv2 H12 s12 td2 => ?_
    have edv : dv2 = dv := td2.one td
    subst edv
    obtain ⟨r1, r2, r3, r4⟩ := td2.repr (K := K) ot (by omega) (by omega)
    refine ⟨_, dv2, rfl, r1, r2, r3, r4, ?_⟩
    have s612 := ((((s7.trans s8).trans s9).trans s10).trans s11).trans s12
    have td12 := td.mono s612
    obtain ⟨r1, r2, r3, r4⟩ := td12.repr (K := K) ot (by omega) (by omega)
    refine ⟨_, rfl, _, dv2, rfl, r1, r2, r3, r4, rfl, _, rfl, ?_⟩
    rw [decide_eq_true (show V.str _ = V.str _ from rfl)]
    refine iteF ?_
    have s212 := s26.trans s612
    -- the end of a turn
    have fin : ∀ Hz, Same H12 Hz → (∃ u2 u3 u4 u5 u6 u7, ([some (.ref a), some (.ref d), some (.int (0 + (jj : Int))), some (.ref q), some (.int (n : Int)), some (.bl (memC us10 (.int (n : Int)))), some v, some (.ref x4)] : St) = [some (.ref a), some (.ref d), u2, u3, u4, u5, u6, u7]) ∧ DrawB Hz d l i (1000 * ((jj + 1 : Nat) : Int)) := fun Hz sz =>
      ⟨⟨_, _, _, _, _, _, rfl⟩, ((dr2.mono s212).mono sz).more (by omega)⟩
    have t12 := s212
    cases em2 : memC us10 (.int (n : Int)) with
    | true =>
      rw [em2] at fin
      refine ⟨_, rfl, _, rfl, ?_⟩
      refine iteT ⟨_, rfl, _, rfl, q, (n : Int), t, rfl, s212 _ _ hq, o, by omega, by omega, by rw [← memC_perm pts]; exact em2, fun H13 s13 => ⟨_, rfl, iteF ?_⟩⟩
      refine ⟨_, rfl, _, rfl, iteF ?_⟩
      exact fin _ s13
    | false =>
      rw [em2] at fin
      refine ⟨_, rfl, _, rfl, iteF (iteF ?_)⟩
      cases td12 with
      | none e => rw [em2] at e; cases e
      | some e hR h0 h1 h2 =>
        refine ⟨_, rfl, _, rfl, iteT ⟨_, rfl, _, rfl, _, rfl, q, _, _, _, _, n, t, us10, rfl, s212 _ _ hq, o, pts, ?_, n3, ?_, hR, h0, h1, h2, fun H13 s13 => ⟨_, rfl, iteF ?_⟩⟩⟩
        · obtain ⟨n2, _⟩ := mem_no uo em2
          omega
        · exact (mem_no uo em2).2
        exact fin _ s13
end
end FT


/-! places_of -/
namespace FT
open PySem L2 TL ClX
section
variable {P : Program} {w : World} {K : PySem.W.Frag} {mg : Str → Option Value} {base : Heap}
theorem scPlacesOf : FnScope ["forest"] ["forest"] (defScope s_places_of) := ⟨rfl, rfl, rfl, by decide +kernel, rfl, by decide +kernel, by decide +kernel⟩
theorem ok_placesOf {f CF p1 g1 : Addr} {mc : Value} {fd fd1 : FuncData} (F : Fun K "places_of" "places_of" s_places_of f fd) (T : Nm mg) (O : FoC K CF) (Z : Fc K mg CF mc) (L : Pr1 P w K mg base CF "flags" (spFFlags CF) p1 g1 fd1) :
    FnOk P w K mg base CX0 3 f fd ["forest"] (spPlacesOf CF) := by
  obtain ⟨ur, cr⟩ := Z.root
  refine F.ok scPlacesOf (fun vs H Q E h => ?_) (fun cdv A outer s H vs Q E hr h => ?_)
  · obtain ⟨x, ts, rfl, _⟩ := h
    rfl
  · obtain ⟨x, ts, rfl, fa, few, k⟩ := h
    obtain ⟨dx, dq, hx, hd⟩ := id fa
    have big : 1000 ≤ sizeLine := by decide
    refine ⟨_, pss_one (ps_ret (pe_op op_cat (pe_lst (pa_cons (pe_cval (pe_glob (v := .ref CF) (by rfl) Z.gF rfl)) pa_nil)) (pe_prop (pv 0) O.cl L.pr L.fn hr L.bn .nil pass0 (by rfl)))), ?_⟩
    refine ⟨CF, mc, _, ur, rfl, Z.rd, cr, by show 1 ≤ sizeLine; omega, fun p1 n1 => ?_⟩
    have s1 : Same H (upd H p1 (.lst [.str ""])) := same_new n1
    refine ⟨_, rfl, x, dx, _, rfl, s1 _ _ hx, x, ts, rfl, fa.mono s1, fun p2 n2 => ⟨p1, p2, [.str ""], (ts.map Prod.fst).map V.str, rfl, rfl, by rw [upd_ne (ne_of_none upd_same n2), upd_same], upd_same, ?_, fun p3 n3 => ?_⟩⟩
    · rw [List.length_map, List.length_map]
      show 1 + _ ≤ sizeLine
      omega
    · have s3 : Same H (upd (upd (upd H p1 (.lst [.str ""])) p2 (.lst ((ts.map Prod.fst).map V.str))) p3 (.lst ([.str ""] ++ (ts.map Prod.fst).map V.str))) := (s1.trans (same_new n2)).trans (same_new n3)
      exact k p3 _ s3 (Same.free (s1.trans (same_new n2)) n3) upd_same
end
end FT


/-! Own: C.m(..) where m is a staticmethod of the class. -/
namespace L2
open PySem PySem.Spec PyProof.Rows
/-- C.m is a staticmethod: its record at p, its def at f -/
structure SMet (K : PySem.W.Frag) (C : Addr) (mc : Value) (m : Str) (p f : Addr) : Prop where
  at_ : PySem.W.findCls K (.ref C) mc m = some (.get (.builtin "staticmethod.__get__") (.ref p) .none (.ref C))
  rc : ∃ rest, PySem.W.recIn K p "staticmethod" = some (.ref f :: rest)
def tSMeth (C : Addr) (sp : Sp) (dvs : List V) (E : XK) (ta : TE) (t : TA) : TE := fun σ H Q => ta σ H fun x H1 => x = .ref C ∧ t σ H1 fun vs H2 => sp (vs ++ dvs) H2 Q E
section
variable {X : Cx} {CX : CXT} {k : Nat} {C p f : Addr} {mc : Value} {fd : FuncData} {ps : List Str} {sp : Sp} {dvs : List V} {ds : List Value} {E : XK} {o e : Expr} {es : List Expr} {m : Str} {pos apos : Pos} {ta : TE} {t : TA} {pl : Sem Bool}
end
end L2


/-! Own: the end of a law's row from a contract FnG (the library's walk_of asks FnOk). -/
namespace L2
open PySem PySem.Spec PyProof.Rows
section
variable {P : Program} {w : World} {K : PySem.W.Frag} {mg mb : Str → Option Value} {k : Nat} {fa a : Addr} {fd : FuncData} {x : Str} {sp : Sp} {s : Shared} {vs : List Value} {ns : List Int}
/-- the abstract heap at the law's entry: the script alone, locked; or nothing, where the script is the module's own -/
abbrev Entry (K : PySem.W.Frag) (a : Addr) (H : Hp) : Prop := (∀ b, H b ≠ none → b = a) ∧ (H a ≠ none → K.lookup a = none)
end
end L2


/-! Own: defs that make lambdas (their code object known), and the end of a law's row from a contract FnG with tables of code objects. -/
namespace L2
open PySem PySem.Spec PyProof.Rows LamX
/-- as Fun, the code object's place told -/
structure FunC (K : PySem.W.Frag) (x qual : Str) (st : Stmt) (f : Addr) (fd : FuncData) (c : Addr) : Prop where
  ex : ∃ (oc : Value) (od : Option Addr) (kV doc pm : Value) (an : Option Addr) (ct : Value) (osl : Array (Option Value)),
    fd = PySem.W.fnOf x qual (defArgs st) (defBody st) (defScope st) .none kV doc pm an (.ref c) ct ∧ K.lookup f = some ⟨oc, od, .func fd, osl⟩ ∧ PySem.W.codeIn K (.ref c) qual = true
  kp : PySem.W.keepIn K (.ref f) = true
theorem FunC.fun {K : PySem.W.Frag} {x qual : Str} {st : Stmt} {f c : Addr} {fd : FuncData} (F : FunC K x qual st f fd c) : Fun K x qual st f fd :=
  let ⟨oc, od, kV, doc, pm, an, ct, osl, e1, e2, e3⟩ := F.ex
  ⟨⟨oc, od, kV, doc, pm, an, .ref c, ct, osl, e1, e2, e3⟩, F.kp⟩
section
variable {P : Program} {w : World} {K : PySem.W.Frag} {mg : Str → Option Value} {base : Heap}
theorem FunC.ok {x qual : Str} {st : Stmt} {f c : Addr} {fd : FuncData} {N ps : List Str} {k : Nat} {sp : Sp} (F : FunC K x qual st f fd c) (S : FnScope N ps (defScope st)) (len : ∀ vs H Q E, sp vs H Q E → vs.length = ps.length)
    (body : ∀ (A : Around) (outer : List Env) (s : Shared) (H : Hp) (vs : List V) (Q : VK) (E : XK), Room k (A.deeper (envOfC qual (defScope st) s.heap.objs.size f (.ref c))) → sp vs H Q E →
      ∃ t, PSs (cxOf CX0 P w K mg base N qual (defScope st) f (.ref c) A outer s H E).nox (defBody st) t ∧ t { nx := fun _ H' => Q .non H', rt := Q } (start N vs) H) : FnOk P w K mg base CX0 (k + 1) f fd ps sp := by
  obtain ⟨oc, od, kV, doc, pm, an, ct, osl, rfl, lk, code⟩ := F.ex
  refine fn_of lk code S len fun A outer s H vs Q E room want => ?_
  obtain ⟨t, h, q⟩ := body A outer s H vs Q E room want
  exact ⟨t, h.nox, q⟩
theorem FunC.okG {x qual : Str} {st : Stmt} {f c : Addr} {fd : FuncData} {N ps : List Str} {k : Nat} {sp : Sp} (F : FunC K x qual st f fd c) (S : FnScope N ps (defScope st)) (len : ∀ vs H Q E, sp vs H Q E → vs.length = ps.length)
    (body : ∀ (A : Around) (outer : List Env) (s : Shared) (H : Hp) (vs : List V) (Q : VK) (E : XK), Clr A → Room k (A.deeper (envOfC qual (defScope st) s.heap.objs.size f (.ref c))) → sp vs H Q E →
      ∃ t, PSs (cxOf CX0 P w K mg base N qual (defScope st) f (.ref c) A outer s H E).nox (defBody st) t ∧ t { nx := fun _ H' => Q .non H', rt := Q } (start N vs) H) : FnG P w K mg base CX0 (k + 1) f fd ps sp := by
  obtain ⟨oc, od, kV, doc, pm, an, ct, osl, rfl, lk, code⟩ := F.ex
  refine ⟨len, fun A outer s H args us vs Q E clr room e0 binds rel want => ?_⟩
  have nps := len _ _ _ _ want
  have KX : K.In s.heap := e0.mod.kin.keeps fun b o e => (e0.bs b o e).1
  have lim : s.heap.NoLimit := e0.mod.nolimit.keeps fun b o e => (e0.bs b o e).1
  refine codeAny_call_function room.depth (KX _ _ lk) rfl S.co S.gen rfl (PySem.W.codeRec_of KX code) (binds _ _ _ _ (wpAny_newFunctionEnv_cells S.kind (fun y hy => ?_) fun env he s1 x => ?_))
  · obtain ⟨n, v⟩ := y
    exact (S.par n (List.of_mem_zip hy).1).elim .inl fun q => .inr ⟨q, PySem.W.cellsFrom_some _ _ _ (.inl q)⟩
  · subst he
    obtain ⟨t, term, q⟩ := body A outer s H vs Q E clr (room.deeper _) want
    have I : Inv (cxOf CX0 P w K mg base N qual (defScope st) f (.ref c) A outer s H E) [] (start N vs) H s1 := inv_start S room.hd e0 nps rel x
    refine ⟨lim.keeps x.toInCall.keep, codeAny_func (wpAny_mono (term.nox.run [] s1 (start N vs) H _ I q) (fun fl s' z => ?_) fun _ _ z => z)⟩
    match fl, z with
    | .ret u, ⟨v, _, H', J, rv, q⟩ => exact ⟨v, H', J.os, J.bare, J.base, J.hok, rv, q⟩
    | .next, ⟨_, H', J, q⟩ => exact ⟨.non, H', J.os, J.bare, J.base, J.hok, rfl, q⟩
    | .brk, ⟨_, _, _, q⟩ => exact q.elim
    | .cont, ⟨_, _, _, q⟩ => exact q.elim
end
section
variable {P : Program} {w : World} {K : PySem.W.Frag} {mg mb : Str → Option Value} {k : Nat} {fa a : Addr} {fd : FuncData} {x : Str} {sp : Sp} {s : Shared} {vs : List Value} {ns : List Int} {cs : List (Addr × Addr)}
/-- the code objects and their tables: empty, not of the written part -/
abbrev TabsIn (K : PySem.W.Frag) (h : Heap) (cs : List (Addr × Addr)) : Prop := ∀ p ∈ cs, PySem.W.CodeHd h p.1 p.2 ∧ h.get? p.2 = some (PySem.W.tabObj #[]) ∧ K.lookup p.2 = none
/-- the abstract heap at the law's entry: the tables, and the script, locked, or where it is the module's own the tables alone -/
structure EntT (K : PySem.W.Frag) (cs : List (Addr × Addr)) (a : Addr) (vs : List Value) (ns : List Int) (H : Hp) : Prop where
  tab : ∀ p ∈ cs, H p.2 = some (.tbl #[])
  dom : ∀ b u, H b = some u → (b = a ∧ u = .frz { cls := .type "list", data := .seq vs.toArray } (.lst (ns.map V.int))) ∨ ∃ p ∈ cs, b = p.2
  own : H a ≠ none → K.lookup a = none
theorem entT_run (KX : K.In s.heap) (hns : s.heap.Ns mainGlobals mg) (hb : s.heap.Ns builtinsNs mb) (hbb : ∀ y : Str, y ≠ "__name__" → mb y = bootBuiltins y) (lim : s.heap.NoLimit) (gens : s.gens = #[]) (ti : TabsIn K s.heap cs)
    (bmain : ∃ (bm : Addr) (ob : Obj), mg "__builtins__" = some (.ref bm) ∧ bm ≠ builtinsNs ∧ s.heap.get? bm = some ob ∧ ob.cls = .type "module" ∧ ob.dict = some builtinsNs ∧ ob.data = .plain)
    (oa : s.heap.get? a = some { cls := .type "list", data := .seq vs.toArray }) (rv : Vals (ns.map V.int) vs) (few : ns.length ≤ sizeLine) (room : Room k callerA)
    (F : ∀ base : Heap, K.In base → base.Ns mainGlobals mg → (∀ p ∈ cs, TabB base mg p.1 p.2) → FnG P w K mg base CX0 k fa fd [x] sp)
    (bind : ∀ (s : Shared) (u : Value), BindsTo s fd ⟨[u], []⟩ [(x, u)]) {H : Hp} (en : EntT K cs a vs ns H) (want : sp [.ref a] H (fun v _ => v = .bl true) fun _ _ _ => False) :
    codeAny (model P w) callerA (.call (.ref fa) ⟨[.ref a], []⟩) (fun r s' => r = .ok (.ret (.bool true)) ∧ OldK s.heap s'.heap ∧ s'.os = s.os ∧ AllBare s'.gens) s := by
  -- what is tracked: a list or a table
  have kinds : ∀ {b : Addr} {o : Obj}, s.heap.get? b = some o → H b ≠ none → o = { cls := .type "list", data := .seq vs.toArray } ∨ o = PySem.W.tabObj #[] := fun {b o} q n => by
    cases r : H b with
    | none => exact absurd r n
    | some u =>
      rcases en.dom b u r with ⟨rfl, _⟩ | ⟨p, hp, rfl⟩
      · rw [oa] at q
        exact .inl (Option.some.inj q).symm
      · rw [(ti p hp).2.1] at q
        exact .inr (Option.some.inj q).symm
  have loose : ∀ {b : Addr} {o : Obj}, s.heap.get? b = some o → (∀ vs n, o.data ≠ .seq vs n) → (o.data = .fields #[] → False) → H b = none := fun {b o} q h1 h2 => by
    refine Decidable.byContradiction fun n => ?_
    rcases kinds q n with e | e
    · exact h1 _ _ (by rw [e])
    · exact h2 (by rw [e])
  have seen : ∀ {b : Addr} {o : Obj}, s.heap.get? b = some o → H b = none → (hidT s.heap H).get? b = some o := fun q n => hidT_get q n
  have dict : ∀ {b : Addr} {o : Obj} {es : Array DictEntry} {ep : Nat}, s.heap.get? b = some o → o.data = .dict es ep → (hidT s.heap H).get? b = some o := fun q d => seen q (loose q (fun vs n z => nomatch d.symm.trans z) fun z => nomatch d.symm.trans z)
  have nsT : ∀ {b : Addr} {m : Str → Option Value}, s.heap.Ns b m → (hidT s.heap H).Ns b m := fun ⟨o, es, ep, q, d, r⟩ => ⟨o, es, ep, dict q d, d, r⟩
  have KT : K.In (hidT s.heap H) := fun b o q => seen (KX b o q) (Decidable.byContradiction fun n => by
    cases r : H b with
    | none => exact n r
    | some u =>
      rcases en.dom b u r with ⟨rfl, _⟩ | ⟨p, hp, rfl⟩
      · rw [en.own n] at q
        cases q
      · rw [(ti p hp).2.2] at q
        cases q)
  have isTab : ∀ b u, H b = some u → ∀ q, u = .tbl q → s.heap.get? b = some (PySem.W.tabObj #[]) ∧ q = #[] := fun b u r q e => by
    rcases en.dom b u r with ⟨_, z⟩ | ⟨p, hp, rfl⟩
    · rw [e] at z
      cases z
    · refine ⟨(ti p hp).2.1, ?_⟩
      have z := en.tab p hp
      rw [r, e] at z
      cases z
      rfl
  have ok : HOk P w H s.heap := fun b u r => by
    rcases en.dom b u r with ⟨rfl, rfl⟩ | ⟨p, hp, rfl⟩
    · exact ⟨oa, by rw [List.length_map]; exact few, vs, _, rv, oa⟩
    · rw [en.tab p hp] at r
      cases r
      exact (ti p hp).2.1
  have TB : ∀ p ∈ cs, TabB (hidT s.heap H) mg p.1 p.2 := fun p hp => by
    obtain ⟨C, tp, _⟩ := ti p hp
    refine ⟨?_, ?_, fun z => ?_⟩
    · obtain ⟨o, us, file, tf, flags, tg, inF, text, tt, e1, r1, r2, r3, r⟩ := C
      refine ⟨o, us, file, tf, flags, tg, inF, text, tt, seen e1 (loose e1 (fun vs n z => nomatch r2.symm.trans z) fun z => ?_), r1, r2, r3, r⟩
      have e := r2.symm.trans z
      cases e
      simp at r3
    · obtain ⟨bm, ob, b1, b2, b3, b4, b5, b6⟩ := bmain
      refine ⟨bm, ob, b1, b2, fun q => ?_, fun q => ?_, seen b3 (loose b3 (fun vs n z => nomatch b6.symm.trans z) fun z => nomatch b6.symm.trans z), b4, b5, b6⟩
      · obtain ⟨o, es, ep, e, hd, _⟩ := hns
        rw [q, e] at b3
        cases b3
        cases hd.symm.trans b6
      · rw [q, tp] at b3
        cases b3
        cases b6
    · obtain ⟨o, es, ep, e, hd, _⟩ := hns
      rw [z, tp] at e
      cases e
      cases hd
  have e0 : Env0 P w K mg (hidT s.heap H) callerA [] s H :=
    ⟨rfl, ⟨KT, nsT hns, ⟨mb, nsT hb, hbb⟩, let ⟨m, z1, z2⟩ := lim; ⟨m, nsT z1, z2⟩⟩, fun b o q => of_hidT q, Nat.le_of_eq (hidT_size _ _), trivial, fun b z => absurd (show b ∈ ([] : List Addr) from z) (by simp), ok, .of_eq gens⟩
  refine codeAny_mono ((F _ KT (nsT hns) TB).run callerA [] s H ⟨[.ref a], []⟩ [.ref a] [.ref a] _ _ rfl room e0 (bind s (.ref a)) (.cons rfl .nil) want) fun r s' z => ?_
  match r, z with
  | .error _, z => exact z.elim
  | .ok .next, z => exact z.elim
  | .ok .brk, z => exact z.elim
  | .ok .cont, z => exact z.elim
  | .ok (.ret u), ⟨v, H', os, bare, un, ok', rv', q⟩ =>
    obtain rfl : v = .bl true := q
    obtain rfl : u = Value.bool true := rv'
    -- an object stays, or is a table that has grown
    have way : ∀ b o, s.heap.get? b = some o → s'.heap.get? b = some o ∨ ∃ p ∈ cs, b = p.2 ∧ ∃ more : Array Value, s'.heap.get? b = some (PySem.W.tabObj more) := fun b o q => by
      cases r : H b with
      | none => exact .inl (un.keep b o q r (fun z => absurd (show b ∈ ([] : List Addr) from z) (by simp)) (by simp))
      | some u =>
        rcases en.dom b u r with ⟨rfl, rfl⟩ | ⟨p, hp, rfl⟩
        · have q1 := (ok b _ r).1
          rw [q] at q1
          cases q1
          exact .inl (ok' b _ (un.frzs b _ _ r)).1
        · obtain ⟨more, z⟩ := un.tbls p.2 #[] (en.tab p hp)
          exact .inr ⟨p, hp, rfl, _, ok' p.2 _ z⟩
    refine ⟨rfl, ⟨fun b o q => ?_, fun b o q => ?_⟩, os, bare⟩
    · rcases way b o q with z | ⟨p, hp, rfl, more, z⟩
      · exact .inl z
      · obtain ⟨C, tp, _⟩ := ti p hp
        rw [tp] at q
        cases q
        exact .inr (.inl ⟨(C.tab tp).isCodeTable, rfl, #[], more, rfl, by rw [Array.empty_append]; exact z⟩)
    · rcases way b o q with z | ⟨_, _, _, more, z⟩
      · exact ⟨o, z⟩
      · exact ⟨_, z⟩
end
/-- the law's promise with its tables -/
def LawTG (l : PySem.W.OpenLaw) (w : World) (K : PySem.W.Frag) (k n : Nat) (x : Str) (mg : Str → Option Value) (fa : Addr) (h : Heap) : Prop :=
  ∃ (fd : FuncData) (cs : List (Addr × Addr)) (sp : Sp), TabsIn K h cs ∧ (∀ (s : Shared) (u : Value), BindsTo s fd ⟨[u], []⟩ [(x, u)]) ∧
    (∀ (H : Hp) (a : Addr) (ns : List Int), ns.length ≤ n → (∀ p ∈ cs, H p.2 = some (.tbl #[])) → SqL K H a (ns.map V.int) → sp [.ref a] H (fun v _ => v = .bl true) fun _ _ _ => False) ∧
    ∀ base : Heap, K.In base → base.Ns mainGlobals mg → (∀ p ∈ cs, TabB base mg p.1 p.2) → FnG l.prog w K mg base CX0 k fa fd [x] sp
/-- what the head tells of a def's table -/
abbrev TabsOf (q : Program) (K : PySem.W.Frag) (h : Heap) : Prop := ∀ (y : Str) (c P : Addr), ((recsOf q).find? (fun e => e.name == y)).isSome = true → PySem.W.tabIn K y = some (c, P) → PySem.W.CodeHd h c P ∧ h.get? P = some (PySem.W.tabObj #[])
/-- the goal behind the head, from such a promise -/
theorem walk_tabG {l : PySem.W.OpenLaw} {n k : Nat} {q : Program} {loose : List Str} {XP : (Str → Option Value) → Heap → Prop} {YP : World → Heap → Prop} {d : DefRec} {K : Params → PySem.W.Frag} {x : Str}
    (most : l.most = some n) (few : n ≤ sizeLine) (nodf : d.params.defaults = []) (room : Room k callerA) (hY : ∀ (w : World) (h : Heap), YP w h → (K w.params).In h)
    (F : ∀ (w : World) (mg : Str → Option Value) (fa : Addr) (h : Heap), (K w.params).In h → h.Ns mainGlobals mg → mg d.name = some (.ref fa) → TabsOf q (K w.params) h → XP mg h → LawTG l w (K w.params) k n x mg fa h) :
    PySem.W.WalkO q loose XP YP l.row.toRowW d [] (fun f vs => PySem.call f vs) :=
  Att.attach_call most nodf fun w _ s mg mb fa _ _ _ _ a vs ns G Y _ _ _ hmg hobj hints hlen hg => by
    have KX := hY w _ Y
    obtain ⟨fd, cs, sp, ti, bind, hsp, hF⟩ := F w mg fa _ KX G.T.g hmg (fun y c P hr ht => let ⟨d', hd⟩ := Option.isSome_iff_exists.mp hr; PySem.W.tab_of G.T KX hd ht) G.X
    have rv := vals_ints hints
    have len := hints.length
    have tne : ∀ p ∈ cs, p.2 ≠ a := fun p hp z => by
      have e := (ti p hp).2.1
      rw [z, hobj] at e
      cases e
    cases own : (K w.params).lookup a with
    | some o =>
      have e := KX a o own
      rw [hobj] at e
      cases e
      obtain ⟨H, eH⟩ : ∃ H : Hp, H = fun b => if b ∈ cs.map (·.2) then some (.tbl #[]) else none := ⟨_, rfl⟩
      have inT : ∀ p ∈ cs, H p.2 = some (.tbl #[]) := fun p hp => by
        rw [eH]
        exact if_pos (List.mem_map.mpr ⟨p, hp, rfl⟩)
      have outT : ∀ b, b ∉ cs.map (·.2) → H b = none := fun b n => by
        rw [eH]
        exact if_neg n
      have na : a ∉ cs.map (·.2) := fun m => by
        obtain ⟨p, hp, e⟩ := List.mem_map.mp m
        exact tne p hp e
      refine entT_run KX G.T.g G.T.b G.T.builtins G.T.nolimit hg ti G.T.bmain hobj rv (Nat.le_trans hlen few) room hF bind (H := H) ⟨inT, fun b u r => .inr ?_, fun z => absurd (outT a na) z⟩
        (hsp H a ns hlen inT (.inr ⟨_, vs.toArray, _, own, rfl, rfl, rfl, by rw [List.size_toArray, len]; exact Nat.le_trans hlen few, by simpa using rv⟩))
      refine Decidable.byContradiction fun n => ?_
      rw [outT b fun m => n (let ⟨p, hp, e⟩ := List.mem_map.mp m; ⟨p, hp, e.symm⟩)] at r
      cases r
    | none =>
      obtain ⟨H, eH⟩ : ∃ H : Hp, H = fun b => if b = a then some (.frz { cls := .type "list", data := .seq vs.toArray } (.lst (ns.map V.int))) else if b ∈ cs.map (·.2) then some (.tbl #[]) else none := ⟨_, rfl⟩
      have atA : H a = some (.frz { cls := .type "list", data := .seq vs.toArray } (.lst (ns.map V.int))) := by rw [eH]; exact if_pos rfl
      have inT : ∀ p ∈ cs, H p.2 = some (.tbl #[]) := fun p hp => by
        rw [eH]
        exact (if_neg (tne p hp)).trans (if_pos (List.mem_map.mpr ⟨p, hp, rfl⟩))
      refine entT_run KX G.T.g G.T.b G.T.builtins G.T.nolimit hg ti G.T.bmain hobj rv (Nat.le_trans hlen few) room hF bind (H := H) ⟨inT, fun b u r => ?_, fun _ => own⟩ (hsp H a ns hlen inT (.inl (.inr ⟨_, atA⟩)))
      by_cases n : b = a
      · subst n
        rw [atA] at r
        exact .inl ⟨rfl, (Option.some.inj r).symm⟩
      · refine .inr (Decidable.byContradiction fun m => ?_)
        rw [eH] at r
        have r' := (if_neg n).symm.trans r
        rw [if_neg fun z => m (let ⟨p, hp, e⟩ := List.mem_map.mp z; ⟨p, hp, e.symm⟩)] at r'
        cases r'
end L2


/-! what the module's top says of classes, of defs: the form that the row's end asks for. -/
namespace FT
open PySem L2 TL ClX
abbrev exTail : List Value := [.type "ValueError", .type "Exception", .type "BaseException", .type "object"]
/-- an own class at C, its chain behind it -/
def ClsAt (K : PySem.W.Frag) (C : Addr) (bm : List Value) : Prop := ∃ nm q N bs sn sub ab col dd k0 k1 k2 k3 k5, K.lookup C = some (excClassObj nm q C N bs bm true sn sub ab col dd k0 k1 k2 k3 k5 "ValueError.__new__")
section
variable {K : PySem.W.Frag} {C : Addr} {bm : List Value}
theorem ClsAt.cls (h : ClsAt K C bm) : ∃ cd : ClassData, PySem.W.clsIn K C = some cd ∧ cd.mro = .ref C :: bm ∧ cd.hasDict = true := by
  obtain ⟨nm, q, N, bs, sn, sub, ab, col, dd, k0, k1, k2, k3, k5, e⟩ := h
  refine ⟨{ name := nm, bases := bs, mro := .ref C :: bm, ns := N, qualname := q, hasDict := true, slotNames := sn, subclasses := sub, abstract := ab, collection := col }, ?_, rfl, rfl⟩
  unfold PySem.W.clsIn
  rw [e]
theorem ClsAt.ty (h : ClsAt K C bm) : PySem.W.typeIn K (.ref C) = some (.type "type") := by
  obtain ⟨nm, q, N, bs, sn, sub, ab, col, dd, k0, k1, k2, k3, k5, e⟩ := h
  show (K.lookup C).map (·.cls) = _
  rw [e] <;> rfl
theorem ClsAt.mroIs (h : ClsAt K C bm) (b : Value) : PySem.W.mroIn K C b = some ((Value.ref C :: bm).contains b) := by
  obtain ⟨cd, e1, e2, _⟩ := h.cls
  unfold PySem.W.mroIn
  rw [e1]
  show (if cd.mro.isEmpty then none else some (cd.mro.contains b)) = _
  rw [e2] <;> rfl
theorem ClsAt.sub (h : ClsAt K C bm) (b : Value) : PySem.W.subIn K (.ref C) b = some ((Value.ref C :: bm).contains b) := h.mroIs b
theorem ClsAt.hd (h : ClsAt K C bm) : PySem.W.hasDictIn K C = true := by
  obtain ⟨cd, e1, _, e3⟩ := h.cls
  show (PySem.W.clsIn K C).any (·.hasDict) = true
  rw [e1]
  exact e3
end
/-- what the top says of one error class -/
structure ClsF (K : PySem.W.Frag) (nm f : Str) (C I R : Addr) : Prop where
  nsn : PySem.W.nsIn K mainGlobals nm = some (some (.ref C))
  at_ : ClsAt K C (.ref R :: exTail)
  sa : PySem.W.findIn K (.ref C) "__setattr__" = some (some (.builtin "object.__setattr__"))
  ga : PySem.W.findIn K (.ref C) "__getattribute__" = some (some (.builtin "BaseException.__getattribute__"))
  gg : PySem.W.findIn K (.ref C) "__getattr__" = some none
  ha : PySem.W.findIn K (.ref C) "__class__" = some (some (.builtin "object.__class__"))
  kC : PySem.W.keepIn K (.ref C) = true
  no : PySem.W.findIn K (.ref C) f = some none
  ini : PySem.W.findIn K (.ref C) "__init__" = some (some (.ref I))
  ity : PySem.W.typeIn K (.ref I) = some (.type "function")
/-- and of what they share -/
structure RootF (K : PySem.W.Frag) (R : Addr) : Prop where
  nsn : PySem.W.nsIn K mainGlobals "RolloutError" = some (some (.ref R))
  at_ : ClsAt K R exTail
  rd : PySem.W.readsIn K R (.type "type") = true
  ga : PySem.W.specialIn K (.ref R) "__getattribute__" = some (some (.builtin "type.__getattribute__"))
  ini : PySem.W.findCls K (.ref R) (.type "type") "__init__" = some (.val (.builtin "ValueError.__init__"))
  hn : PySem.W.specialIn K (.builtin "object.__class__") "__get__" = some (some (.builtin "getset_descriptor.__get__"))
  ht : PySem.W.takesIn K (.builtin "object.__class__") = some true
theorem ClsF.x {K : PySem.W.Frag} {nm f : Str} {C I R : Addr} (c : ClsF K nm f C I R) (r : RootF K R) : XCls K C where
  cls := by
    obtain ⟨nm, q, N, bs, sn, sub, ab, col, dd, k0, k1, k2, k3, k5, e⟩ := c.at_
    exact ⟨nm, q, N, bs, _, sn, sub, ab, col, dd, k0, k1, k2, k3, k5, e, rfl⟩
  sa := c.sa
  exC := by rw [c.at_.sub] <;> rfl
  tyC := c.at_.ty
  kC := c.kC
  ga := c.ga
  gg := c.gg
  hdC := c.at_.hd
  ha := c.ha
  hn := r.hn
  ht := r.ht
  hm := by rw [c.at_.mroIs] <;> rfl
/-- what the top says of a class with a constant MOST -/
structure ClsK (K : PySem.W.Frag) (nm : Str) (C : Addr) (n : Int) (t : Nat) : Prop where
  nsn : PySem.W.nsIn K mainGlobals nm = some (some (.ref C))
  rd : PySem.W.readsIn K C (.type "type") = true
  ga : PySem.W.specialIn K (.ref C) "__getattribute__" = some (some (.builtin "type.__getattribute__"))
  most : PySem.W.findCls K (.ref C) (.type "type") "MOST" = some (.val (.int n t))
  pg : PySem.W.plainGet K C Str.empty = true
  hd : PySem.W.hasDictIn K C = true
  po : PySem.W.plainOver K C = true
  sa : PySem.W.findIn K (.ref C) "__setattr__" = some (some (.builtin "object.__setattr__"))
  mks : PySem.W.makesIn K C = true
  kp : PySem.W.keepIn K (.ref C) = true
  ha : PySem.W.findIn K (.ref C) "__class__" = some (some (.builtin "object.__class__"))
  hn : PySem.W.specialIn K (.builtin "object.__class__") "__get__" = some (some (.builtin "getset_descriptor.__get__"))
  ht : PySem.W.takesIn K (.builtin "object.__class__") = some true
  hm : PySem.W.mroIn K C (.type "object") = some true
/-- a method -/
structure MetK (K : PySem.W.Frag) (C : Addr) (m : Str) (f : Addr) : Prop where
  at_ : PySem.W.findIn K (.ref C) m = some (some (.ref f))
  fn : PySem.W.isFn K (.ref f) = true
/-- a property -/
structure PrK (K : PySem.W.Frag) (C : Addr) (m : Str) (p g : Addr) (rest : List Value) : Prop where
  at_ : PySem.W.findIn K (.ref C) m = some (some (.ref p))
  get : PySem.W.specialIn K (.ref p) "__get__" = some (some (.builtin "property.__get__"))
  tak : PySem.W.takesIn K (.ref p) = some true
  rec_ : PySem.W.recIn K p "property" = some (.ref g :: rest)
theorem ClsF.er {K : PySem.W.Frag} {h : Heap} {mg : Str → Option Value} {nm f : Str} {C I R : Addr} (X : K.In h) (G : h.Ns mainGlobals mg) (c : ClsF K nm f C I R) (r : RootF K R) : Er K mg nm f C I :=
  ⟨PySem.W.mg_of X G c.nsn, c.x r, c.ini, c.ity, c.no⟩
theorem RootF.rt {K : PySem.W.Frag} {h : Heap} {mg : Str → Option Value} {R : Addr} (X : K.In h) (G : h.Ns mainGlobals mg) (r : RootF K R) : Rt K mg R := ⟨PySem.W.mg_of X G r.nsn, ⟨r.rd, r.ga, r.ini⟩⟩
theorem ClsK.fc {K : PySem.W.Frag} {h : Heap} {mg : Str → Option Value} {CF : Addr} {t t2 : Nat} (X : K.In h) (G : h.Ns mainGlobals mg) (k : ClsK K "Forest" CF 12 t) (root : PySem.W.findCls K (.ref CF) (.type "type") "ROOT" = some (.val (.str "" t2))) : Fc K mg CF (.type "type") :=
  ⟨PySem.W.mg_of X G k.nsn, ⟨k.rd, k.ga⟩, ⟨_, k.most, ⟨_, rfl⟩⟩, ⟨_, root, ⟨_, rfl⟩⟩⟩
theorem ClsK.cls {K : PySem.W.Frag} {nm : Str} {C : Addr} {n : Int} {t : Nat} (k : ClsK K nm C n t) : Cls K C := ⟨k.pg, k.hd, k.po, k.sa⟩
/-- an int that the top computes -/
theorem loose_int {p : Program} {lv : List (Str × PySem.W.WData)} {mg : Str → Option Value} {h : Heap} {nm : Str} {n : Int} (x : PySem.W.XL p lv mg h) (m : (nm, PySem.W.WData.int n) ∈ lv) : ∃ t, mg nm = some (.int n t) := by
  obtain ⟨v, e, r⟩ := x.2.val _ m
  cases r with
  | int i t => exact ⟨t, e⟩
/-- a def with its code object and the table of that -/
structure TabK (K : PySem.W.Frag) (x : Str) (c P : Addr) : Prop where
  at_ : PySem.W.tabIn K x = some (c, P)
  no : K.lookup P = none
end FT


/-! what the top says of a class without a constant, of a static method -/
namespace FT
open PySem L2 TL ClX
structure ClsN (K : PySem.W.Frag) (nm : Str) (C : Addr) : Prop where
  nsn : PySem.W.nsIn K mainGlobals nm = some (some (.ref C))
  rd : PySem.W.readsIn K C (.type "type") = true
  ga : PySem.W.specialIn K (.ref C) "__getattribute__" = some (some (.builtin "type.__getattribute__"))
  pg : PySem.W.plainGet K C Str.empty = true
  hd : PySem.W.hasDictIn K C = true
  po : PySem.W.plainOver K C = true
  sa : PySem.W.findIn K (.ref C) "__setattr__" = some (some (.builtin "object.__setattr__"))
  mks : PySem.W.makesIn K C = true
  kp : PySem.W.keepIn K (.ref C) = true
theorem ClsN.cls {K : PySem.W.Frag} {nm : Str} {C : Addr} (k : ClsN K nm C) : Cls K C := ⟨k.pg, k.hd, k.po, k.sa⟩
/-- a static method -/
structure StK (K : PySem.W.Frag) (C : Addr) (m : Str) (p f : Addr) (rest : List Value) : Prop where
  at_ : PySem.W.findCls K (.ref C) (.type "type") m = some (.get (.builtin "staticmethod.__get__") (.ref p) .none (.ref C))
  rec_ : PySem.W.recIn K p "staticmethod" = some (.ref f :: rest)
theorem StK.sm {K : PySem.W.Frag} {C p f : Addr} {m : Str} {rest : List Value} (s : StK K C m p f rest) : SMet K C (.type "type") m p f := ⟨s.at_, _, s.rec_⟩
end FT


namespace FT
open PySem PySem.Spec PyProof.Rows L2 TL ClX LamX NdefX
section
variable {q : Program} {l : PySem.W.OpenLaw} {w : World} {K : PySem.W.Frag} {h : Heap} {mg : Str → Option Value} {fa : Addr}
theorem all_mk {f_bg f_mx f_dt f_dp f_fo f_isn f_isa f_nd f_fi f_ii f_nu f_np f_kd f_fl f_tw f_me f_pi f_wit f_fdP f_fit f_asz f_po f_fp f_rs f_nfM f_wd f_wk f_ai f_fx f_ph f_hld f_arb f_at f_so f_as f_ap f_frr f_apl f_cd f_wrr f_law p_fl p_fp p_at p_as p_ap C_InvalidSizes C_InvalidUsers C_NeedsMemory I_InvalidSizes I_InvalidUsers I_NeedsMemory R CF CA : Addr} {d_bg d_mx d_dt d_dp d_fo d_isn d_isa d_nd d_fi d_ii d_nu d_np d_kd d_fl d_tw d_me d_pi d_wit d_fdP d_fit d_asz d_po d_fp d_rs d_nfM d_wd d_wk d_ai d_fx d_ph d_hld d_arb d_at d_so d_as d_ap d_frr d_apl d_cd d_wrr d_law D_InvalidSizes D_InvalidUsers D_NeedsMemory : FuncData} {tL tT tR tCF tCA : Nat} {r_fl r_fp r_at r_as r_ap : List Value} (X : K.In h) (G : h.Ns mainGlobals mg) (hfa : mg "law" = some (.ref fa)) (TO : TabsOf q K h)
    (kCF : ClsK K "Forest" CF 12 tCF)
    (noCF_above : PySem.W.findIn K (.ref CF) "above" = some none)
    (kCA : ClsK K "Assignment" CA 60 tCA)
    (noCA_own_forest : PySem.W.findIn K (.ref CA) "own_forest" = some none)
    (noCA_own_places : PySem.W.findIn K (.ref CA) "own_places" = some none)
    (root : PySem.W.findCls K (.ref CF) (.type "type") "ROOT" = some (.val (.str "" tR)))
    (cL : PySem.W.nsIn K mainGlobals "LONGEST" = some (some (.int 8 tL)))
    (cT : PySem.W.nsIn K mainGlobals "LETTERS" = some (some (.str letters tT)))
    (gMC : ∃ t, mg "MOST_COUNTED" = some (.int (10 ^ 30) t))
    (n_bg : PySem.W.nsIn K mainGlobals "_law_begin" = some (some (.ref f_bg)))
    (u_bg : L2.Fun K "_law_begin" "_law_begin" s__law_begin f_bg d_bg)
    (n_mx : PySem.W.nsIn K mainGlobals "_law_mixed" = some (some (.ref f_mx)))
    (u_mx : L2.Fun K "_law_mixed" "_law_mixed" s__law_mixed f_mx d_mx)
    (n_dt : PySem.W.nsIn K mainGlobals "_law_take" = some (some (.ref f_dt)))
    (u_dt : L2.Fun K "_law_take" "_law_take" s__law_take f_dt d_dt)
    (n_dp : PySem.W.nsIn K mainGlobals "_law_pick" = some (some (.ref f_dp)))
    (u_dp : L2.Fun K "_law_pick" "_law_pick" s__law_pick f_dp d_dp)
    (n_fo : PySem.W.nsIn K mainGlobals "_law_forest" = some (some (.ref f_fo)))
    (u_fo : L2.Fun K "_law_forest" "_law_forest" s__law_forest f_fo d_fo)
    (n_isn : PySem.W.nsIn K mainGlobals "is_name" = some (some (.ref f_isn)))
    (u_isn : L2.Fun K "is_name" "is_name" s_is_name f_isn d_isn)
    (n_isa : PySem.W.nsIn K mainGlobals "is_ancestor" = some (some (.ref f_isa)))
    (u_isa : L2.Fun K "is_ancestor" "is_ancestor" s_is_ancestor f_isa d_isa)
    (n_nd : PySem.W.nsIn K mainGlobals "need_parents" = some (some (.ref f_nd)))
    (u_nd : L2.Fun K "need_parents" "need_parents" s_need_parents f_nd d_nd)
    (n_ii : PySem.W.nsIn K mainGlobals "is_integer" = some (some (.ref f_ii)))
    (u_ii : L2.Fun K "is_integer" "is_integer" s_is_integer f_ii d_ii)
    (n_nu : PySem.W.nsIn K mainGlobals "need_users" = some (some (.ref f_nu)))
    (u_nu : L2.Fun K "need_users" "need_users" s_need_users f_nu d_nu)
    (n_np : PySem.W.nsIn K mainGlobals "need_place" = some (some (.ref f_np)))
    (u_np : L2.Fun K "need_place" "need_place" s_need_place f_np d_np)
    (n_tw : PySem.W.nsIn K mainGlobals "has_two_chains" = some (some (.ref f_tw)))
    (u_tw : L2.Fun K "has_two_chains" "has_two_chains" s_has_two_chains f_tw d_tw)
    (n_me : PySem.W.nsIn K mainGlobals "is_memoryless" = some (some (.ref f_me)))
    (u_me : L2.Fun K "is_memoryless" "is_memoryless" s_is_memoryless f_me d_me)
    (n_pi : PySem.W.nsIn K mainGlobals "path_in" = some (some (.ref f_pi)))
    (u_pi : L2.Fun K "path_in" "path_in" s_path_in f_pi d_pi)
    (n_wit : PySem.W.nsIn K mainGlobals "witness" = some (some (.ref f_wit)))
    (u_wit : L2.Fun K "witness" "witness" s_witness f_wit d_wit)
    (n_fdP : PySem.W.nsIn K mainGlobals "_law_flipped" = some (some (.ref f_fdP)))
    (u_fdP : L2.Fun K "_law_flipped" "_law_flipped" s__law_flipped f_fdP d_fdP)
    (n_fit : PySem.W.nsIn K mainGlobals "_law_fits" = some (some (.ref f_fit)))
    (u_fit : L2.Fun K "_law_fits" "_law_fits" s__law_fits f_fit d_fit)
    (n_asz : PySem.W.nsIn K mainGlobals "_law_all_sizes" = some (some (.ref f_asz)))
    (u_asz : L2.Fun K "_law_all_sizes" "_law_all_sizes" s__law_all_sizes f_asz d_asz)
    (n_po : PySem.W.nsIn K mainGlobals "places_of" = some (some (.ref f_po)))
    (u_po : L2.Fun K "places_of" "places_of" s_places_of f_po d_po)
    (n_rs : PySem.W.nsIn K mainGlobals "residents_of" = some (some (.ref f_rs)))
    (u_rs : L2.Fun K "residents_of" "residents_of" s_residents_of f_rs d_rs)
    (n_nfM : PySem.W.nsIn K mainGlobals "need_feasible" = some (some (.ref f_nfM)))
    (u_nfM : L2.Fun K "need_feasible" "need_feasible" s_need_feasible f_nfM d_nfM)
    (n_wd : PySem.W.nsIn K mainGlobals "walked" = some (some (.ref f_wd)))
    (u_wd : L2.Fun K "walked" "walked" s_walked f_wd d_wd)
    (n_fx : PySem.W.nsIn K mainGlobals "fixed" = some (some (.ref f_fx)))
    (u_fx : L2.Fun K "fixed" "fixed" s_fixed f_fx d_fx)
    (n_ph : PySem.W.nsIn K mainGlobals "_law_path" = some (some (.ref f_ph)))
    (u_ph : L2.Fun K "_law_path" "_law_path" s__law_path f_ph d_ph)
    (n_hld : PySem.W.nsIn K mainGlobals "_law_held" = some (some (.ref f_hld)))
    (u_hld : L2.Fun K "_law_held" "_law_held" s__law_held f_hld d_hld)
    (n_arb : PySem.W.nsIn K mainGlobals "_law_are_best" = some (some (.ref f_arb)))
    (u_arb : L2.Fun K "_law_are_best" "_law_are_best" s__law_are_best f_arb d_arb)
    (n_so : PySem.W.nsIn K mainGlobals "sizes_of" = some (some (.ref f_so)))
    (u_so : L2.Fun K "sizes_of" "sizes_of" s_sizes_of f_so d_so)
    (n_frr : PySem.W.nsIn K mainGlobals "_law_fixed_right" = some (some (.ref f_frr)))
    (u_frr : L2.Fun K "_law_fixed_right" "_law_fixed_right" s__law_fixed_right f_frr d_frr)
    (n_apl : PySem.W.nsIn K mainGlobals "_law_all_places" = some (some (.ref f_apl)))
    (u_apl : L2.Fun K "_law_all_places" "_law_all_places" s__law_all_places f_apl d_apl)
    (n_cd : PySem.W.nsIn K mainGlobals "_law_counted" = some (some (.ref f_cd)))
    (u_cd : L2.Fun K "_law_counted" "_law_counted" s__law_counted f_cd d_cd)
    (n_wrr : PySem.W.nsIn K mainGlobals "_law_witness_right" = some (some (.ref f_wrr)))
    (u_wrr : L2.Fun K "_law_witness_right" "_law_witness_right" s__law_witness_right f_wrr d_wrr)
    (n_law : PySem.W.nsIn K mainGlobals "law" = some (some (.ref f_law)))
    (u_law : L2.Fun K "law" "law" s_law f_law d_law)
    (m_fi : MetK K CF "__init__" f_fi)
    (m_kd : MetK K CF "children" f_kd)
    (m_wk : MetK K CF "walk" f_wk)
    (m_ai : MetK K CA "__init__" f_ai)
    (m_fl : PrK K CF "flags" p_fl f_fl r_fl)
    (m_fp : PrK K CF "parents" p_fp f_fp r_fp)
    (m_at : PrK K CA "total" p_at f_at r_at)
    (m_as : PrK K CA "sizes" p_as f_as r_as)
    (m_ap : PrK K CA "places" p_ap f_ap r_ap)
    (eF_CF : EqF K CF f_fe)
    (u_fi : L2.Fun K "__init__" "Forest.__init__" s_Forest___init__ f_fi d_fi)
    (u_kd : L2.Fun K "children" "Forest.children" s_Forest_children f_kd d_kd)
    (u_wk : L2.Fun K "walk" "Forest.walk" s_Forest_walk f_wk d_wk)
    (u_ai : L2.Fun K "__init__" "Assignment.__init__" s_Assignment___init__ f_ai d_ai)
    (u_fl : L2.Fun K "flags" "Forest.flags" s_Forest_flags f_fl d_fl)
    (u_fp : L2.Fun K "parents" "Forest.parents" s_Forest_parents f_fp d_fp)
    (u_at : L2.Fun K "total" "Assignment.total" s_Assignment_total f_at d_at)
    (u_as : L2.Fun K "sizes" "Assignment.sizes" s_Assignment_sizes f_as d_as)
    (u_ap : L2.Fun K "places" "Assignment.places" s_Assignment_places f_ap d_ap)
    (rt0 : RootF K R)
    (e_InvalidSizes : ClsF K "InvalidSizes" "place" C_InvalidSizes I_InvalidSizes R)
    (i_InvalidSizes : L2.Fun K "__init__" "InvalidSizes.__init__" s_InvalidSizes___init__ I_InvalidSizes D_InvalidSizes)
    (e_InvalidUsers : ClsF K "InvalidUsers" "" C_InvalidUsers I_InvalidUsers R)
    (i_InvalidUsers : L2.Fun K "__init__" "InvalidUsers.__init__" s_InvalidUsers___init__ I_InvalidUsers D_InvalidUsers)
    (e_NeedsMemory : ClsF K "NeedsMemory" "" C_NeedsMemory I_NeedsMemory R)
    (i_NeedsMemory : L2.Fun K "__init__" "NeedsMemory.__init__" s_NeedsMemory___init__ I_NeedsMemory D_NeedsMemory)
    (z_abs : PySem.W.nsIn K mainGlobals "abs" = some none)
    (z_len : PySem.W.nsIn K mainGlobals "len" = some none)
    (z_rng : PySem.W.nsIn K mainGlobals "range" = some none)
    (z_enu : PySem.W.nsIn K mainGlobals "enumerate" = some none)
    (z_zip : PySem.W.nsIn K mainGlobals "zip" = some none)
    (z_isi : PySem.W.nsIn K mainGlobals "isinstance" = some none)
    (z_all : PySem.W.nsIn K mainGlobals "all" = some none)
    (z_srt : PySem.W.nsIn K mainGlobals "sorted" = some none)
    (z_lst : PySem.W.nsIn K mainGlobals "list" = some none)
    (z_dct : PySem.W.nsIn K mainGlobals "dict" = some none)
    (z_str : PySem.W.nsIn K mainGlobals "str" = some none)
    (z_int : PySem.W.nsIn K mainGlobals "int" = some none)
    (z_tup : PySem.W.nsIn K mainGlobals "tuple" = some none)
    (z_sum : PySem.W.nsIn K mainGlobals "sum" = some none)
    (z_min : PySem.W.nsIn K mainGlobals "min" = some none)
    (z_max : PySem.W.nsIn K mainGlobals "max" = some none)
    (z_rep : PySem.W.nsIn K mainGlobals "repr" = some none)
    (z_bool : PySem.W.nsIn K mainGlobals "bool" = some none)
    (z_any : PySem.W.nsIn K mainGlobals "any" = some none)
    (z_vE : PySem.W.nsIn K mainGlobals "ValueError" = some none)
    : LawTG l w K 19 63 "_law_script" mg fa h := by
  cases hfa.symm.trans (PySem.W.mg_of X G n_law)
  have N : Nm mg := ⟨PySem.W.mg_none_of X G z_abs, PySem.W.mg_none_of X G z_len, PySem.W.mg_none_of X G z_rng, PySem.W.mg_none_of X G z_enu, PySem.W.mg_none_of X G z_zip, PySem.W.mg_none_of X G z_isi, PySem.W.mg_none_of X G z_all, PySem.W.mg_none_of X G z_srt, PySem.W.mg_none_of X G z_lst, PySem.W.mg_none_of X G z_dct, PySem.W.mg_none_of X G z_str, PySem.W.mg_none_of X G z_int, PySem.W.mg_none_of X G z_tup, PySem.W.mg_none_of X G z_sum, PySem.W.mg_none_of X G z_min, PySem.W.mg_none_of X G z_max, PySem.W.mg_none_of X G z_rep, PySem.W.mg_none_of X G z_bool, PySem.W.mg_none_of X G z_any, PySem.W.mg_none_of X G z_vE⟩
  have Cs_ : Cs mg := ⟨⟨_, PySem.W.mg_of X G cL⟩, ⟨_, PySem.W.mg_of X G cT⟩⟩
  obtain ⟨tm, gM⟩ := gMC
  have SF : IsF K CF := ⟨kCF.ha, kCF.hn, kCF.ht, kCF.hm⟩
  have O : FoC K CF := ⟨kCF.cls, noCF_above⟩
  have Z : Fc K mg CF (.type "type") := kCF.fc X G root
  have B : Ac K mg CA (.type "type") := ⟨PySem.W.mg_of X G kCA.nsn, ⟨kCA.rd, kCA.ga⟩, ⟨_, kCA.most, ⟨_, rfl⟩⟩, kCA.cls, noCA_own_forest, noCA_own_places⟩
  have b_bg := u_bg.binds (ps := ["_law_script"]) fun _ _ _ _ _ _ us hl => match us, hl with | [_], _ => rfl
  have b_mx := u_mx.binds (ps := ["_law_draw"]) fun _ _ _ _ _ _ us hl => match us, hl with | [_], _ => rfl
  have b_dt := u_dt.binds (ps := ["_law_draw", "_law_size"]) fun _ _ _ _ _ _ us hl => match us, hl with | [_, _], _ => rfl
  have b_dp := u_dp.binds (ps := ["_law_draw", "_law_some"]) fun _ _ _ _ _ _ us hl => match us, hl with | [_, _], _ => rfl
  have b_fo := u_fo.binds (ps := ["_law_draw", "_law_most"]) fun _ _ _ _ _ _ us hl => match us, hl with | [_, _], _ => rfl
  have b_isn := u_isn.binds (ps := ["value"]) fun _ _ _ _ _ _ us hl => match us, hl with | [_], _ => rfl
  have b_isa := u_isa.binds (ps := ["parents", "name"]) fun _ _ _ _ _ _ us hl => match us, hl with | [_, _], _ => rfl
  have b_nd := u_nd.binds (ps := ["parents"]) fun _ _ _ _ _ _ us hl => match us, hl with | [_], _ => rfl
  have b_fi := u_fi.binds (ps := ["self", "parents"]) fun _ _ _ _ _ _ us hl => match us, hl with | [_, _], _ => rfl
  have b_ii := u_ii.binds (ps := ["value", "least"]) fun _ _ _ _ _ _ us hl => match us, hl with | [_, _], _ => rfl
  have b_nu := u_nu.binds (ps := ["users", "most"]) fun _ _ _ _ _ _ us hl => match us, hl with | [_, _], _ => rfl
  have b_np := u_np.binds (ps := ["forest", "place"]) fun _ _ _ _ _ _ us hl => match us, hl with | [_, _], _ => rfl
  have b_kd := u_kd.binds (ps := ["self", "place"]) fun _ _ _ _ _ _ us hl => match us, hl with | [_, _], _ => rfl
  have b_fl := u_fl.binds (ps := ["self"]) fun _ _ _ _ _ _ us hl => match us, hl with | [_], _ => rfl
  have b_tw := u_tw.binds (ps := ["forest"]) fun _ _ _ _ _ _ us hl => match us, hl with | [_], _ => rfl
  have b_me := u_me.binds (ps := ["forest", "users"]) fun _ _ _ _ _ _ us hl => match us, hl with | [_, _], _ => rfl
  have b_pi := u_pi.binds (ps := ["above", "place"]) fun _ _ _ _ _ _ us hl => match us, hl with | [_, _], _ => rfl
  have b_wit := u_wit.binds (ps := ["forest", "users"]) fun _ _ _ _ _ _ us hl => match us, hl with | [_, _], _ => rfl
  have b_fdP := u_fdP.binds (ps := ["_law_some"]) fun _ _ _ _ _ _ us hl => match us, hl with | [_], _ => rfl
  have b_fit := u_fit.binds (ps := ["_law_parents", "_law_folk", "_law_wide"]) fun _ _ _ _ _ _ us hl => match us, hl with | [_, _, _], _ => rfl
  have b_asz := u_asz.binds (ps := ["_law_parents", "_law_folk"]) fun _ _ _ _ _ _ us hl => match us, hl with | [_, _], _ => rfl
  have b_po := u_po.binds (ps := ["forest"]) fun _ _ _ _ _ _ us hl => match us, hl with | [_], _ => rfl
  have b_fp := u_fp.binds (ps := ["self"]) fun _ _ _ _ _ _ us hl => match us, hl with | [_], _ => rfl
  have b_rs := u_rs.binds (ps := ["forest", "users", "sizes"]) fun _ _ _ _ _ _ us hl => match us, hl with | [_, _, _], _ => rfl
  have b_nfM := u_nfM.binds (ps := ["forest", "users", "sizes"]) fun _ _ _ _ _ _ us hl => match us, hl with | [_, _, _], _ => rfl
  have b_wd := u_wd.binds (ps := ["above", "place", "depth"]) fun _ _ _ _ _ _ us hl => match us, hl with | [_, _, _], _ => rfl
  have b_wk := u_wk.binds (ps := ["self"]) fun _ _ _ _ _ _ us hl => match us, hl with | [_], _ => rfl
  have b_ai := u_ai.binds (ps := ["self", "forest", "places"]) fun _ _ _ _ _ _ us hl => match us, hl with | [_, _, _], _ => rfl
  have b_fx := u_fx.binds (ps := ["forest", "users", "sizes"]) fun _ _ _ _ _ _ us hl => match us, hl with | [_, _, _], _ => rfl
  have b_ph := u_ph.binds (ps := ["_law_parents", "_law_place"]) fun _ _ _ _ _ _ us hl => match us, hl with | [_, _], _ => rfl
  have b_hld := u_hld.binds (ps := ["_law_parents", "_law_places"]) fun _ _ _ _ _ _ us hl => match us, hl with | [_, _], _ => rfl
  have b_arb := u_arb.binds (ps := ["_law_one", "_law_other"]) fun _ _ _ _ _ _ us hl => match us, hl with | [_, _], _ => rfl
  have b_at := u_at.binds (ps := ["self"]) fun _ _ _ _ _ _ us hl => match us, hl with | [_], _ => rfl
  have b_so := u_so.binds (ps := ["forest", "places"]) fun _ _ _ _ _ _ us hl => match us, hl with | [_, _], _ => rfl
  have b_as := u_as.binds (ps := ["self"]) fun _ _ _ _ _ _ us hl => match us, hl with | [_], _ => rfl
  have b_ap := u_ap.binds (ps := ["self"]) fun _ _ _ _ _ _ us hl => match us, hl with | [_], _ => rfl
  have b_frr := u_frr.binds (ps := ["_law_parents", "_law_folk"]) fun _ _ _ _ _ _ us hl => match us, hl with | [_, _], _ => rfl
  have b_apl := u_apl.binds (ps := ["_law_parents", "_law_folk"]) fun _ _ _ _ _ _ us hl => match us, hl with | [_, _], _ => rfl
  have b_cd := u_cd.binds (ps := ["_law_parents", "_law_places"]) fun _ _ _ _ _ _ us hl => match us, hl with | [_, _], _ => rfl
  have b_wrr := u_wrr.binds (ps := ["_law_parents", "_law_folk", "_law_told"]) fun _ _ _ _ _ _ us hl => match us, hl with | [_, _, _], _ => rfl
  have g_bg := PySem.W.mg_of X G n_bg
  have g_mx := PySem.W.mg_of X G n_mx
  have g_dt := PySem.W.mg_of X G n_dt
  have g_dp := PySem.W.mg_of X G n_dp
  have g_fo := PySem.W.mg_of X G n_fo
  have g_isn := PySem.W.mg_of X G n_isn
  have g_isa := PySem.W.mg_of X G n_isa
  have g_nd := PySem.W.mg_of X G n_nd
  have g_ii := PySem.W.mg_of X G n_ii
  have g_nu := PySem.W.mg_of X G n_nu
  have g_np := PySem.W.mg_of X G n_np
  have g_tw := PySem.W.mg_of X G n_tw
  have g_me := PySem.W.mg_of X G n_me
  have g_pi := PySem.W.mg_of X G n_pi
  have g_wit := PySem.W.mg_of X G n_wit
  have g_fdP := PySem.W.mg_of X G n_fdP
  have g_fit := PySem.W.mg_of X G n_fit
  have g_asz := PySem.W.mg_of X G n_asz
  have g_po := PySem.W.mg_of X G n_po
  have g_rs := PySem.W.mg_of X G n_rs
  have g_nfM := PySem.W.mg_of X G n_nfM
  have g_wd := PySem.W.mg_of X G n_wd
  have g_fx := PySem.W.mg_of X G n_fx
  have g_ph := PySem.W.mg_of X G n_ph
  have g_hld := PySem.W.mg_of X G n_hld
  have g_arb := PySem.W.mg_of X G n_arb
  have g_so := PySem.W.mg_of X G n_so
  have g_frr := PySem.W.mg_of X G n_frr
  have g_apl := PySem.W.mg_of X G n_apl
  have g_cd := PySem.W.mg_of X G n_cd
  have g_wrr := PySem.W.mg_of X G n_wrr
  have rt := rt0.rt X G
  obtain ⟨T, eT⟩ : ∃ T : List (Addr × Str), T = [] := ⟨_, rfl⟩
  refine ⟨d_law, ([] : List (Addr × Addr)), spLaw22 K, fun p hp => ?_, fun s u => ?_, fun H a ns hl hts hS => ?_, fun base KB GB TBs => ?_⟩
  · cases hp
  · obtain ⟨oc, od, kV, doc, pm, an, cdv, ct, osl, rfl, lk, hcd⟩ := u_law.ex
    exact .of_eq rfl
  · refine ⟨a, ns, rfl, hS, hl, fun _ => rfl⟩
  have E_InvalidSizes : Er1 l.prog w K mg base "InvalidSizes" "place" C_InvalidSizes I_InvalidSizes D_InvalidSizes := ⟨e_InvalidSizes.er X G rt0, ok_InvalidSizes i_InvalidSizes rt (e_InvalidSizes.er X G rt0), i_InvalidSizes.binds (ps := ["self", "place"]) fun _ _ _ _ _ _ us hl => match us, hl with | [_, _], _ => rfl⟩
  have E_InvalidUsers : Er0 l.prog w K mg base "InvalidUsers" C_InvalidUsers I_InvalidUsers D_InvalidUsers := ⟨e_InvalidUsers.er X G rt0, ok_InvalidUsers i_InvalidUsers rt (e_InvalidUsers.er X G rt0), i_InvalidUsers.binds (ps := ["self"]) fun _ _ _ _ _ _ us hl => match us, hl with | [_], _ => rfl⟩
  have E_NeedsMemory : Er0 l.prog w K mg base "NeedsMemory" C_NeedsMemory I_NeedsMemory D_NeedsMemory := ⟨e_NeedsMemory.er X G rt0, ok_NeedsMemory i_NeedsMemory rt (e_NeedsMemory.er X G rt0), i_NeedsMemory.binds (ps := ["self"]) fun _ _ _ _ _ _ us hl => match us, hl with | [_], _ => rfl⟩
  have D_bg : Dn l.prog w K mg base CX0 1 "_law_begin" ["_law_script"] (spBeginB K) f_bg d_bg := ⟨ok_beginB u_bg N, u_bg.kp, b_bg, g_bg⟩
  have D_mx : Dn l.prog w K mg base CX0 1 "_law_mixed" ["_law_draw"] (spMixedB) f_mx d_mx := ⟨ok_mixedB u_mx, u_mx.kp, b_mx, g_mx⟩
  have D_dt : Dn l.prog w K mg base CX0 2 "_law_take" ["_law_draw", "_law_size"] (spTakeB) f_dt d_dt := ⟨ok_takeB u_dt D_mx, u_dt.kp, b_dt, g_dt⟩
  have D_dp : Dn l.prog w K mg base CX0 3 "_law_pick" ["_law_draw", "_law_some"] (spPickB) f_dp d_dp := ⟨ok_pickB u_dp N D_dt, u_dp.kp, b_dp, g_dp⟩
  have D_fo : Dn l.prog w K mg base CX0 4 "_law_forest" ["_law_draw", "_law_most"] (spForB) f_fo d_fo := ⟨ok_forestB u_fo N D_dt D_dp, u_fo.kp, b_fo, g_fo⟩
  have D_isn : Dn l.prog w K mg base CX0 1 "is_name" ["value"] (spIsName) f_isn d_isn := ⟨ok_isName u_isn N Cs_, u_isn.kp, b_isn, g_isn⟩
  have D_isa : Dn l.prog w K mg base CX0 1 "is_ancestor" ["parents", "name"] (spIsAnc) f_isa d_isa := ⟨ok_isAnc u_isa, u_isa.kp, b_isa, g_isa⟩
  have D_nd : Dn l.prog w K mg base CX0 2 "need_parents" ["parents"] (spNeed) f_nd d_nd := ⟨ok_need u_nd N Cs_ Z D_isn D_isa, u_nd.kp, b_nd, g_nd⟩
  have F_fi : FnOk l.prog w K mg base CX0 3 f_fi d_fi ["self", "parents"] (spFInit CF) := ok_finit u_fi N O D_nd
  have MK_fi : Mk K CF f_fi := ⟨kCF.mks, m_fi.at_, m_fi.fn, kCF.kp⟩
  have D_ii : Dn l.prog w K mg base CX0 1 "is_integer" ["value", "least"] (spIsInt K) f_ii d_ii := ⟨ok_isInt u_ii N, u_ii.kp, b_ii, g_ii⟩
  have D_nu : Dn l.prog w K mg base (L2.CX l.prog w) 3 "need_users" ["users", "most"] (spUsers K C_InvalidUsers) f_nu d_nu := ⟨ok_users u_nu N D_ii E_InvalidUsers, u_nu.kp, b_nu, g_nu⟩
  have D_np : Dn l.prog w K mg base CX0 1 "need_place" ["forest", "place"] (spNeedPl CF) f_np d_np := ⟨ok_needPl u_np N O Z, u_np.kp, b_np, g_np⟩
  have F_kd : FnOk l.prog w K mg base CX0 2 f_kd d_kd ["self", "place"] (spKids CF) := ok_kids u_kd O D_np
  have M_kd : Mt l.prog w K mg base CX0 2 CF "children" ["self", "place"] (spKids CF) f_kd d_kd := ⟨⟨m_kd.at_, m_kd.fn, u_kd.kp⟩, F_kd, b_kd⟩
  have P_fl : Pr1 l.prog w K mg base CF "flags" (spFFlags CF) p_fl f_fl d_fl := ⟨⟨m_fl.at_, m_fl.get, m_fl.tak, ⟨_, m_fl.rec_⟩⟩, ok_fflags u_fl N O, b_fl⟩
  have D_tw : Dn l.prog w K mg base CX0 3 "has_two_chains" ["forest"] (spTwoC CF) f_tw d_tw := ⟨ok_twoC u_tw N O Z M_kd P_fl, u_tw.kp, b_tw, g_tw⟩
  have D_me : Dn l.prog w K mg base (L2.CX l.prog w) 4 "is_memoryless" ["forest", "users"] (spMem K CF C_InvalidUsers) f_me d_me := ⟨ok_mem u_me gM D_nu D_tw, u_me.kp, b_me, g_me⟩
  have D_pi : Dn l.prog w K mg base CX0 1 "path_in" ["above", "place"] (spPathIn) f_pi d_pi := ⟨ok_pathIn u_pi N, u_pi.kp, b_pi, g_pi⟩
  have D_wit : Dn l.prog w K mg base (L2.CX l.prog w) 5 "witness" ["forest", "users"] (spWit K CF C_InvalidUsers) f_wit d_wit := ⟨ok_wit u_wit N O Z D_me M_kd D_pi P_fl, u_wit.kp, b_wit, g_wit⟩
  have D_fdP : Dn l.prog w K mg base CX0 1 "_law_flipped" ["_law_some"] (spFlipP) f_fdP d_fdP := ⟨ok_flipP u_fdP N, u_fdP.kp, b_fdP, g_fdP⟩
  have D_fit : Dn l.prog w K mg base CX0 1 "_law_fits" ["_law_parents", "_law_folk", "_law_wide"] (spFits) f_fit d_fit := ⟨ok_fits u_fit N, u_fit.kp, b_fit, g_fit⟩
  have D_asz : Dn l.prog w K mg base CX0 2 "_law_all_sizes" ["_law_parents", "_law_folk"] (spAllSz) f_asz d_asz := ⟨ok_allSz u_asz N D_fit, u_asz.kp, b_asz, g_asz⟩
  have D_po : Dn l.prog w K mg base CX0 3 "places_of" ["forest"] (spPlacesOf CF) f_po d_po := ⟨ok_placesOf u_po N O Z P_fl, u_po.kp, b_po, g_po⟩
  have P_fp : Pr1 l.prog w K mg base CF "parents" (spFParents CF) p_fp f_fp d_fp := ⟨⟨m_fp.at_, m_fp.get, m_fp.tak, ⟨_, m_fp.rec_⟩⟩, ok_fparents u_fp N O, b_fp⟩
  have D_rs : Dn l.prog w K mg base CX0 4 "residents_of" ["forest", "users", "sizes"] (spResid CF) f_rs d_rs := ⟨ok_resid u_rs N O Z D_po P_fl P_fp, u_rs.kp, b_rs, g_rs⟩
  have D_nfM : Dn l.prog w K mg base (L2.CX l.prog w) 5 "need_feasible" ["forest", "users", "sizes"] (spFeasM K CF C_InvalidSizes) f_nfM d_nfM := ⟨ok_feasM u_nfM N O E_InvalidSizes D_rs D_ii P_fl, u_nfM.kp, b_nfM, g_nfM⟩
  have D_wd : ∀ m, Dn l.prog w K mg base CX0 (m + 1) "walked" ["above", "place", "depth"] (spWalked m) f_wd d_wd := fun m => ⟨ok_walked u_wd b_wd g_wd m, u_wd.kp, b_wd, g_wd⟩
  have M_wk : MtG l.prog w K mg base 15 CF "walk" ["self"] (spWalk CF) f_wk d_wk := ⟨⟨m_wk.at_, m_wk.fn, u_wk.kp⟩, ok_walk u_wk O Z D_wd, b_wk⟩
  have F_ai : FnOk l.prog w K mg base CX0 1 f_ai d_ai ["self", "forest", "places"] (spAInit CF CA) := ok_ainit u_ai N O Z B
  have MK_ai : Mk K CA f_ai := ⟨kCA.mks, m_ai.at_, m_ai.fn, kCA.kp⟩
  have D_fx : Dn l.prog w K mg base (L2.CX l.prog w) 17 "fixed" ["forest", "users", "sizes"] (spFixed K CF CA C_InvalidSizes C_InvalidUsers C_NeedsMemory) f_fx d_fx := ⟨ok_fixed u_fx N O Z B D_nu D_me E_NeedsMemory D_nfM D_pi M_kd M_wk MK_ai F_ai b_ai, u_fx.kp, b_fx, g_fx⟩
  have D_ph : Dn l.prog w K mg base CX0 1 "_law_path" ["_law_parents", "_law_place"] (spPathL) f_ph d_ph := ⟨ok_pathL u_ph, u_ph.kp, b_ph, g_ph⟩
  have D_hld : Dn l.prog w K mg base CX0 2 "_law_held" ["_law_parents", "_law_places"] (spHeld) f_hld d_hld := ⟨ok_held u_hld N D_ph, u_hld.kp, b_hld, g_hld⟩
  have D_arb : Dn l.prog w K mg base CX0 1 "_law_are_best" ["_law_one", "_law_other"] (spAreB) f_arb d_arb := ⟨ok_areB u_arb N, u_arb.kp, b_arb, g_arb⟩
  have P_at : PrN l.prog w K mg base 1 CA "total" (spATotal CA) p_at f_at d_at := ⟨⟨m_at.at_, m_at.get, m_at.tak, ⟨_, m_at.rec_⟩⟩, ok_atotal u_at N B, b_at⟩
  have D_so : Dn l.prog w K mg base CX0 3 "sizes_of" ["forest", "places"] (spSizesOf CF) f_so d_so := ⟨ok_sizesOf u_so N O P_fl D_pi, u_so.kp, b_so, g_so⟩
  have P_as : PrN l.prog w K mg base 4 CA "sizes" (spASizes CF CA) p_as f_as d_as := ⟨⟨m_as.at_, m_as.get, m_as.tak, ⟨_, m_as.rec_⟩⟩, ok_asizes u_as B D_so, b_as⟩
  have P_ap : PrN l.prog w K mg base 1 CA "places" (spAPlaces CA) p_ap f_ap d_ap := ⟨⟨m_ap.at_, m_ap.get, m_ap.tak, ⟨_, m_ap.rec_⟩⟩, ok_aplaces u_ap N B, b_ap⟩
  have D_frr : Dn l.prog w K mg base CX0 18 "_law_fixed_right" ["_law_parents", "_law_folk"] (spFixR) f_frr d_frr := ⟨ok_fixR u_frr N Z B F_fi MK_fi b_fi D_asz D_fx D_hld D_arb P_at P_as P_ap, u_frr.kp, b_frr, g_frr⟩
  have D_apl : Dn l.prog w K mg base CX0 2 "_law_all_places" ["_law_parents", "_law_folk"] (spAllPl) f_apl d_apl := ⟨ok_allPl u_apl N, u_apl.kp, b_apl, g_apl⟩
  have D_cd : Dn l.prog w K mg base CX0 2 "_law_counted" ["_law_parents", "_law_places"] (spCounted) f_cd d_cd := ⟨ok_counted u_cd N D_ph, u_cd.kp, b_cd, g_cd⟩
  have D_wrr : Dn l.prog w K mg base CX0 3 "_law_witness_right" ["_law_parents", "_law_folk", "_law_told"] (spWitR) f_wrr d_wrr := ⟨ok_witR u_wrr N D_fit D_apl D_cd D_hld D_arb, u_wrr.kp, b_wrr, g_wrr⟩
  have W : W22 l.prog w K mg base CF C_InvalidUsers (.type "type") (fun i => ([f_bg, f_dt, f_fo, f_fi, f_me, f_wit, f_fdP, f_frr, f_wrr] : List Nat).getD i 0) (fun i => ([d_bg, d_dt, d_fo, d_fi, d_me, d_wit, d_fdP, d_frr, d_wrr] : List FuncData).getD i d_bg) := { Z := Z, bg := D_bg, dt := D_dt, fo := D_fo, fi := F_fi, fim := MK_fi, fib := b_fi, me := D_me, mek := kw2 u_me fun _ _ _ _ _ _ _ _ => rfl, wi := D_wit, wik := kw2 u_wit fun _ _ _ _ _ _ _ _ => rfl, fl := D_fdP, fr := D_frr, wr := D_wrr }
  exact ok_law22 u_law N W
end
theorem walk {l : PySem.W.OpenLaw} {q : Program} {loose : List Str} {XP : (Str → Option Value) → Heap → Prop} {YP : World → Heap → Prop} {d : DefRec} {K : Params → PySem.W.Frag} (hn : l.most = some 63) (hdf : d.params.defaults = [])
    (hY : ∀ (w : World) (h : Heap), YP w h → (K w.params).In h)
    (F : ∀ (w : World) (mg : Str → Option Value) (fa : Addr) (h : Heap), (K w.params).In h → h.Ns mainGlobals mg → mg d.name = some (.ref fa) → TabsOf q (K w.params) h → XP mg h → LawTG l w (K w.params) 19 63 "_law_script" mg fa h) :
    PySem.W.WalkO q loose XP YP l.row.toRowW d [] (fun f vs => PySem.call f vs) :=
  walk_tabG (n := 63) (k := 19) (x := "_law_script") hn (by decide) hdf ⟨rfl, by decide, by decide⟩ hY F
end FT


open PySem PySem.W PyProof.Rows
set_option maxRecDepth 100000 in
set_option maxHeartbeats 0 in
theorem FT.k22_top : PySem.Challenge.rw_flagtrees_k22_whole_memoryless_or_not.Holds := by
  w_on; o_law; k_head; (case hw => w_witness2)
  k_fill
  refine FT.walk (l := PySem.Challenge.rw_flagtrees_k22_whole_memoryless_or_not) rfl rfl (fun w h Y => PySem.W.kIn_of Y) ?F
  case F =>
    intro w mg fa h KX G hm TO XX
    have hmg : mg "law" = some (.ref fa) := hm
    clear hm
    refine' FT.all_mk KX G hmg TO ?kCF ?noCF_above ?kCA ?noCA_own_forest ?noCA_own_places ?root ?cL ?cT ?gMC ?n_bg ?u_bg ?n_mx ?u_mx ?n_dt ?u_dt ?n_dp ?u_dp ?n_fo ?u_fo ?n_isn ?u_isn ?n_isa ?u_isa ?n_nd ?u_nd ?n_ii ?u_ii ?n_nu ?u_nu ?n_np ?u_np ?n_tw ?u_tw ?n_me ?u_me ?n_pi ?u_pi ?n_wit ?u_wit ?n_fdP ?u_fdP ?n_fit ?u_fit ?n_asz ?u_asz ?n_po ?u_po ?n_rs ?u_rs ?n_nfM ?u_nfM ?n_wd ?u_wd ?n_fx ?u_fx ?n_ph ?u_ph ?n_hld ?u_hld ?n_arb ?u_arb ?n_so ?u_so ?n_frr ?u_frr ?n_apl ?u_apl ?n_cd ?u_cd ?n_wrr ?u_wrr ?n_law ?u_law ?m_fi ?m_kd ?m_wk ?m_ai ?m_fl ?m_fp ?m_at ?m_as ?m_ap ?eF_CF ?u_fi ?u_kd ?u_wk ?u_ai ?u_fl ?u_fp ?u_at ?u_as ?u_ap ?rt0 ?e_InvalidSizes ?i_InvalidSizes ?e_InvalidUsers ?i_InvalidUsers ?e_NeedsMemory ?i_NeedsMemory ?z_abs ?z_len ?z_rng ?z_enu ?z_zip ?z_isi ?z_all ?z_srt ?z_lst ?z_dct ?z_str ?z_int ?z_tup ?z_sum ?z_min ?z_max ?z_rep ?z_bool ?z_any ?z_vE
    (case kCF => (refine' ⟨?nsn, ?rd, ?ga, ?most, ?pg, ?hd, ?po, ?sa, ?mks, ?kp, ?ha, ?hn, ?ht, ?hm⟩; (case nsn => k_is); (case rd => k_is); (case ga => k_is); (case most => k_is); (case pg => k_is); (case hd => k_is); (case po => k_is); (case sa => k_is); (case mks => k_is); (case kp => k_is); (case ha => k_is); (case hn => k_is); (case ht => k_is); (case hm => k_is)))
    (case noCF_above => k_is)
    (case kCA => (refine' ⟨?nsn, ?rd, ?ga, ?most, ?pg, ?hd, ?po, ?sa, ?mks, ?kp, ?ha, ?hn, ?ht, ?hm⟩; (case nsn => k_is); (case rd => k_is); (case ga => k_is); (case most => k_is); (case pg => k_is); (case hd => k_is); (case po => k_is); (case sa => k_is); (case mks => k_is); (case kp => k_is); (case ha => k_is); (case hn => k_is); (case ht => k_is); (case hm => k_is)))
    (case noCA_own_forest => k_is)
    (case noCA_own_places => k_is)
    (case root => k_is)
    (case cL => k_is)
    (case cT => k_is)
    (case gMC => (rw [show (10 : Int) ^ 30 = 1000000000000000000000000000000 by decide]; exact FT.loose_int XX (List.mem_cons_self ..)))
    (case n_bg => k_is)
    (case u_bg => (refine' L2.fun_mk ?l ?c ?k; (case l => k_is); (case c => k_is); (case k => k_is)))
    (case n_mx => k_is)
    (case u_mx => (refine' L2.fun_mk ?l ?c ?k; (case l => k_is); (case c => k_is); (case k => k_is)))
    (case n_dt => k_is)
    (case u_dt => (refine' L2.fun_mk ?l ?c ?k; (case l => k_is); (case c => k_is); (case k => k_is)))
    (case n_dp => k_is)
    (case u_dp => (refine' L2.fun_mk ?l ?c ?k; (case l => k_is); (case c => k_is); (case k => k_is)))
    (case n_fo => k_is)
    (case u_fo => (refine' L2.fun_mk ?l ?c ?k; (case l => k_is); (case c => k_is); (case k => k_is)))
    (case n_isn => k_is)
    (case u_isn => (refine' L2.fun_mk ?l ?c ?k; (case l => k_is); (case c => k_is); (case k => k_is)))
    (case n_isa => k_is)
    (case u_isa => (refine' L2.fun_mk ?l ?c ?k; (case l => k_is); (case c => k_is); (case k => k_is)))
    (case n_nd => k_is)
    (case u_nd => (refine' L2.fun_mk ?l ?c ?k; (case l => k_is); (case c => k_is); (case k => k_is)))
    (case n_ii => k_is)
    (case u_ii => (refine' L2.fun_mk ?l ?c ?k; (case l => k_is); (case c => k_is); (case k => k_is)))
    (case n_nu => k_is)
    (case u_nu => (refine' L2.fun_mk ?l ?c ?k; (case l => k_is); (case c => k_is); (case k => k_is)))
    (case n_np => k_is)
    (case u_np => (refine' L2.fun_mk ?l ?c ?k; (case l => k_is); (case c => k_is); (case k => k_is)))
    (case n_tw => k_is)
    (case u_tw => (refine' L2.fun_mk ?l ?c ?k; (case l => k_is); (case c => k_is); (case k => k_is)))
    (case n_me => k_is)
    (case u_me => (refine' L2.fun_mk ?l ?c ?k; (case l => k_is); (case c => k_is); (case k => k_is)))
    (case n_pi => k_is)
    (case u_pi => (refine' L2.fun_mk ?l ?c ?k; (case l => k_is); (case c => k_is); (case k => k_is)))
    (case n_wit => k_is)
    (case u_wit => (refine' L2.fun_mk ?l ?c ?k; (case l => k_is); (case c => k_is); (case k => k_is)))
    (case n_fdP => k_is)
    (case u_fdP => (refine' L2.fun_mk ?l ?c ?k; (case l => k_is); (case c => k_is); (case k => k_is)))
    (case n_fit => k_is)
    (case u_fit => (refine' L2.fun_mk ?l ?c ?k; (case l => k_is); (case c => k_is); (case k => k_is)))
    (case n_asz => k_is)
    (case u_asz => (refine' L2.fun_mk ?l ?c ?k; (case l => k_is); (case c => k_is); (case k => k_is)))
    (case n_po => k_is)
    (case u_po => (refine' L2.fun_mk ?l ?c ?k; (case l => k_is); (case c => k_is); (case k => k_is)))
    (case n_rs => k_is)
    (case u_rs => (refine' L2.fun_mk ?l ?c ?k; (case l => k_is); (case c => k_is); (case k => k_is)))
    (case n_nfM => k_is)
    (case u_nfM => (refine' L2.fun_mk ?l ?c ?k; (case l => k_is); (case c => k_is); (case k => k_is)))
    (case n_wd => k_is)
    (case u_wd => (refine' L2.fun_mk ?l ?c ?k; (case l => k_is); (case c => k_is); (case k => k_is)))
    (case n_fx => k_is)
    (case u_fx => (refine' L2.fun_mk ?l ?c ?k; (case l => k_is); (case c => k_is); (case k => k_is)))
    (case n_ph => k_is)
    (case u_ph => (refine' L2.fun_mk ?l ?c ?k; (case l => k_is); (case c => k_is); (case k => k_is)))
    (case n_hld => k_is)
    (case u_hld => (refine' L2.fun_mk ?l ?c ?k; (case l => k_is); (case c => k_is); (case k => k_is)))
    (case n_arb => k_is)
    (case u_arb => (refine' L2.fun_mk ?l ?c ?k; (case l => k_is); (case c => k_is); (case k => k_is)))
    (case n_so => k_is)
    (case u_so => (refine' L2.fun_mk ?l ?c ?k; (case l => k_is); (case c => k_is); (case k => k_is)))
    (case n_frr => k_is)
    (case u_frr => (refine' L2.fun_mk ?l ?c ?k; (case l => k_is); (case c => k_is); (case k => k_is)))
    (case n_apl => k_is)
    (case u_apl => (refine' L2.fun_mk ?l ?c ?k; (case l => k_is); (case c => k_is); (case k => k_is)))
    (case n_cd => k_is)
    (case u_cd => (refine' L2.fun_mk ?l ?c ?k; (case l => k_is); (case c => k_is); (case k => k_is)))
    (case n_wrr => k_is)
    (case u_wrr => (refine' L2.fun_mk ?l ?c ?k; (case l => k_is); (case c => k_is); (case k => k_is)))
    (case n_law => k_is)
    (case u_law => (refine' L2.fun_mk ?l ?c ?k; (case l => k_is); (case c => k_is); (case k => k_is)))
    (case m_fi => (refine' ⟨?at_, ?fn⟩; (case at_ => k_is); (case fn => k_is)))
    (case m_kd => (refine' ⟨?at_, ?fn⟩; (case at_ => k_is); (case fn => k_is)))
    (case m_wk => (refine' ⟨?at_, ?fn⟩; (case at_ => k_is); (case fn => k_is)))
    (case m_ai => (refine' ⟨?at_, ?fn⟩; (case at_ => k_is); (case fn => k_is)))
    (case m_fl => (refine' ⟨?at_, ?get, ?tak, ?rec_⟩; (case at_ => k_is); (case get => k_is); (case tak => k_is); (case rec_ => k_is)))
    (case m_fp => (refine' ⟨?at_, ?get, ?tak, ?rec_⟩; (case at_ => k_is); (case get => k_is); (case tak => k_is); (case rec_ => k_is)))
    (case m_at => (refine' ⟨?at_, ?get, ?tak, ?rec_⟩; (case at_ => k_is); (case get => k_is); (case tak => k_is); (case rec_ => k_is)))
    (case m_as => (refine' ⟨?at_, ?get, ?tak, ?rec_⟩; (case at_ => k_is); (case get => k_is); (case tak => k_is); (case rec_ => k_is)))
    (case m_ap => (refine' ⟨?at_, ?get, ?tak, ?rec_⟩; (case at_ => k_is); (case get => k_is); (case tak => k_is); (case rec_ => k_is)))
    (case eF_CF => exact ⟨⟨_, _, _, _, _, _, _, _, _, _, _, _, _, _, _, rfl, _, _, _, _, _, rfl, rfl, rfl, rfl⟩, ⟨_, rfl, rfl⟩⟩)
    (case u_fi => (refine' L2.fun_mk ?l ?c ?k; (case l => k_is); (case c => k_is); (case k => k_is)))
    (case u_kd => (refine' L2.fun_mk ?l ?c ?k; (case l => k_is); (case c => k_is); (case k => k_is)))
    (case u_wk => (refine' L2.fun_mk ?l ?c ?k; (case l => k_is); (case c => k_is); (case k => k_is)))
    (case u_ai => (refine' L2.fun_mk ?l ?c ?k; (case l => k_is); (case c => k_is); (case k => k_is)))
    (case u_fl => (refine' L2.fun_mk ?l ?c ?k; (case l => k_is); (case c => k_is); (case k => k_is)))
    (case u_fp => (refine' L2.fun_mk ?l ?c ?k; (case l => k_is); (case c => k_is); (case k => k_is)))
    (case u_at => (refine' L2.fun_mk ?l ?c ?k; (case l => k_is); (case c => k_is); (case k => k_is)))
    (case u_as => (refine' L2.fun_mk ?l ?c ?k; (case l => k_is); (case c => k_is); (case k => k_is)))
    (case u_ap => (refine' L2.fun_mk ?l ?c ?k; (case l => k_is); (case c => k_is); (case k => k_is)))
    (case rt0 => (refine' ⟨?nsn, ?at_, ?rd, ?ga, ?ini, ?hn, ?ht⟩; (case nsn => k_is); (case at_ => (refine' ⟨_, _, _, _, _, _, _, _, _, _, _, _, _, _, ?xl⟩; (case xl => rfl))); (case rd => k_is); (case ga => k_is); (case ini => k_is); (case hn => k_is); (case ht => k_is)))
    (case e_InvalidSizes => (refine' ⟨?nsn, ?at_, ?sa, ?ga, ?gg, ?ha, ?kC, ?no, ?ini, ?ity⟩; (case nsn => k_is); (case at_ => (refine' ⟨_, _, _, _, _, _, _, _, _, _, _, _, _, _, ?xl⟩; (case xl => rfl))); (case sa => k_is); (case ga => k_is); (case gg => k_is); (case ha => k_is); (case kC => k_is); (case no => k_is); (case ini => k_is); (case ity => k_is)))
    (case i_InvalidSizes => (refine' L2.fun_mk ?l ?c ?k; (case l => k_is); (case c => k_is); (case k => k_is)))
    (case e_InvalidUsers => (refine' ⟨?nsn, ?at_, ?sa, ?ga, ?gg, ?ha, ?kC, ?no, ?ini, ?ity⟩; (case nsn => k_is); (case at_ => (refine' ⟨_, _, _, _, _, _, _, _, _, _, _, _, _, _, ?xl⟩; (case xl => rfl))); (case sa => k_is); (case ga => k_is); (case gg => k_is); (case ha => k_is); (case kC => k_is); (case no => k_is); (case ini => k_is); (case ity => k_is)))
    (case i_InvalidUsers => (refine' L2.fun_mk ?l ?c ?k; (case l => k_is); (case c => k_is); (case k => k_is)))
    (case e_NeedsMemory => (refine' ⟨?nsn, ?at_, ?sa, ?ga, ?gg, ?ha, ?kC, ?no, ?ini, ?ity⟩; (case nsn => k_is); (case at_ => (refine' ⟨_, _, _, _, _, _, _, _, _, _, _, _, _, _, ?xl⟩; (case xl => rfl))); (case sa => k_is); (case ga => k_is); (case gg => k_is); (case ha => k_is); (case kC => k_is); (case no => k_is); (case ini => k_is); (case ity => k_is)))
    (case i_NeedsMemory => (refine' L2.fun_mk ?l ?c ?k; (case l => k_is); (case c => k_is); (case k => k_is)))
    (case z_abs => k_is)
    (case z_len => k_is)
    (case z_rng => k_is)
    (case z_enu => k_is)
    (case z_zip => k_is)
    (case z_isi => k_is)
    (case z_all => k_is)
    (case z_srt => k_is)
    (case z_lst => k_is)
    (case z_dct => k_is)
    (case z_str => k_is)
    (case z_int => k_is)
    (case z_tup => k_is)
    (case z_sum => k_is)
    (case z_min => k_is)
    (case z_max => k_is)
    (case z_rep => k_is)
    (case z_bool => k_is)
    (case z_any => k_is)
    (case z_vE => k_is)
theorem PySem.Challenge.cw_flagtrees_k22_whole_memoryless_or_not_holds : PySem.Challenge.rw_flagtrees_k22_whole_memoryless_or_not.Holds :=
  FT.k22_top
