import PyProof.Rows.All
import Wide.All
import OpenK.AllK
import Wide.FinOn
import KE.KStateDown
import KE.OsRunLaw
import HandS.Head0
import HandS.Head1
import HandS.Head2
import KE.KNestM
import HandS.ForMost
import PyProof.EqAt
import PyProof.EqKinds
import PyProof.TupleCall
import KE.KFromBytes
import KE.KExcIs
import HandS.Exc
import HandS.TryOnly
import HandS.ExcInit
import HandS.ExcIs
import HandS.ExcField
import HandS.IsInst
import HandS.ClsMeth
import HandS.Defaults
import HandS.DictComp
import HandS.SortKw
import HandS.More
import HandS.Nested
import PyProof.Rows.StrRules
import PyProof.Rows.SortKeyStr
import KE.KUnpackStar
import HandS.Flow
import HandS.Walk
import HandS.Wide
import HandS.Text
import HandS.Style
import HandS.Property
import HandS.WordsDict
import HandS.ListItems
import HandS.Finally
import HandS.WordsExc
import HandS.Conv
import HandS.SetFor
import PyProof.Rows.StrInSeq3
import HandS.DeepEq
import KE.SortData
import HandS.SortRule
import HandS.Lambda
import HandS.EndBits
import KE.KNest
import HandS.ExcOwn
import HandS.Iter
import HandS.TupLen
import KE.KeyNested
import KE.KDictCopyH
import HandS.Dict
import HandS.List
import KE.KDictZip
import KE.KTurns
import KE.KDictItemsList
import PyProof.ReprBulk
import HandS.OwnEq
import PyProof.InstNe
import PyProof.PureStr
import PyProof.NeData
import KE.KDictSum
import KE.KDictWalk
import HandS.TupLe
import HandS.MakeKwOnly
import KE.RegKIsAll
import Wide.Loose
import PySem.Challenge.RW_flagtrees_k17_changes_of_lists
set_option Elab.async false
set_option linter.all false
set_option maxRecDepth 100000
set_option maxHeartbeats 8000000

/-! the head by one kernel run over the heap as a tree, with the frame of objects that the walk reads -/
namespace FT
open PySem PySem.W PySem.Calls PyProof.Rows HandSHeadRun
noncomputable def RunK (r : OpenRow) (q : Program) (K : Params → Frag) (as : List Addr) (M : Nat) (loose : List PySem.Str) (lv : List (PySem.Str × WData)) (w : World) : Prop :=
  ∀ os : OsState, (endF (stepQ (denQ tabQ) r.prog w) M r.prog w os).map (fun s => (looksF r.prog (boot_heap w.params) s.abs, seenQ q loose (importedModules r.prog.main.body) (fun s => xlAt q lv s && recOk r.toRowW.records s) s.abs, as.map (getT s))) = some (true, openGood q loose, (K w.params).map fun p => some p.2)
end FT


/-! the head by one kernel run, as HdK, for a text whose defs hold lambdas (the hook with tables) -/
namespace FT
open PySem PySem.W PySem.Calls PyProof.Rows HandSHeadRun
noncomputable def RunM (r : OpenRow) (q : Program) (K : Params → Frag) (as ts : List Addr) (M : Nat) (loose : List PySem.Str) (lv : List (PySem.Str × WData)) (w : World) : Prop :=
  ∀ os : OsState, (endF (stepQ (denQ tabQ) r.prog w) M r.prog w os).map (fun s => (looksF r.prog (boot_heap w.params) s.abs, seenQ q loose (importedModules r.prog.main.body) (fun s => xlAt q lv s && recOk r.toRowW.records s) s.abs, as.map (getT s), ts.map (getT s))) = some (true, openGood q loose, (K w.params).map (fun p => some p.2), ts.map fun _ => some (tabObj #[]))
theorem head_km {r : OpenRow} {q : Program} {K : Params → Frag} {as ts : List Addr} {pe : ∀ P, as = (K P).map (·.1)} {M : Nat} {loose : List PySem.Str} {lv : List (PySem.Str × WData)} {d : DefRec} {kwd : List (PySem.Str × PySem.Expr)}
    (e : opening r.prog = plainProg r.prog.main.scope.names) (f : ∀ s, fenceModules? r.prog s = some s) (run : ∀ w, RunM r q K as ts M loose lv w)
    (hdef : defOf q r.name = some (d, kwd)) (hp : r.prog.theDef r.name = some (d.params, d.body, d.scope)) (hk : kwWritten? d.params.kwonlyargs d.params.kw_defaults = some kwd)
    (hwr : (!r.writes || r.records.isEmpty) = true) (k1 : r.wellSaid = true) (ok : (chainsOk q && opensWell r.prog && (frees r.toRowW && r.within.isEmpty)) = true) (hb : r.prog.bare) (hw : r.toRowW.promised)
    (call : WalkO q loose (XL q lv) (kmHook K as pe ts).says r.toRowW d kwd fun f vs => PySem.call f vs) : r.Holds := by
  have ob : (fun s : SharedT => (as.map (getT s), ts.map (getT s))) = fun s => (kmHook K as pe ts).obs s.abs := funext fun s => Prod.ext (List.map_congr_left fun a _ => getT_eq s a) (List.map_congr_left fun a _ => getT_eq s a)
  have left : LeftO r.prog q loose (fun s => xlAt q lv s && recOk r.toRowW.records s) (kmHook K as pe ts).obs (kmHook K as pe ts).val (M + 600) true :=
    left_one (M := M) e (Nat.ble_eq_true_of_le (by omega)) f (Nat.ble_eq_true_of_le (by omega)) fun w os => by
      have z := run w os
      rw [show (fun s : SharedT => (looksF r.prog (boot_heap w.params) s.abs, seenQ q loose (importedModules r.prog.main.body) (fun s => xlAt q lv s && recOk r.toRowW.records s) s.abs, as.map (getT s), ts.map (getT s))) = fun s : SharedT => (looksF r.prog (boot_heap w.params) s.abs, seenQ q loose (importedModules r.prog.main.body) (fun s => xlAt q lv s && recOk r.toRowW.records s) s.abs, (kmHook K as pe ts).obs s.abs) from funext fun s => congrArg (fun t => (looksF r.prog (boot_heap w.params) s.abs, seenQ q loose (importedModules r.prog.main.body) (fun s => xlAt q lv s && recOk r.toRowW.records s) s.abs, t)) (congrFun ob s)] at z
      simp only [endQ_eq, seenQ_eq]
      exact z
  exact holds_open (r := r) (q := q) (loose := loose) (XP := XL q lv) (YP := (kmHook K as pe ts).says) (d := d) (kwd := kwd) left (kmHook K as pe ts).of (kmHook K as pe ts).keeps (fun s z => xl_of s (Bool.and_eq_true_iff.mp z).1) XL.keeps hdef hp hk (fun s z => recFacts_of (Bool.and_eq_true_iff.mp z).2) hwr k1 ok hb hw call
end FT


namespace FT
open PySem L2
/-- the i-th statement of the row's text -/
def top (i : Nat) : Stmt := PySem.Challenge.pw_flagtrees_k17_changes_of_lists.main.body.getD i (.Pass ⟨0, 0, 0, 0⟩)
abbrev s__wall : Stmt := top 0
abbrev s_InvalidForest___init__ : Stmt := inClass (top 3) 0
abbrev s_UnknownName___init__ : Stmt := inClass (top 4) 0
abbrev s_InvalidUsers___init__ : Stmt := inClass (top 5) 0
abbrev s_InvalidSizes___init__ : Stmt := inClass (top 6) 0
abbrev s_InvalidPlace___init__ : Stmt := inClass (top 7) 0
abbrev s_UnknownUser___init__ : Stmt := inClass (top 8) 0
abbrev s_InvalidLists___init__ : Stmt := inClass (top 9) 0
abbrev s_NeedsMemory___init__ : Stmt := inClass (top 10) 0
abbrev s_InvalidLimits___init__ : Stmt := inClass (top 11) 0
abbrev s_TooMany___init__ : Stmt := inClass (top 12) 0
abbrev s_is_name : Stmt := top 16
abbrev s_is_ancestor : Stmt := top 17
abbrev s_need_parents : Stmt := top 18
abbrev s_Forest___init__ : Stmt := inClass (top 19) 2
abbrev s_Forest___eq__ : Stmt := inClass (top 19) 3
abbrev s_Forest_flags : Stmt := inClass (top 19) 4
abbrev s_Forest_parents : Stmt := inClass (top 19) 5
abbrev s_Forest_text : Stmt := inClass (top 19) 6
abbrev s_Forest_children : Stmt := inClass (top 19) 7
abbrev s_Forest_path : Stmt := inClass (top 19) 8
abbrev s_Forest_under : Stmt := inClass (top 19) 9
abbrev s_Forest_distance : Stmt := inClass (top 19) 10
abbrev s_Forest_walk : Stmt := inClass (top 19) 11
abbrev s_Forest_parse : Stmt := inClass (top 19) 12
abbrev s_path_in : Stmt := top 20
abbrev s_places_of : Stmt := top 21
abbrev s_need_place : Stmt := top 22
abbrev s_need_flag : Stmt := top 23
abbrev s_is_integer : Stmt := top 25
abbrev s_need_users : Stmt := top 26
abbrev s_need_feasible : Stmt := top 27
abbrev s_residents_of : Stmt := top 28
abbrev s_sizes_of : Stmt := top 30
abbrev s_Assignment___init__ : Stmt := inClass (top 31) 1
abbrev s_Assignment___eq__ : Stmt := inClass (top 31) 2
abbrev s_Assignment_forest : Stmt := inClass (top 31) 3
abbrev s_Assignment_places : Stmt := inClass (top 31) 4
abbrev s_Assignment_total : Stmt := inClass (top 31) 5
abbrev s_Assignment_sizes : Stmt := inClass (top 31) 6
abbrev s_Assignment_flags_of : Stmt := inClass (top 31) 7
abbrev s_Assignment_has : Stmt := inClass (top 31) 8
abbrev s_Assignment_users_of : Stmt := inClass (top 31) 9
abbrev s_Assignment_at : Stmt := inClass (top 31) 10
abbrev s_Assignment_moved : Stmt := inClass (top 31) 11
abbrev s_Assignment_empty : Stmt := inClass (top 31) 12
abbrev s_need_user : Stmt := top 32
abbrev s_amounts_of : Stmt := top 34
abbrev s_crossings : Stmt := top 35
abbrev s_edge_order : Stmt := top 36
abbrev s_edges_at : Stmt := top 38
abbrev s_changed_lists : Stmt := top 39
abbrev s_listed_sizes : Stmt := top 40
abbrev s_listed_places : Stmt := top 41
abbrev s_Rollout___init__ : Stmt := inClass (top 42) 0
abbrev s_Rollout___eq__ : Stmt := inClass (top 42) 1
abbrev s_Rollout_forest : Stmt := inClass (top 42) 2
abbrev s_Rollout_total : Stmt := inClass (top 42) 3
abbrev s_Rollout_lists : Stmt := inClass (top 42) 4
abbrev s_Rollout_sizes : Stmt := inClass (top 42) 5
abbrev s_Rollout_assignment : Stmt := inClass (top 42) 6
abbrev s_Rollout_depth : Stmt := inClass (top 42) 7
abbrev s_Rollout_change : Stmt := inClass (top 42) 8
abbrev s_Rollout_resize : Stmt := inClass (top 42) 9
abbrev s_Rollout_undo : Stmt := inClass (top 42) 10
abbrev s_Rollout_load : Stmt := inClass (top 42) 11
abbrev s__law_begin : Stmt := top 44
abbrev s__law_mixed : Stmt := top 45
abbrev s__law_take : Stmt := top 46
abbrev s__law_pick : Stmt := top 47
abbrev s__law_forest : Stmt := top 48
abbrev s__law_sizes : Stmt := top 49
abbrev s__law_fits : Stmt := top 50
abbrev s__law_path : Stmt := top 51
abbrev s__law_counted : Stmt := top 52
abbrev s__law_near : Stmt := top 53
abbrev s__law_moving : Stmt := top 54
abbrev s__law_led : Stmt := top 55
abbrev s__law_places : Stmt := top 56
abbrev s__law_result : Stmt := top 57
abbrev s__law_sizes_error : Stmt := top 58
abbrev s__law_bent_sizes : Stmt := top 59
abbrev s__law_shown : Stmt := top 60
abbrev s__law_flipped : Stmt := top 61
abbrev s_law : Stmt := top 62
end FT


/-! Own: an exception class over ValueError called with one keyword, `C(name=value)`. The library's lemmas (HandSPX.call_own) say it for calls without keywords; these say it for one keyword. -/
namespace FX
open PySem PySem.W PySem.Calls PyProof.Rows PySem.HandSPX
section
variable {Mo : Model} {Ar : Around} {Er : Value → Shared → Prop} {he : Heap} {ge : Array GenState} {dr : Drawn} {tk : Nat} {os : OsState}
variable {nm qn : Str} {C N : Addr} {bs bm bmB : List Value} {hdct : Bool} {sn : List Str} {sub : List Value} {ab : Bool} {col : Option Bool} {dd : Option Addr} {k0 k1 k2 k3 k5 : Option Value} {B idN idI : String}
variable {kn : Str} {kv : Value} {more : List Value}
/-- the class object of an exception class, short -/
abbrev XO (nm qn : Str) (C N : Addr) (bs bm : List Value) (hdct : Bool) (sn : List Str) (sub : List Value) (ab : Bool) (col : Option Bool) (dd : Option Addr) (k0 k1 k2 k3 k5 : Option Value) (idN : String) : Obj :=
  excClassObj nm qn C N bs bm hdct sn sub ab col dd k0 k1 k2 k3 k5 idN
abbrev SameTy (bm bmB : List Value) : Prop := ∀ T : String, bm.contains (.type T) = bmB.contains (.type T)
end
section
variable {pg : Program} {w : World} {Ar : Around} {Er : Value → Shared → Prop} {Rs : Result → Shared → Prop} {he : Heap} {ge : Array GenState} {dr : Drawn} {tk : Nat} {os : OsState}
variable {nm qn : Str} {C N fI : Addr} {bs bm bmB : List Value} {hdct : Bool} {sn : List Str} {sub : List Value} {ab : Bool} {col : Option Bool} {dd : Option Addr} {k0 k1 k2 k3 k5 : Option Value} {B idN idI : String}
variable {kn : Str} {kv : Value} {more : List Value}
/-- the heap with the new exception -/
abbrev withX (he : Heap) (C : Addr) (more : List Value) : Heap := (he.push (W.kdv_tup more)).push (excO C he.objs.size)
end
end FX


namespace L2
open PySem PySem.Spec PyProof.Rows
/-- what the written part says of an own exception class over ValueError -/
structure XCls (K : PySem.W.Frag) (C : Addr) : Prop where
  cls : ∃ nm q N bs bm sn sub ab col dd k0 k1 k2 k3 k5, K.lookup C = some (excClassObj nm q C N bs bm true sn sub ab col dd k0 k1 k2 k3 k5 "ValueError.__new__") ∧ PySem.HandSPX.refsVE bm = true
  sa : PySem.W.findIn K (.ref C) "__setattr__" = some (some (.builtin "object.__setattr__"))
  exC : PySem.W.subIn K (.ref C) (.type "BaseException") = some true
  tyC : PySem.W.typeIn K (.ref C) = some (.type "type")
  kC : PySem.W.keepIn K (.ref C) = true
  ga : PySem.W.findIn K (.ref C) "__getattribute__" = some (some (.builtin "BaseException.__getattribute__"))
  gg : PySem.W.findIn K (.ref C) "__getattr__" = some none
  hdC : PySem.W.hasDictIn K C = true
  ha : PySem.W.findIn K (.ref C) "__class__" = some (some (.builtin "object.__class__"))
  hn : PySem.W.specialIn K (.builtin "object.__class__") "__get__" = some (some (.builtin "getset_descriptor.__get__"))
  ht : PySem.W.takesIn K (.builtin "object.__class__") = some true
  hm : PySem.W.mroIn K C (.type "object") = some true
theorem XCls.oex {K : PySem.W.Frag} {C : Addr} (c : XCls K C) : OexC K C := ⟨c.cls, c.sa, c.exC, c.tyC, c.kC⟩
/-- an exception object at a, by class and dict, its fields not told -/
def exg (a C : Addr) (d : Option Addr) : HO := .ext fun h => ∃ vs sl, h.get? a = some ({ cls := .ref C, dict := d, data := .fields vs, slots := sl } : Obj)
theorem exg_ok {P : Program} {w : World} {H : Hp} {h : Heap} {e C : Addr} {d : Option Addr} {vs : Array Value} {sl : Array (Option Value)} (he : h.get? e = some ({ cls := .ref C, dict := d, data := .fields vs, slots := sl } : Obj)) : ObjOk P w H h e (exg e C d) :=
  ⟨⟨vs, sl, he⟩, ⟨_, he⟩, fun h1 h2 z k => by
    obtain ⟨vs, sl, q⟩ := z
    exact ⟨vs, sl, k _ q⟩⟩
def XAt (H : Hp) (a C : Addr) (d : Option Addr) : Prop := H a = some (exo a C d) ∨ H a = some (exg a C d)
theorem XAt.obj {P : Program} {w : World} {H : Hp} {h : Heap} {a C : Addr} {d : Option Addr} (x : XAt H a C d) (hok : HOk P w H h) : ∃ ox vs, h.get? a = some ox ∧ ox.cls = .ref C ∧ ox.dict = d ∧ ox.data = .fields vs := by
  rcases x with e | e
  · obtain ⟨t1, q⟩ := exo_at hok e
    exact ⟨_, _, q, rfl, rfl, rfl⟩
  · have z : ObjOk P w H h a (.ext fun h => ∃ vs sl, h.get? a = some ({ cls := .ref C, dict := d, data := .fields vs, slots := sl } : Obj)) := hok a _ e
    obtain ⟨⟨vs, sl, q⟩, _⟩ := z
    exact ⟨_, vs, q, rfl, rfl, rfl⟩
def XD (H : Hp) (dx : Addr) (fs : List (Str × V)) : Prop := H dx = some (exd dx fs) ∨ H dx = some (.xd fs)
theorem XD.at {P : Program} {w : World} {H : Hp} {h : Heap} {dx : Addr} {fs : List (Str × V)} (x : XD H dx fs) (hok : HOk P w H h) : ∃ mA, h.Ns1 dx mA ∧ ∀ f, RelO (fs.lookup f) (mA f) := by
  rcases x with e | e
  · exact exd_at hok e
  · have z : ObjOk P w H h dx (.xd fs) := hok dx _ e
    exact z
/-- an exception of the class at C stands at a; its attributes are fs -/
def XV (H : Hp) (a C : Addr) (fs : List (Str × V)) : Prop := (XAt H a C none ∧ fs = []) ∨ ∃ dx, XAt H a C (some dx) ∧ XD H dx fs
theorem XV.inst {P : Program} {w : World} {H : Hp} {h : Heap} {a C : Addr} {fs : List (Str × V)} (x : XV H a C fs) (hok : HOk P w H h) : ∃ ox od, PySem.W.InstAt h a ox C od := by
  rcases x with ⟨x, _⟩ | ⟨dx, x, y⟩
  · obtain ⟨ox, vs, e1, e2, e3, e4⟩ := x.obj hok
    exact ⟨ox, none, e1, e2, by unfold PySem.W.notCls; rw [e4] <;> rfl, by rw [e3]; trivial⟩
  · obtain ⟨ox, vs, e1, e2, e3, e4⟩ := x.obj hok
    obtain ⟨mA, hn, hr⟩ := y.at hok
    obtain ⟨od, ho, hl⟩ := lookIn_ns hn
    exact ⟨ox, some od, e1, e2, by unfold PySem.W.notCls; rw [e4] <;> rfl, by rw [e3]; exact ho⟩
theorem XV.look {P : Program} {w : World} {H : Hp} {h : Heap} {a C : Addr} {fs : List (Str × V)} {f : Str} {v : V} (x : XV H a C fs) (hok : HOk P w H h) (hl : fs.lookup f = some v) :
    ∃ ox od u, PySem.W.InstAt h a ox C (some od) ∧ PySem.W.lookIn f od = some (some u) ∧ RelV v u := by
  rcases x with ⟨_, e⟩ | ⟨dx, x, y⟩
  · rw [e] at hl
    cases hl
  · obtain ⟨ox, vs, e1, e2, e3, e4⟩ := x.obj hok
    obtain ⟨mA, hn, hr⟩ := y.at hok
    obtain ⟨od, ho, hk⟩ := lookIn_ns hn
    obtain ⟨u, hu, ru⟩ := RelO.some_of (v := v) (o := mA f) (by rw [← hl]; exact hr f)
    exact ⟨ox, od, u, ⟨e1, e2, by unfold PySem.W.notCls; rw [e4] <;> rfl, by rw [e3]; exact ho⟩, by rw [hk, hu], ru⟩

section
variable {X : Cx}
/-- isinstance(e, c), e an exception of an own class -/
def rIsX (K : PySem.W.Frag) : List V → Hp → VK → Prop := fun xs H Q => ∃ (a C : Addr) (fs : List (Str × V)) (c : V) (u : Value) (b : Bool), xs = [.ref a, c] ∧ ClsV c u ∧ XCls K C ∧ XV H a C fs ∧ PySem.W.kitOne K (.ref C) u = some b ∧ Q (.bl b) H
theorem call_isX : CallR X (.builtin "isinstance") (rIsX X.K) := by
  intro pins s σ H xs us Q I r h
  obtain ⟨a, C, fs, c, u, b, rfl, k, T, xv, e, q⟩ := h
  obtain ⟨u1, u2, rfl, r1, r2⟩ := vals2 r
  have e2 := k.eq r2
  subst e2
  obtain rfl : u1 = Value.ref a := r1
  obtain ⟨ox, od, J⟩ := xv.inst I.hok
  have hcl : (PySem.W.clsIn X.K C).isSome = true := by
    obtain ⟨cd, hc, _⟩ := PySem.W.any_some T.hdC
    rw [hc] <;> rfl
  exact PySem.W.kia_one (PySem.W.kitx_exc hcl T.ga T.gg T.exC T.ha T.hn T.ht T.hm) I.kIn J e (fun z => nomatch z) fun tk => ⟨.bl b, H, I.tok tk, rfl, q⟩
/-- e.f -/
def tXFld (K : PySem.W.Frag) (te : TE) (f : Str) : TE := fun σ H Q => te σ H fun x H1 => ∃ (a C : Addr) (fs : List (Str × V)) (v : V), x = .ref a ∧ XV H1 a C fs ∧ XCls K C ∧ PySem.W.findIn K (.ref C) f = some none ∧ fs.lookup f = some v ∧ Q v H1
theorem pe_xfld {e : Expr} {te : TE} {pos : Pos} {n : Str} (he : PE X e te) (hb : attributeBase e n X.env (eval e X.env) = eval e X.env := by rfl) : PE X (.Attribute e n pos) (tXFld X.K te n) := by
  refine ⟨fun pins s σ H Q I h => ?_⟩
  refine attr_of hb (thn (he.run pins s σ H _ I h) fun u s1 hh => ?_)
  obtain ⟨x, H1, I1, rx, a, C, fs, v, ex, xv, T, hno, hl, q⟩ := hh
  subst ex
  obtain rfl : u = Value.ref a := rx
  obtain ⟨ox, od, u, J, hk, ru⟩ := xv.look I1.hok hl
  exact HandSPX.exc_get I1.kIn J T.ga T.gg T.exC (PySem.W.findObj_own T.hdC hno rfl hk) (handed_of ru) ⟨v, H1, I1.tok _, ru, q⟩
/-- R.__init__(self, ..), R an own class whose __init__ is ValueError's -/
structure XIni (K : PySem.W.Frag) (R : Addr) : Prop where
  rd : PySem.W.readsIn K R (.type "type") = true
  ga : PySem.W.specialIn K (.ref R) "__getattribute__" = some (some (.builtin "type.__getattribute__"))
  at_ : PySem.W.findCls K (.ref R) (.type "type") "__init__" = some (.val (.builtin "ValueError.__init__"))
theorem pe_clsinit {R : Addr} {rn : Str} {e : Expr} {es : List Expr} {ta : TA} {p1 p2 pos : Pos} {pl : Sem Bool} (T0 : XIni X.K R) (hg : Gl X rn) (hm : X.mg rn = some (.ref R)) (ha : PA X (e :: es) ta)
    (hdb : (rn == ("__debug__" : Str)) = false := by decide)
    (hc : eval (.Call (.Attribute (.Name rn p1) "__init__" p2) (e :: es) [] pos) X.env = (do
      let ov ← eval (.Name rn p1) X.env
      standAt p2.atName
      let (f, first) ← holding [ov] (getMethod ov "__init__" pl)
      callWith pos f first (backTo pos (starEach (e :: es) X.env)) (backToKw pos (keywordEach [] X.env))) := by rfl)
    (he : starEach (e :: es) X.env = (false, eval e X.env) :: starEach es X.env := by rfl) (hpl : (backTo pos (starEach es X.env)).any (·.1) = false := by rfl) :
    PE X (.Call (.Attribute (.Name rn p1) "__init__" p2) (e :: es) [] pos) (tVeI X.K ta) := by
  refine ⟨fun pins s σ H Q I h => ?_⟩
  refine PySem.W.methodCall_KW (ld_glob I hg hm ?_ hdb) hc
  refine PySem.W.method_cls I.kIn T0.ga (PySem.W.cls_value I.kIn T0.rd T0.at_ rfl ?_)
  show wpAny _ _ (callWith pos (Value.builtin "ValueError.__init__") [] (backTo pos (starEach (e :: es) X.env)) []) _ _ _
  refine PyProof.Rows.callWith_method1 (thn (ha.run pos pins _ σ H _ (I.tok _) h) fun us s1 ⟨vs, H1, I1, r1, a, C, ws, ev, hl, T, ea, q⟩ => ?_) he hpl
  subst ev
  cases r1 with
  | @cons _ u0 _ ur ra rw' =>
    obtain rfl : u0 = Value.ref a := ra
    have hlen : ur.length ≤ sizeLine := by
      rw [← Paired.length rw', sizeLine_eq]
      omega
    exact oinit_ok T I1 ea hlen fun s' J => ⟨.non, H1, J, rfl, q⟩

/-! ### C(..) as a value -/
variable {CX : CXT} {C fI : Addr} {k : Nat} {fd : FuncData} {ps : List Str} {sp : Sp} {ds : List Value} {dvs : List V} {E : XK}
/-- the state with a new exception of C laid, its arguments at the heap's end -/
theorem Inv.xnew {pins : List (Addr × Obj)} {σ : St} {H : Hp} {hp : Heap} {gn : Array GenState} {dr : Drawn} {tk : Nat} {os : OsState} (C : Addr) (us : List Value) (I : Inv X pins σ H ⟨hp, gn, dr, tk, os⟩) :
    H (hp.objs.size + 1) = none ∧ Inv X pins σ (upd H (hp.objs.size + 1) (exo (hp.objs.size + 1) C none)) ⟨FX.withX hp C us, gn, dr, tk, os⟩ := by
  have le : hp.objs.size ≤ hp.objs.size + 1 := Nat.le_succ _
  have at_ : (FX.withX hp C us).get? (hp.objs.size + 1) = some (PySem.HandSPX.excO C hp.objs.size) := by heap_get
  exact ⟨I.hok.fresh le, I.laid (t' := tk) (h' := FX.withX hp C us) (fun _ _ z => Heap.get?_push_of_some _ (Heap.get?_push_of_some _ z)) le (exo_ok at_)⟩
/-- C(e, ..) as a value; C's own __init__ keeps sp -/
def tMkX (C : Addr) (sp : Sp) (dvs : List V) (E : XK) (ta : TA) : TE := fun σ H Q => ta σ H fun vs H1 => vs.length ≤ 1000 ∧ ∀ a, H1 a = none → sp (.ref a :: (vs ++ dvs)) (upd H1 a (exo a C none)) (fun v H2 => v = .non ∧ Q (.ref a) H2) E
def tMkXK (C : Addr) (sp : Sp) (gV : List V → List V → List V) (E : XK) (te : TE) : TE := fun σ H Q => te σ H fun v H1 => ∀ a, H1 a = none → sp (gV [.ref a] [v]) (upd H1 a (exo a C none)) (fun v H2 => v = .non ∧ Q (.ref a) H2) E
variable {x : Str} {e : Expr} {es : List Expr} {ta : TA} {te : TE} {p pos kpos : Pos}
end
end L2


/-! y = {k: v for ..}, y a local; an expression whose answer is locked -/
namespace L2
open PySem PySem.Spec PyProof.Rows
section
variable {X : Cx} {i : Nat} {y : Str} {py : Pos} {kx vx tg iter : Expr} {ifs : List Expr} {scope : Scope} {own : List (Str × Nat)} {pos spos : Pos} {wi : TI} {g : TG} {tt : TT} {tk tv : TE}
theorem swd_true {gs : List Comprehension} {l : Nat} {env : Env} (kind : env.scope.kind = .function) (loc : env.scope.names.lookup y = some .local) (line : (py.line == pos.line) = true) (ap : (scope.names.any fun (n, k) => n == y && (k == .local || k == .cell)) = false) :
    swapsWith (.DictComp kx vx gs scope pos) (some (.Name y py)) l env = pure true := by
  have h1 : env.kindOf y = some .local := loc
  have h2 : env.blockKind = .function := by unfold Env.blockKind; rw [kind] <;> rfl
  unfold swapsWith
  simp only [h2, h1, ap, Expr.pos, line]
  rfl
theorem ps_setDc (hc : X.calm = true) (nd : X.N.Nodup) (hy : X.N[i]? = some y) (loc : X.env.scope.names.lookup y = some .local) (sw : swapsWith (.DictComp kx vx [⟨tg, iter, ifs, 0⟩] scope pos) (some (.Name y py)) spos.line X.env = pure true) (hi : PI X tg iter wi) (ok : BlkOk X.N X.env.scope scope own)
    (hg : ∀ (s : Shared) (H : Hp) (C : Addr) (cl : List (Str × Addr)) (fp : List Addr), PG (X.blk s H scope (compEnvC scope cl C X.env) fp) tg g) (ht : ∀ (s : Shared) (H : Hp) (C : Addr) (cl : List (Str × Addr)) (fp : List Addr), PTs (X.blk s H scope (compEnvC scope cl C X.env) fp) ifs tt)
    (hk : ∀ (s : Shared) (H : Hp) (C : Addr) (cl : List (Str × Addr)) (fp : List Addr), PE (X.blk s H scope (compEnvC scope cl C X.env) fp) kx tk)
    (hv : ∀ (s : Shared) (H : Hp) (C : Addr) (cl : List (Str × Addr)) (fp : List Addr), PE (X.blk s H scope (compEnvC scope cl C X.env) fp) vx tv) (hs : ∀ x, foldedSetIterable iter X.env x = pure x := by intro _; rfl) :
    PS X (.Assign [.Name y py] (.DictComp kx vx [⟨tg, iter, ifs, 0⟩] scope pos) spos) (tAsg (tDc wi g tt tk tv (own.map (·.2))) (gName i)) := by
  constructor
  intro pins s σ H D I h
  have want : tDc wi g tt tk tv (own.map (·.2)) σ H (fun x H1 => gName i x σ H1 D.nx) := h
  rw [exec_Assign_Name_used _ _ _ _ sw]
  refine wpAny_bind (wpAny_standAt (wpAny_bind ?_))
  show wpAny _ X.A (do let _ ← comprehension (.DictComp kx vx [⟨tg, iter, ifs, 0⟩] scope pos) scope X.env (firstIterPos [⟨tg, iter, ifs, 0⟩] pos) newDict false (eval iter X.env) (some (assign (.Name y py) X.env))) _ _ s
  refine wpAny_bind (thn (dc_core (Qf := fun _ s' => SP X pins D .next s') hc nd I hi ok hg ht hk hv hs want fun L C s' m H' J q hn f => ?_) fun _ _ z => wpAny_pure (wpAny_pure z))
  show wpAny _ _ (assign (.Name y py) X.env (.ref L)) _ _ _
  refine wpAny_assign_Name (store_ok2 (v := V.ref L) J nd hy (.inl loc) rfl (fun s2 J2 ⟨a, sb, ha⟩ => ?_) (.inr loc))
  obtain ⟨z0, z1, z2, z3, z4, z5⟩ := f
  have off : C ≠ a := ha.elim (fun e => e ▸ z1) fun e => (z4 y a e).symm
  exact ⟨m, hn.sameBut sb off, fun h3 sb3 => ⟨_, H', J2.turned (t' := s2.toks) (fun b o hb e => (sb3.2 b hb).trans e) z0 z1 z3 z4 z5, q⟩⟩
/-- e, its answer locked from then on -/
def tLk (te : TE) : TE := fun σ H Q => te σ H fun x H1 => ∃ d u, x = .ref d ∧ H1 d = some u ∧ Mut (some u) ∧ ∀ od, Q (.ref d) (upd H1 d (.frz od u))
end
end L2


/-! try: .. except C as n: .., the caught exception known behind the try -/
namespace L2
open PySem PySem.Spec PyProof.Rows
section
variable {X : Cx} {pins : List (Addr × Obj)} {σ : St} {H : Hp} {s : Shared}
/-- an object that stands there is known from now on; the entry had none at its place -/
theorem Inv.known {a : Addr} {o : HO} (I : Inv X pins σ H s) (hn : H a = none) (h0 : X.s_0.heap.get? a = none) (hL : a ≠ X.env.locals) (h2 : ∀ x c, X.env.cells.lookup x = some c → c ≠ a) (h3 : ∀ p ∈ X.pn ++ pins, p.1 ≠ a)
    (new : ObjOk X.prog X.w (upd H a o) s.heap a o) : Inv X pins σ (upd H a o) s := by
  have nit : ∀ b u, H b = some u → b ≠ a := fun b u e z => by rw [z, hn] at e; cases e
  refine ⟨I.ok, I.os, I.bare, ⟨I.base.keep, I.base.slot, fun b o e n hx => ?_, I.base.there, fun b xs e => ?_, fun b o xs e => ?_, fun b ps e => ?_⟩, I.loc, I.cell, ?_, fun x c e => ?_, fun p hp => ?_, fun b u e => ?_, I.len⟩
  · rw [upd_ne (fun z => by rw [z, h0] at e; cases e)]
    exact I.base.free b o e n hx
  · have q := I.base.tups b xs e
    rw [upd_ne (nit b _ q)]
    exact q
  · have q := I.base.frzs b o xs e
    rw [upd_ne (nit b _ q)]
    exact q
  · obtain ⟨m, q⟩ := I.base.tbls b ps e
    exact ⟨m, by rw [upd_ne (nit b _ q)]; exact q⟩
  · rw [upd_ne (Ne.symm hL)]
    exact I.free
  · rw [upd_ne (h2 x c e)]
    exact I.freeC x c e
  · obtain ⟨e, n, r⟩ := I.pin p hp
    exact ⟨e, by rw [upd_ne (h3 p hp)]; exact n, r⟩
  · by_cases hb : b = a
    · subst hb
      rw [upd_same] at e
      cases e
      exact new
    · rw [upd_ne hb] at e
      exact (I.hok b u e).stay (fun c v hc q => q) (fun c q => by rw [upd_ne (nit c _ q)]; exact q) fun c _ q => by rw [upd_ne (nit c _ q)]; exact q
end
/-- what a landed exception is: its object, where it does not lie -/
structure Landed (X : Cx) (pins : List (Addr × Obj)) (σ : St) (H : Hp) (a C : Addr) (d : Option Addr) (h : Heap) (s : Shared) : Prop where
  inv : Inv X pins σ H { s with heap := h }
  obj : ∃ vs sl, h.get? a = some ({ cls := .ref C, dict := d, data := .fields vs, slots := sl } : Obj)
  free : H a = none
  entry : X.s_0.heap.get? a = none
  loc : a ≠ X.env.locals
  fs : a ∉ X.fs
  pin : ∀ p ∈ X.pn ++ pins, p.1 ≠ a
theorem Landed.of {X : Cx} {pins : List (Addr × Obj)} {σ : St} {H : Hp} {a C : Addr} {d : Option Addr} {h B : Heap} {s sI : Shared} (hs : X.stack = X.env :: X.outer) (hf : X.env.frame = some X.env.locals) (hex : X.ex = []) (J : Inv X pins σ H sI) (na : H a = none)
    (nb : ∀ b o, sI.heap.get? b = some o → b ∉ frs X.stack → B.get? b = some o) (hB : B.get? a = none) (ff : h.FunFrames B (X.env :: X.outer)) (there : ∃ oe vs, h.get? a = some oe ∧ Zc (.ref C) d oe ∧ oe.data = .fields vs) (K : Inv X pins σ H { s with heap := h }) : Landed X pins σ H a C d h s := by
  obtain ⟨⟨oc, od, odt, osl⟩, ws, at_, ⟨z1, z2⟩, z3⟩ := there
  have off : a ∉ frs (X.env :: X.outer) := fun hm => by
    obtain ⟨_, u, hu, plain⟩ := ff.mem hm
    rw [at_] at hu
    exact plain ws (by rw [← Option.some.inj hu]; exact z3)
  have out : sI.heap.get? a = none := by
    cases q : sI.heap.get? a with
    | none => rfl
    | some o => exact absurd (nb a o q (by rw [hs]; exact off)) (by rw [hB]; simp)
  refine ⟨K, ⟨ws, osl, ?_⟩, na, ?_, fun z => off (List.mem_filterMap.mpr ⟨X.env, .head _, by rw [hf, z]⟩), fun hm => ?_, fun p hp z => ?_⟩
  · dsimp only at z1 z2 z3
    rw [at_, z1, z2, z3]
  · cases q : X.s_0.heap.get? a with
    | none => rfl
    | some o =>
      obtain ⟨_, q2⟩ := J.base.there a o q (by rw [hex]; simp)
      rw [out] at q2
      cases q2
  · obtain ⟨e, m, q⟩ := List.mem_filterMap.mp hm
    exact off (List.mem_filterMap.mpr ⟨e, .tail _ m, q⟩)
  · have q := (J.pin p hp).1
    rw [z, out] at q
    cases q
/-- what is wanted of an exception in the try: as wAs, but behind the suite the exception is known -/
def wAsK (K : PySem.W.Frag) (c : Value) (i : Nat) (ts : Addr → Value → Option Addr → TS) (Wout : WX) (D : Ends) : WX := fun cls d σ H => ∃ b C, cls = Value.ref C ∧ PySem.W.exmOne K cls c = some b ∧
  (b = true → ∀ a, H a = none → ts a cls d ⟨fun σ' H' => D.nx (σ'.set i none) (upd H' a (exg a C d)), D.rt, fun σ' H' => D.bk (σ'.set i none) H', fun σ' H' => D.ct (σ'.set i none) H'⟩ (σ.set i (some (.ref a))) H) ∧ (b = false → Wout cls d σ H)
section
variable {X : Cx} {x n : Str} {c : Value} {i : Nat} {body suite : List Stmt} {st : Stmt} {np pos hpos : Pos} {tb : WX → TS} {ts : Addr → Value → Option Addr → TS} {Wout : WX}
/-- the end of such a suite -/
theorem keep_end {pins : List (Addr × Obj)} {σ σ6 : St} {H H6 : Hp} {a C : Addr} {d : Option Addr} {h : Heap} {s s6 : Shared} {oe : Obj} {Q : Shared → Prop} (L : Landed X pins σ H a C d h s) (eo : h.get? a = some oe) (hN : X.N.Nodup) (hi : X.N[i]? = some n) (hln : X.env.kindOf n = some .local)
    (S : Inv (X.suite a ((a, oe) :: (X.pn ++ pins))) [] σ6 H6 s6) (q : ∀ s7, Inv X pins (σ6.set i none) (upd H6 a (exg a C d)) s7 → Q s7) : wpAny (model X.prog X.w) X.A (do bindName X.env n .none; unbindBehindTheSuite X.env n hpos) (fun _ s7 => Q s7) X.xe s6 := by
  obtain ⟨p1, p2, _⟩ := S.pin (a, oe) (List.mem_append_left _ (.head _))
  obtain ⟨ws, sl, e0⟩ := L.obj
  rw [eo] at e0
  have p3 : s6.heap.get? a = some oe := p1
  rw [Option.some.inj e0] at p3
  have U := S.unsuite L.inv.ok
  refine gone_ok (U.known (o := exg a C d) p2 L.entry L.loc (fun y k e z => ?_) L.pin (exg_ok p3)) hN hi hln q
  obtain ⟨_, _, w1, w2⟩ := U.cell y k e
  rw [z, p3] at w1
  rw [← Option.some.inj w1] at w2
  cases w2
/-- try: body / except x as n: suite -/
theorem ps_try_keep (hs : X.stack = X.env :: X.outer) (hf : X.env.frame = some X.env.locals) (hex : X.ex = []) (hN : X.N.Nodup) (hi : X.N[i]? = some n) (hln : X.env.kindOf n = some .local) (hc : Names X x c) (tk : Takes X Wout)
    (hb : ∀ (W : WX) (pn : List (Addr × Obj)) (xe : Value → Shared → Prop), Takes (X.tr pn xe) W → PassesOwn (model X.prog X.w) X.A X.env xe → PSs (X.tr pn xe) body (tb W))
    (hsu : ∀ (a : Addr) (oe : Obj) (cls : Value) (d : Option Addr) (pn : List (Addr × Obj)), Zc cls d oe → (∃ vs, oe.data = .fields vs) → PSs (X.suite a ((a, oe) :: pn)) (st :: suite) (ts a cls d)) :
    PS X (.Try body [.ExceptHandler (some (.Name x np)) (some n) (st :: suite) hpos] [] [] pos) (fun D σ H => tb (wAsK X.K c i ts Wout D) D σ H) := by
  constructor
  intro pins s σ H D I h
  refine wpAny_Try_except (wpAny_mono ((hb (wAsK X.K c i ts Wout D) (X.pn ++ pins) (fun e t1 => wpAny (model X.prog X.w) X.A (noteFrame e X.env) (fun _ t2 => wpAny (model X.prog X.w) X.A (setFlight e none) (fun _ t3 =>
    wpAny (model X.prog X.w) X.A (handleBy e X.env [.ExceptHandler (some (.Name x np)) (some n) (st :: suite) hpos]) (SP X pins D) X.xe t3) X.xe t2) X.xe t1) (fun u s' air => ?_) PassesOwn.looking).run [] s σ H D (I.toTry _) h) (fun f t1 ok => ?_) fun _ _ z => z)
  case refine_2 =>
    cases f with
    | next => exact let ⟨σ1, H1, K, q⟩ := ok; wpAny_execs_nil ⟨σ1, H1, K.ofTry I.ok, q⟩
    | brk => exact let ⟨σ1, H1, K, q⟩ := ok; ⟨σ1, H1, K.ofTry I.ok, q⟩
    | cont => exact let ⟨σ1, H1, K, q⟩ := ok; ⟨σ1, H1, K.ofTry I.ok, q⟩
    | ret u => exact let ⟨v, σ1, H1, K, rv, q⟩ := ok; ⟨v, σ1, H1, K.ofTry I.ok, rv, q⟩
  case refine_1 =>
    obtain ⟨a, B, sI, pins', σ', H', cls, d, rfl, J', nb, up, sky, na, os, ag, b, C, rfl, mb, yes, no⟩ := air
    have J := J'.ofTry I.ok
    rw [hs] at sky
    have hfr : X.A.frames = some (X.env :: X.outer) := I.ok.frames.trans (congrArg some hs)
    show wpAny (model X.prog X.w) X.A (noteFrame (.ref a) X.env) _ _ _
    refine Sky.land Zc.steady hfr hf sky fun hA flA upA => ?_
    have KA : Inv X pins σ' H' { s' with heap := hA } := J.landed nb flA.1 (up.trans upA) os ag
    obtain ⟨oA, wA, atA, zA, dA⟩ := flA.there
    have LA := Landed.of (s := s') hs hf hex J na nb flA.2.1 flA.2.2.1 ⟨oA, wA, atA, zA, dA⟩ KA
    have SA := KA.suite atA dA na LA.loc LA.fs
    refine wpAny_handleBy_cons (codeAny_handlers_test ?_) fun z => by cases z
    have ty : PySem.W.Looks (model X.prog X.w) hA (typeOf (.ref a)) (.ref C) := fun _ _ _ _ kk q => wpAny_typeOf_ref (kk _ _ atA) (by rw [zA.1]; exact q)
    have mk := PySem.W.exm_one (M := model X.prog X.w) KA.kIn ty mb
    have named : ∀ {Q E : Value → Shared → Prop}, Q c { s' with heap := hA } → wpAny (model X.prog X.w) (X.A.mark (some (.ref a))) (eval (.Name x np) X.env) Q E { s' with heap := hA } := fun q => by
      obtain ⟨g, gd, e | ⟨e, bt, nn⟩⟩ := hc
      · exact ld_glob SA g e q gd
      · exact ld_blt SA g e bt q nn gd
    refine named (mk.here ?_)
    match b, yes, no with
    | true, yes, _ =>
      refine codeAny_handlers_suite_as (HandSPX.lands_againZ flA fun hC flC upC => ?_)
      have KC : Inv X pins σ' H' { s' with heap := hC } := J.landed nb flC.1 ((up.trans upA).trans upC) os ag
      obtain ⟨oC, wC, atC, zC, dC⟩ := flC.there
      have LC := Landed.of (s := s') hs hf hex J na nb flC.2.1 flC.2.2.1 ⟨oC, wC, atC, zC, dC⟩ KC
      refine store_ok (X := X.suite a ((a, oC) :: (X.pn ++ pins))) (v := .ref a) (KC.suite atC dC na LC.loc LC.fs) hN hi (.inl hln) rfl (fun t5 S5 => ?_) (.inr hln)
      refine wpAny_mono ((hsu a oC _ d (X.pn ++ pins) zC ⟨_, dC⟩).run [] t5 _ H' _ S5 (yes rfl a na)) (fun f t6 e6 => ?_) fun _ _ z => z.elim
      have plain : ∀ {σ6 : St} {H6 : Hp} {Q : Shared → Prop}, Inv (X.suite a ((a, oC) :: (X.pn ++ pins))) [] σ6 H6 t6 → (∀ t7, Inv X pins (σ6.set i none) H6 t7 → Q t7) → wpAny (model X.prog X.w) X.A (do bindName X.env n .none; unbindBehindTheSuite X.env n hpos) (fun _ t7 => Q t7) X.xe t6 :=
        fun S q => gone_ok (S.unsuite I.ok) hN hi hln q
      cases f with
      | next => exact let ⟨σ6, H6, S6, q6⟩ := e6; keep_end LC atC hN hi hln S6 fun t7 K7 => ⟨_, _, K7, q6⟩
      | brk => exact let ⟨σ6, H6, S6, q6⟩ := e6; plain S6 fun t7 K7 => ⟨_, _, K7, q6⟩
      | cont => exact let ⟨σ6, H6, S6, q6⟩ := e6; plain S6 fun t7 K7 => ⟨_, _, K7, q6⟩
      | ret u => exact let ⟨v6, σ6, H6, S6, r6, q6⟩ := e6; plain S6 fun t7 K7 => ⟨_, _, _, K7, r6, q6⟩
    | false, _, no =>
      show wpAny _ X.A (handleBy (.ref a) X.env []) _ _ _
      refine wpAny_handleBy_nil ?_
      obtain ⟨oe, vs, tb1, _, _, e1, _, e2, e3, _⟩ := flA.2.2.2
      unfold PySem.passOn
      refine wpAny_bind (wpAny_field e1 e2 e3 ?_)
      rw [if_neg (by simp)]
      have fly : wpAny (model X.prog X.w) X.A (setFlight (.ref a) X.env.frame) (fun _ t4 => wpAny (model X.prog X.w) X.A (throw (.ref a) : Sem Flow) (SP X pins D) X.xe t4) X.xe { s' with heap := hA } := by
        rw [hf]
        exact HandSPX.setFlight_upZ flA fun hD held upD => wpAny_throw (tk _ _ ⟨a, B, sI, pins, σ', H', .ref C, d, rfl, J, nb, (up.trans upA).trans upD, .inr (.inr (by rw [hs]; exact held)), na, os, ag, no rfl⟩)
      first | exact wpAny_bind (wpAny_pure (wpAny_bind fly)) | exact wpAny_bind fly
end
end L2


/-! raise C(..) where C's own __init__ writes no attribute -/
namespace L2
open PySem PySem.Spec PyProof.Rows
section
variable {X : Cx} {o e : Expr} {es : List Expr} {to te : TE} {ta : TA} {f : Str} {p p' p1 p2 pos : Pos}
/-- C(e, ..), C's own __init__ keeping sp; no attribute is written -/
def tMkO0 (C : Addr) (sp : Sp) (dvs : List V) (ta : TA) : St → Hp → XK → Prop := fun σ H Q => ta σ H fun vs H1 => vs.length ≤ 1000 ∧ ∀ a, H1 a = none → sp (.ref a :: (vs ++ dvs)) (upd H1 a (exo a C none))
  (fun v H2 => v = .non ∧ H2 a = some (exo a C none) ∧ Q (.ref C) none (del H2 a)) (fun _ _ _ => False)
/-- the new exception is let go -/
theorem mk_gone {pins : List (Addr × Obj)} {σ : St} {H1 H2 : Hp} {hp hp2 h2 : Heap} {g1 g2 : Array GenState} {d1 d2 : Drawn} {t1 t2 : Nat} {os1 os2 : OsState} {a C : Addr} (I1 : Inv X pins σ H1 ⟨hp, g1, d1, t1, os1⟩) (young : hp.objs.size ≤ a)
    (k : ∀ b o, hp.get? b = some o → hp2.get? b = some o) (un : Un (frs X.stack) [] (upd H1 a (exo a C none)) H2 hp2 h2) (hok : HOk X.prog X.w H2 h2) (ho : os2 = os1) (hb : AllBare g2) (ea : H2 a = some (exo a C none)) :
    ∃ (t0 : Addr) (G : Heap), Inv X pins σ (del H2 a) ⟨G, g2, d2, t2, os2⟩ ∧ (∀ b o, G.get? b = some o → h2.get? b = some o) ∧ G.get? a = none ∧ h2.get? a = some ({ cls := .ref C, dict := none, data := .fields #[.ref t0, .none, .none, .none, .bool false, .none] } : Obj) ∧ del H2 a a = none := by
  obtain ⟨t0, at2⟩ := exo_at hok ea
  have n1 : H1 a = none := I1.hok.fresh young
  obtain ⟨G, in_, out⟩ := restrict h2 fun b => decide (b ≠ a)
  have other : ∀ b, b ≠ a → G.get? b = h2.get? b := fun b nb => in_ b (decide_eq_true nb)
  have gone : G.get? a = none := out a (by simp)
  have old : ∀ {b : Addr} {o : Obj}, hp.get? b = some o → b ≠ a := fun z => Nat.ne_of_lt (Nat.lt_of_lt_of_le (Heap.lt_size z) young)
  have low : ∀ {b : Addr}, b ≠ a → H1 b = none → upd H1 a (exo a C none) b = none := fun nb n => (upd_ne nb).trans n
  have high : ∀ {b : Addr} {u : HO}, H1 b = some u → upd H1 a (exo a C none) b = some u ∧ b ≠ a := fun z => ⟨(upd_ne (ne_of_none z n1)).trans z, ne_of_none z n1⟩
  have U : Un (frs X.stack) [] H1 (del H2 a) hp G := by
    refine ⟨fun b o z n hf hx => (other b (old z)).trans (un.keep b o (k b o z) (low (old z) n) hf hx), fun b o z n hf hx => ?_, fun b o z n hx => (del_ne (old z)).trans (un.free b o (k b o z) (low (old z) n) hx), fun b o z hx => ?_, fun b xs z => (del_ne (high z).2).trans (un.tups b xs (high z).1),
      fun b o v z => (del_ne (high z).2).trans (un.frzs b o v (high z).1), fun b ps z => ?_⟩
    · obtain ⟨sl, q⟩ := un.slot b o (k b o z) (low (old z) n) hf hx
      exact ⟨sl, (other b (old z)).trans q⟩
    · obtain ⟨o', q⟩ := un.there b o (k b o z) hx
      exact ⟨o', (other b (old z)).trans q⟩
    · obtain ⟨m, q⟩ := un.tbls b ps (high z).1
      exact ⟨m, (del_ne (high z).2).trans q⟩
  have held : HOk X.prog X.w (del H2 a) G := fun b o z => by
    have nb : b ≠ a := fun e => by
      rw [e, del_same] at z
      cases z
    rw [del_ne nb] at z
    refine (hok b o z).stay (fun c v hc y => ?_) (fun c hc => (del_ne (at_ne ea hc exo_own)).trans hc) fun c xs hc => (del_ne (at_ne ea hc exo_tup)).trans hc
    refine (other c ?_).trans y
    rcases hc with rfl | hc
    · exact nb
    · exact at_ne ea hc exo_own
  refine ⟨t0, G, I1.call' (ch := []) ho U held hb (fun b z => absurd z (by simp)), fun b o z => ?_, gone, at2, del_same⟩
  by_cases nb : b = a
  · rw [nb, gone] at z
    cases z
  · exact (other b nb).symm.trans z
variable {CX : CXT} {x : Str} {C fI : Addr} {k : Nat} {fd : FuncData} {ps : List Str} {sp : Sp} {ds : List Value} {dvs : List V}
theorem run_mk0 {pins : List (Addr × Obj)} {σ : St} {H1 : Hp} {s : Shared} {Q : XK} {us : List Value} {vs : List V} (T : OexC X.K C) (iC : PySem.W.findIn X.K (.ref C) "__init__" = some (some (.ref fI))) (tI : PySem.W.typeIn X.K (.ref fI) = some (.type "function"))
    (F1 : FnOk X.prog X.w X.K X.mg X.base CX k fI fd ps sp) (hr : Room (k + 1) X.A) (hb : Binds X.K fd ps ds) (hd : Vals dvs ds) (hx : Passes CX X (fun _ _ _ => False)) (I1 : Inv X pins σ H1 s) (r1 : Vals vs us) (hz : vs.length ≤ 1000)
    (q1 : ∀ a, H1 a = none → sp (.ref a :: (vs ++ dvs)) (upd H1 a (exo a C none)) (fun v H2 => v = .non ∧ H2 a = some (exo a C none) ∧ Q (.ref C) none (del H2 a)) (fun _ _ _ => False)) :
    wpAny (model X.prog X.w) X.A (call (.ref C) us) (MkP X pins σ Q) X.xe s := by
  obtain ⟨_, _, _, _, bm, _, _, _, _, _, _, _, _, _, _, oC, tail⟩ := T.cls
  obtain ⟨hp, gn, dr, tk, os⟩ := s
  obtain ⟨new, J⟩ := Inv.xnew C us I1
  have want := q1 _ new
  have rel : Vals (V.ref (hp.objs.size + 1) :: (vs ++ dvs)) (Value.ref (hp.objs.size + 1) :: (us ++ ds)) := .cons rfl (r1.append hd)
  have len : (Value.ref (hp.objs.size + 1) :: us ++ ds).length = ps.length := rel.length.symm.trans (F1.len _ _ _ _ want)
  have few : us.length ≤ sizeLine := by
    have := r1.length
    rw [sizeLine_eq]; omega
  have go := F1.run _ X.stack _ _ ⟨Value.ref (hp.objs.size + 1) :: us, []⟩ (Value.ref (hp.objs.size + 1) :: (us ++ ds)) _ _ (fun _ _ _ => False) (hr.make C us []) (J.env0.make C us []) (hb _ (Value.ref (hp.objs.size + 1) :: us) J.kIn len) rel want
  refine wpAny_call (PySem.HandSPX.call_own F.excBase_ValueError (fun Y => PySem.HandSPX.refsVE_contains Y bm tail) (I1.kIn _ _ oC) (PySem.W.looks_findIn I1.kIn iC) (fun me => PySem.W.bind_fn I1.kIn me tI) few (codeAny_mono go fun r z q => ?_))
  match r, q with
  | .error er, q => exact hx pins σ _ _ er z J q
  | .ok (.ret u), q =>
    obtain ⟨v, H2, os2, bare2, un2, hok2, rv, ev, ea, q2⟩ := q
    subst ev
    obtain ⟨h2, g2, d2, t2, os'⟩ := z
    have up : ∀ b o, hp.get? b = some o → (FX.withX hp C us).get? b = some o := fun b o e => Heap.get?_push_of_some _ (Heap.get?_push_of_some _ e)
    obtain ⟨t0, G, JG, kG, gG, oG, nG⟩ := mk_gone (d2 := d2) (t2 := t2) I1 (Nat.le_succ _) up un2 hok2 os2 bare2 ea
    exact ⟨rv, _, _, _, ⟨G, g2, d2, t2, os'⟩, _, .ref C, none, rfl, JG, kG, gG, oG, ⟨rfl, rfl⟩, rfl, rfl, nG, rfl, bare2, raises_own T.exC T.tyC, q2⟩
  | .ok .next, q => exact q.elim
  | .ok .brk, q => exact q.elim
  | .ok .cont, q => exact q.elim
/-- C() -/
theorem pmk_none (T : OexC X.K C) (iC : PySem.W.findIn X.K (.ref C) "__init__" = some (some (.ref fI))) (tI : PySem.W.typeIn X.K (.ref fI) = some (.type "function"))
    (F1 : FnOk X.prog X.w X.K X.mg X.base CX k fI fd ps sp) (hr : Room (k + 1) X.A) (hb : Binds X.K fd ps ds) (hd : Vals dvs ds) (hx : Passes CX X (fun _ _ _ => False)) (hg : Gl X x) (hm : X.mg x = some (.ref C)) (hdb : (x == ("__debug__" : Str)) = false := by decide) :
    PMk X (.Call (.Name x p) [] [] pos) (tMkO0 C sp dvs tNil) := by
  intro pins s σ H Q I h
  refine wpAny_Call_Name_kw (ld_glob I hg hm ?_ hdb)
  exact PySem.W.callWith_K0 I.kIn T.kC (run_mk0 (us := []) T iC tI F1 hr hb hd hx I .nil h.1 h.2)
end
end L2


/-! sorted(a dict of texts, key=a lambda of one parameter that gives (int, text)) -/
namespace SrtKy
open PySem PyProof.Rows Srt SrtO
/-- a tuple of a number and a text -/
def IsIS (h : Heap) (v : Value) (x : Int) (z : Str) : Prop := ∃ a o t u n, v = .ref a ∧ h.get? a = some o ∧ o.cls = .type "tuple" ∧ o.data = .seq #[.int x t, .str z u] n
theorem IsIS.keeps {h h' : Heap} {v : Value} {x : Int} {z : Str} (p : IsIS h v x z) (k : ∀ b o, h.get? b = some o → o.cls = .type "tuple" → h'.get? b = some o) : IsIS h' v x z := by
  obtain ⟨a, o, t, u, n, e, ho, hc, hd⟩ := p
  exact ⟨a, o, t, u, n, e, k _ _ ho hc, hc, hd⟩
def isLt (p q : Int × Str) : Bool := if p.1 = q.1 then decide (p.2.cps.toList < q.2.cps.toList) else decide (p.1 < q.1)
section
variable {prog : Program} {w : World} {s : Shared} {A : Around} {E : Value → Shared → Prop}
end
end SrtKy


namespace L2
open PySem PySem.Spec PyProof.Rows
section
variable {X : Cx} {pins : List (Addr × Obj)} {σ : St} {H : Hp} {s : Shared} {h' : Heap}
end
/-- what the keys of the first items are -/
def KysAt (H : Hp) (key : V → Int × Str) (xs : List V) (kA : List Value) : Prop := ∀ (j : Nat) (kv : Value), kA[j]? = some kv → ∃ (t : Addr) (x : V), kv = Value.ref t ∧ xs[j]? = some x ∧ H t = some (.tup [.int (key x).1, .str (key x).2])
theorem KysAt.up {H H' : Hp} {key : V → Int × Str} {xs : List V} {kA : List Value} (h : KysAt H key xs kA) (t : ∀ b ys, H b = some (.tup ys) → H' b = some (.tup ys)) : KysAt H' key xs kA := fun j kv e => by
  obtain ⟨a, x, e1, e2, e3⟩ := h j kv e
  exact ⟨a, x, e1, e2, t _ _ e3⟩
theorem KysAt.snoc {H : Hp} {key : V → Int × Str} {xs : List V} {kA : List Value} {t : Addr} {x : V} (h : KysAt H key xs kA) (hx : xs[kA.length]? = some x) (ht : H t = some (.tup [.int (key x).1, .str (key x).2])) : KysAt H key xs (kA ++ [.ref t]) := fun j kv e => by
  by_cases hj : j < kA.length
  · rw [List.getElem?_append_left hj] at e
    exact h j kv e
  · rw [List.getElem?_append_right (by omega)] at e
    have h0 : j - kA.length = 0 := by
      have := (List.getElem?_eq_some_iff.mp e).1
      rw [List.length_singleton] at this
      omega
    rw [h0] at e
    have e' : Value.ref t = kv := Option.some.inj e
    have : j = kA.length := by omega
    subst this
    exact ⟨t, x, e'.symm, hx, ht⟩
/-- the key that stands at an address -/
def keyOfL (H : Hp) : Value → Int × Str
  | .ref t => match H t with
    | some (.tup [.int n, .str z]) => (n, z)
    | _ => (0, "")
  | _ => (0, "")
theorem keyOfL_at {H : Hp} {t : Addr} {n : Int} {z : Str} (h : H t = some (.tup [.int n, .str z])) : keyOfL H (.ref t) = (n, z) := by
  show (match H t with
    | some (.tup [.int n, .str z]) => (n, z)
    | _ => ((0 : Int), ("" : Str))) = (n, z)
  rw [h]
theorem KysAt.is {X : Cx} {pins : List (Addr × Obj)} {σ : St} {H : Hp} {s : Shared} {key : V → Int × Str} {xs : List V} {kA : List Value} (I : Inv X pins σ H s) (h : KysAt H key xs kA) : ∀ v ∈ kA, SrtKy.IsIS s.heap v (keyOfL H v).1 (keyOfL H v).2 := fun v hv => by
  obtain ⟨j, hj⟩ := List.mem_iff_getElem?.mp hv
  obtain ⟨t, x, rfl, _, e⟩ := h j v hj
  rw [keyOfL_at e]
  obtain ⟨_, its, r, o, ho, hc, n, hd⟩ := I.hok _ _ e
  obtain ⟨u1, u2, rfl, ri, rj⟩ := vals2 r
  obtain ⟨t1, rfl⟩ := ri
  obtain ⟨t2, rfl⟩ := rj
  exact ⟨t, o, t1, t2, n, rfl, ho, hc, hd⟩
section
variable {X : Cx} {pins : List (Addr × Obj)} {σ : St} {H : Hp} {s : Shared}
end
end L2


namespace L2
open PySem PySem.Spec PyProof.Rows LamX NdefX
/-- all that was told stays -/
def HKeep (H H' : Hp) : Prop := ∀ b o, H b = some o → H' b = some o
/-- the lambda as a function of the layer (its body is an expression: none of the statements' field is read) -/
def lamF (X : Cx) (params : Arguments) (scope : Scope) (c' : Addr) : NF := ⟨"<lambda>", X.env.qual ++ "<lambda>", params, [], scope, cloFrom X.env.cells scope.names [], c'⟩
/-- sorted(e, key=lambda ..): js: where the captured names stand among ours -/
def tSortLam (T : List (Addr × Str)) (q : Str) (N : List Str) (js : List Nat) (ta : TA) (tb : TE) : TE := fun σ H Q => ta σ H fun vs H1 => ∃ x : V, vs = [x] ∧ Tabs T H1 ∧ ∀ (c' : Addr) (H2 : Hp), ExtN H1 H2 → Tabs T H2 → H2 c' = some (CodeO c' q) →
  ∃ (a : Addr) (kvs : List (Key × V)) (ks : List Str) (key : Str → Int × Str), x = .ref a ∧ Rd H2 a (.dK kvs) ∧ kvs.map (·.1) = ks.map Sum.inr ∧ ks.length ≤ sizeLine ∧
    (∀ k ∈ ks, ∀ H, HKeep H2 H → tb (startF N [.str k] (js.map (NdefX.slotAt σ))) H fun v H3 => HKeep H H3 ∧ ∃ t, v = .ref t ∧ H3 t = some (.tup [.int (key k).1, .str (key k).2])) ∧
    ∀ (ys : List Str) (H3 : Hp) (p : Addr), ys.Perm ks → ys.Pairwise (fun x y => SrtKy.isLt (key y) (key x) = false) → HKeep H2 H3 → H3 p = none → Q (.ref p) (upd H3 p (.lst (ys.map V.str)))
section
variable {X : Cx}
end
end L2


/-! heaps, lists, texts: what all the laws' proofs share. -/
namespace FT
open PySem L2 TL
abbrev Same (H H' : Hp) : Prop := ∀ b o, H b = some o → H' b = some o
theorem Same.refl {H : Hp} : Same H H := fun _ _ e => e
theorem Same.trans {H H1 H2 : Hp} (a : Same H H1) (b : Same H1 H2) : Same H H2 := fun x o e => b x o (a x o e)
theorem Same.free {H H' : Hp} {p : Addr} (s : Same H H') (n : H' p = none) : H p = none := by
  cases e : H p with
  | none => rfl
  | some o =>
    rw [s p o e] at n
    cases n
theorem Same.sql {K : PySem.W.Frag} {H H' : Hp} {a : Addr} {xs : List V} (e : Same H H') (h : SqL K H a xs) : SqL K H' a xs := by
  rcases h with (h | ⟨o, h⟩) | h
  · exact .inl (.inl (e _ _ h))
  · exact .inl (.inr ⟨o, e _ _ h⟩)
  · exact .inr h
theorem same_new {H : Hp} {p : Addr} {o : HO} (n : H p = none) : Same H (upd H p o) := fun b u e => by
  rw [upd_ne (ne_of_none e n)]
  exact e
theorem Same.put {H H' : Hp} {p : Addr} {o : HO} (s : Same H H') (n : H p = none) : Same H (upd H' p o) := fun b u e => by
  rw [upd_ne (ne_of_none e n)]
  exact s b u e
/-- what the text finds among the module's names -/
structure Nm (mg : Str → Option Value) : Prop where
  abs : mg "abs" = none
  len : mg "len" = none
  rng : mg "range" = none
  enu : mg "enumerate" = none
  zip : mg "zip" = none
  isi : mg "isinstance" = none
  all : mg "all" = none
  srt : mg "sorted" = none
  lst : mg "list" = none
  dct : mg "dict" = none
  str : mg "str" = none
  int : mg "int" = none
  tup : mg "tuple" = none
  sum : mg "sum" = none
  min : mg "min" = none
  max : mg "max" = none
  rep : mg "repr" = none
  bool : mg "bool" = none
  any : mg "any" = none
  vE : mg "ValueError" = none
theorem take_more {α : Type} {l : List α} {i : Nat} {x : α} (h : l[i]? = some x) : l.take (i + 1) = l.take i ++ [x] := by
  rw [List.take_succ, h] <;> rfl
theorem cut_ints (ns : List Int) (lo hi : Option Int) : ∃ ms : List Int, cutV (ns.map V.int) lo hi = ms.map V.int ∧ ms.length ≤ ns.length := by
  unfold cutV
  generalize HT.sIx (ns.map V.int).length 0 lo = i
  generalize HT.sIx (ns.map V.int).length (ns.map V.int).length hi = j
  refine ⟨(ns.drop i).take (j - i), by rw [List.map_take, List.map_drop], ?_⟩
  rw [List.length_take, List.length_drop]
  omega
theorem cut_take {xs : List V} {j : Nat} (h : j ≤ xs.length) : cutV xs none (some (j : Int)) = xs.take j := by
  have e : HT.sIx xs.length xs.length (some (j : Int)) = min j xs.length := HT.sIx_nat _ _ j
  show (xs.drop 0).take (HT.sIx xs.length xs.length (some (j : Int)) - 0) = xs.take j
  rw [e, List.drop_zero, Nat.sub_zero, Nat.min_eq_left h]
theorem map_of {α : Type} {f : α → V} {l : List α} {j : Nat} {x : V} (h : (l.map f)[j]? = some x) : ∃ z, l[j]? = some z ∧ x = f z := by
  rw [List.getElem?_map] at h
  obtain ⟨z, hz, rfl⟩ := Option.map_eq_some_iff.mp h
  exact ⟨z, hz, rfl⟩
theorem ixN_nat {n j : Nat} (h : j < n) : ixN n (j : Int) = some j := by
  unfold ixN
  rw [if_pos (by omega), if_pos (by omega)]
  simp
theorem map_erase {α β : Type} (f : α → β) : ∀ (l : List α) (i : Nat), (l.map f).eraseIdx i = (l.eraseIdx i).map f
  | [], _ => rfl
  | _ :: _, 0 => rfl
  | a :: l, i + 1 => congrArg (List.cons (f a)) (map_erase f l i)
theorem erase_perm {α : Type} : ∀ (l : List α) (i : Nat) (h : i < l.length), (l[i] :: l.eraseIdx i).Perm l
  | [], _, h => absurd h (Nat.not_lt_zero _)
  | _ :: _, 0, _ => .refl _
  | a :: l, i + 1, h => (List.Perm.swap a _ _).trans ((erase_perm l i (Nat.lt_of_succ_lt_succ h)).cons a)
/-- how many items stand there -/
def many (H : Hp) (a : Addr) : Nat := match H a with
  | some (.lst xs) => xs.length
  | _ => 0
theorem many_at {H : Hp} {a : Addr} {xs : List V} (h : H a = some (.lst xs)) : many H a = xs.length := by
  unfold many
  rw [h]
theorem inV_strs (x : Str) : ∀ fs : List Str, inV (.str x) (fs.map V.str) = decide (x ∈ fs)
  | [] => rfl
  | y :: fs => by
    show (eqV (.str y) (.str x) || inV (.str x) (fs.map V.str)) = _
    rw [inV_strs x fs]
    have e : eqV (.str y) (.str x) = decide (x = y) := by
      show (y == x) = decide (x = y)
      rw [Bool.eq_iff_iff, beq_iff_eq, decide_eq_true_eq]
      exact eq_comm
    rw [e, Bool.eq_iff_iff]
    simp only [Bool.or_eq_true, decide_eq_true_eq, List.mem_cons]
theorem flat_strs : ∀ fs : List Str, (fs.map V.str).all flatV = true
  | [] => rfl
  | _ :: fs => flat_strs fs
/-! ### texts -/
/-- a name: letters, one to eight, not self -/
def NameL (z : Str) : Prop := (∀ c ∈ tl z, 97 ≤ c ∧ c ≤ 122) ∧ 1 ≤ (tl z).length ∧ (tl z).length ≤ 8 ∧ z ≠ "self"
instance (z : Str) : Decidable (NameL z) := by unfold NameL; infer_instance
theorem NameL.len {z : Str} (h : NameL z) : 1 ≤ z.length ∧ z.length ≤ 8 := by
  rw [len_tl]
  exact ⟨h.2.1, h.2.2.1⟩
theorem NameL.self {z : Str} (h : NameL z) : z ≠ "self" := h.2.2.2
theorem NameL.ne {z : Str} (h : NameL z) : z ≠ "" := fun e => by
  subst e
  have := h.2.1
  revert this
  decide +kernel
theorem strOk_name {z : Str} (h : NameL z) : PyData.strOk z = true := by
  unfold PyData.strOk
  simp only [Bool.and_eq_true, decide_eq_true_eq, Array.all_eq_true_iff_forall_mem]
  intro c hc
  have := h.1 c (Array.mem_toList_iff.mpr hc)
  omega
theorem strOk_root : PyData.strOk "" = true := by decide +kernel
/-! ### order -/
theorem rising_all : ∀ (l : List Str) (p : Str), PyProof.Rows.risingS p l = true → (∀ y ∈ l, tl p ≤ tl y) ∧ l.Pairwise (fun a b => tl a ≤ tl b)
  | [], p, _ => ⟨fun y h => (by cases h), List.Pairwise.nil⟩
  | x :: r, p, h => by
    have h' : (!PySem.Spec.ltCps x.cps.toList p.cps.toList && PyProof.Rows.risingS x r) = true := h
    rw [Bool.and_eq_true, PyProof.Rows.ltCps_eq] at h'
    obtain ⟨h1, h2⟩ := h'
    have px : tl p ≤ tl x := by
      show ¬ (tl x < tl p)
      intro z
      rw [decide_eq_true z] at h1
      cases h1
    obtain ⟨i1, i2⟩ := rising_all r x h2
    refine ⟨fun y hy => ?_, List.pairwise_cons.mpr ⟨i1, i2⟩⟩
    rcases List.mem_cons.mp hy with rfl | hy
    · exact px
    · exact List.le_trans px (i1 y hy)
theorem sorted_pw {l : List Str} (h : PyProof.Rows.sortedS l = true) : l.Pairwise (fun a b => tl a ≤ tl b) := by
  cases l with
  | nil => exact .nil
  | cons x r =>
    obtain ⟨i1, i2⟩ := rising_all r x h
    exact List.pairwise_cons.mpr ⟨i1, i2⟩
/-- one order of the same texts -/
theorem sorted_one {l m : List Str} (p : l.Perm m) (hl : PyProof.Rows.sortedS l = true) (hm : PyProof.Rows.sortedS m = true) : l = m :=
  List.Perm.eq_of_pairwise (le := fun a b => tl a ≤ tl b) (fun a b _ _ h1 h2 => ext_tl (List.le_antisymm h1 h2)) (sorted_pw hl) (sorted_pw hm) p
/-! ### comprehensions of dicts, locks -/
/-- a dict comprehension over a walk: Pv by the turn and the heap (the new dict at D within) -/
theorem dc_it {J : It} {n : Nat} {G : Hp → Prop} {Y : Nat → Hp → V → Hp → Prop} (w : Walk J n G Y) {g : TG} {tt : TT} {tk tv : TE} {vs : List Nat} {σ : St} {H1 : Hp} {D : Addr} {Qd : Hp → Prop} (Pv : Nat → Hp → Prop) (h0 : Pv 0 (upd H1 D (.dK []))) (hG : ∀ i H, i ≤ n → Pv i H → G H)
    (hs : ∀ i x H H', i < n → Pv i H → Y i H x H' → g x (wipe σ vs) H' fun σ2 H2 => wipe σ2 vs = wipe σ vs ∧ tt σ2 H2 fun b H3 =>
      if b = true then tk σ2 H3 fun y H4 => tv σ2 H4 fun z H5 => ∃ kvs k, y = kV k ∧ H5 D = some (.dK kvs) ∧ kvs.length < sizeLine ∧ Pv (i + 1) (upd H5 D (.dK (putK kvs k z))) else Pv (i + 1) H3) (hd : ∀ H, Pv n H → Qd H) :
    ∃ W : Nat → Nat → Hp → Prop, (∃ m, W 0 m (upd H1 D (.dK []))) ∧ ∀ i m H, W i m H →
      (J.stop i H ∧ Qd H) ∨ (J.go i H ∧ ∃ Nx : Hp → Prop, (∀ H', Nx H' → ∃ m', m' < m ∧ W (i + 1) m' H') ∧ ∀ x H', J.yld i H x H' → g x (wipe σ vs) H' fun σ2 H2 => wipe σ2 vs = wipe σ vs ∧ tt σ2 H2 fun b H3 =>
        if b = true then tk σ2 H3 fun y H4 => tv σ2 H4 fun z H5 => ∃ kvs k, y = kV k ∧ H5 D = some (.dK kvs) ∧ kvs.length < sizeLine ∧ Nx (upd H5 D (.dK (putK kvs k z))) else Nx H3) := by
  refine ⟨fun i m H => m = n - i ∧ i ≤ n ∧ Pv i H, ⟨n, by simp, Nat.zero_le _, h0⟩, fun i m H ⟨em, hi, p⟩ => ?_⟩
  have gh := hG i H hi p
  rcases Nat.lt_or_ge i n with lt | ge
  · exact .inr ⟨w.goes i H lt gh, Pv (i + 1), fun H' p' => ⟨n - (i + 1), by omega, rfl, lt, p'⟩, fun x H' y => hs i x H H' lt p (w.yields i H x H' lt gh y)⟩
  · have ei : i = n := by omega
    subst ei
    exact .inl ⟨w.stops H gh, hd H p⟩
theorem unlock_same {H H' : Hp} {q : Addr} {u : HO} {o : Obj} (e : H q = some u) (s : Same (upd H q (.frz o u)) H') : Same H (upd H' q u) := fun b x h => by
  by_cases z : b = q
  · subst z
    rw [upd_same]
    exact e.symm.trans h |>.symm ▸ rfl
  · rw [upd_ne z]
    exact s b x (by rw [upd_ne z]; exact h)
/-! ### dicts with text keys, by any values -/
/-- a dict of values by texts -/
def kvT (t : List (Str × V)) : List (Key × V) := t.map fun p => (Sum.inr p.1, p.2)
theorem kvT_len (t : List (Str × V)) : (kvT t).length = t.length := by unfold kvT; rw [List.length_map]
theorem kvT_app (t : List (Str × V)) (f : Str) (z : V) : kvT t ++ [(Sum.inr f, z)] = kvT (t ++ [(f, z)]) := by
  unfold kvT
  rw [List.map_append] <;> rfl
theorem kvT_any (t : List (Str × V)) (f : Str) : ((kvT t).any fun kv => decide (kv.1 = Sum.inr f)) = decide (f ∈ t.map Prod.fst) := by
  induction t with
  | nil => rfl
  | cons p t ih =>
    show (decide ((Sum.inr p.1 : Key) = Sum.inr f) || ((kvT t).any fun kv => decide (kv.1 = Sum.inr f))) = _
    rw [ih, Bool.eq_iff_iff]
    simp only [Bool.or_eq_true, decide_eq_true_eq, List.map_cons, List.mem_cons]
    constructor
    · rintro (h | h)
      · exact .inl (Sum.inr.inj h).symm
      · exact .inr h
    · rintro (h | h)
      · exact .inl (by rw [h])
      · exact .inr h
theorem kvT_put {t : List (Str × V)} {f : Str} {z : V} (n : f ∉ t.map Prod.fst) : putK (kvT t) (Sum.inr f) z = kvT (t ++ [(f, z)]) := by
  unfold putK
  rw [kvT_any, decide_eq_false n, if_neg (by decide), kvT_app]
/-- the value of a key -/
def look (t : List (Str × V)) (f : Str) : Option V := (t.find? fun p => decide (p.1 = f)).map Prod.snd
theorem look_cons (p : Str × V) (t : List (Str × V)) (f : Str) : look (p :: t) f = if p.1 = f then some p.2 else look t f := by
  unfold look
  rw [List.find?_cons]
  by_cases e : p.1 = f
  · rw [if_pos e, decide_eq_true e] <;> rfl
  · rw [if_neg e, decide_eq_false e]
theorem kvT_val : ∀ (t : List (Str × V)) (f : Str), valV (kvT t) (Sum.inr f) = look t f
  | [], f => rfl
  | p :: t, f => by
    rw [look_cons]
    by_cases e : p.1 = f
    · rw [if_pos e]
      exact valV_pos (by show (Sum.inr p.1 : Key) = Sum.inr f; rw [e])
    · rw [if_neg e]
      exact (valV_neg (p := (Sum.inr p.1, p.2)) (fun z => e (Sum.inr.inj z))).trans (kvT_val t f)
/-- a key's value, written anew -/
def putT (t : List (Str × V)) (f : Str) (z : V) : List (Str × V) := if f ∈ t.map Prod.fst then t.map fun p => if p.1 = f then (p.1, z) else p else t ++ [(f, z)]
theorem kvT_putT (t : List (Str × V)) (f : Str) (z : V) : putK (kvT t) (Sum.inr f) z = kvT (putT t f z) := by
  by_cases h : f ∈ t.map Prod.fst
  · unfold putK putT
    rw [kvT_any, decide_eq_true h, if_pos rfl, if_pos h]
    unfold kvT
    rw [List.map_map, List.map_map]
    refine List.map_congr_left fun p _ => ?_
    show (if (Sum.inr p.1 : Key) = Sum.inr f then ((Sum.inr p.1 : Key), z) else (Sum.inr p.1, p.2)) = (Sum.inr (if p.1 = f then (p.1, z) else p).1, (if p.1 = f then (p.1, z) else p).2)
    by_cases e : p.1 = f
    · rw [if_pos e, if_pos (by rw [e])]
    · rw [if_neg e, if_neg fun q => e (Sum.inr.inj q)]
  · rw [kvT_put h]
    unfold putT
    rw [if_neg h]
end FT


/-! forests as pairs of a flag and its parent, in any order. -/
namespace FT
open PySem L2 TL
/-- a dict of texts by texts -/
def prs (t : List (Str × Str)) : List (Key × V) := kvT (t.map fun p => (p.1, V.str p.2))
theorem prs_len (t : List (Str × Str)) : (prs t).length = t.length := by unfold prs; rw [kvT_len, List.length_map]
theorem prs_fst (t : List (Str × Str)) : (t.map fun p => (p.1, V.str p.2)).map Prod.fst = t.map Prod.fst := by rw [List.map_map] <;> rfl
theorem prs_keys (t : List (Str × Str)) : (prs t).map (·.1) = (t.map Prod.fst).map Sum.inr := by unfold prs kvT; rw [List.map_map, List.map_map, List.map_map] <;> rfl
theorem keys_prs (t : List (Str × Str)) : ((prs t).map fun kv => kV kv.1) = (t.map Prod.fst).map V.str := by
  unfold prs kvT
  rw [List.map_map, List.map_map, List.map_map] <;> rfl
theorem put_new {t : List (Str × Str)} {f z : Str} (n : f ∉ t.map Prod.fst) : putK (prs t) (Sum.inr f) (V.str z) = prs (t ++ [(f, z)]) := by
  unfold prs
  rw [kvT_put (by rw [prs_fst]; exact n), List.map_append] <;> rfl
/-- the parent of a flag -/
def par (t : List (Str × Str)) (a : Str) : Option Str := (t.find? fun p => decide (p.1 = a)).map Prod.snd
theorem par_cons (p : Str × Str) (t : List (Str × Str)) (a : Str) : par (p :: t) a = if p.1 = a then some p.2 else par t a := by
  unfold par
  rw [List.find?_cons]
  by_cases e : p.1 = a
  · rw [if_pos e, decide_eq_true e] <;> rfl
  · rw [if_neg e, decide_eq_false e]
theorem val_prs (a : Str) : ∀ t : List (Str × Str), valV (prs t) (Sum.inr a) = (par t a).map V.str
  | [] => rfl
  | p :: t => by
    have ih := val_prs a t
    unfold prs at ih ⊢
    rw [List.map_cons, kvT_val, look_cons, par_cons]
    rw [kvT_val] at ih
    by_cases e : p.1 = a
    · rw [if_pos e, if_pos e] <;> rfl
    · rw [if_neg e, if_neg e, ih]
theorem par_mem {t : List (Str × Str)} {a z : Str} (h : par t a = some z) : (a, z) ∈ t := by
  induction t with
  | nil => cases h
  | cons p t ih =>
    rw [par_cons] at h
    by_cases e : p.1 = a
    · rw [if_pos e] at h
      cases h
      exact List.mem_cons.mpr (.inl (by rw [← e]))
    · rw [if_neg e] at h
      exact List.mem_cons_of_mem _ (ih h)
theorem par_of {t : List (Str × Str)} {a z : Str} (nd : (t.map Prod.fst).Nodup) (h : (a, z) ∈ t) : par t a = some z := by
  induction t with
  | nil => cases h
  | cons p t ih =>
    obtain ⟨n1, n2⟩ := List.nodup_cons.mp nd
    rw [par_cons]
    rcases List.mem_cons.mp h with e | h
    · subst e
      exact if_pos rfl
    · rw [if_neg fun e => n1 (by rw [e]; exact List.mem_map.mpr ⟨_, h, rfl⟩)]
      exact ih n2 h
theorem par_none {t : List (Str × Str)} {a : Str} (n : a ∉ t.map Prod.fst) : par t a = none := by
  cases e : par t a with
  | none => rfl
  | some z => exact absurd (List.mem_map.mpr ⟨_, par_mem e, rfl⟩) n
theorem par_some {t : List (Str × Str)} {a : Str} (nd : (t.map Prod.fst).Nodup) (h : a ∈ t.map Prod.fst) : ∃ z, par t a = some z := by
  obtain ⟨p, hp, rfl⟩ := List.mem_map.mp h
  exact ⟨p.2, par_of nd hp⟩
theorem par_perm {t u : List (Str × Str)} (nd : (t.map Prod.fst).Nodup) (p : t.Perm u) (a : Str) : par t a = par u a := by
  cases e : par t a with
  | some v => exact (par_of ((p.map _).nodup_iff.mp nd) (p.mem_iff.mp (par_mem e))).symm
  | none =>
    cases e2 : par u a with
    | none => rfl
    | some v =>
      have := par_of nd (p.mem_iff.mpr (par_mem e2))
      rw [e] at this
      cases this
/-- each parent has a lower rank -/
def Rk (t : List (Str × Str)) (rk : Str → Nat) : Prop := ∀ p ∈ t, rk p.1 < t.length ∧ (p.2 = "" ∨ (p.2 ∈ t.map Prod.fst ∧ rk p.2 < rk p.1))
/-- a forest of one to twelve flags -/
structure TreeOk (t : List (Str × Str)) : Prop where
  one : 1 ≤ t.length
  few : t.length ≤ 12
  nd : (t.map Prod.fst).Nodup
  nm : ∀ z ∈ t.map Prod.fst, NameL z
  up : ∃ rk : Str → Nat, Rk t rk
theorem TreeOk.perm {t u : List (Str × Str)} (p : t.Perm u) (o : TreeOk t) : TreeOk u := by
  obtain ⟨rk, hr⟩ := o.up
  have l := p.length_eq
  refine ⟨by have := o.one; omega, by have := o.few; omega, (p.map _).nodup_iff.mp o.nd, fun z h => o.nm z ((p.map _).mem_iff.mpr h), rk, fun q hq => ?_⟩
  obtain ⟨h1, h2⟩ := hr q (p.mem_iff.mpr hq)
  exact ⟨by omega, h2.imp id fun h => ⟨(p.map _).mem_iff.mp h.1, h.2⟩⟩
theorem TreeOk.root {t : List (Str × Str)} (o : TreeOk t) : ("" : Str) ∉ t.map Prod.fst := fun h => (o.nm _ h).ne rfl
/-- the step up -/
theorem TreeOk.step {t : List (Str × Str)} (o : TreeOk t) {rk : Str → Nat} (r : Rk t rk) {a : Str} (h : a ∈ t.map Prod.fst) : ∃ p : Str, par t a = some p ∧ (p = "" ∨ (p ∈ t.map Prod.fst ∧ rk p < rk a)) ∧ rk a < t.length := by
  obtain ⟨z, hz⟩ := par_some o.nd h
  obtain ⟨h1, h2⟩ := r _ (par_mem hz)
  exact ⟨z, hz, h2, h1⟩
/-! ### paths -/
/-- the flags from the top down to a place; n bounds the steps -/
def upN (t : List (Str × Str)) : Nat → Str → List Str
  | 0, _ => []
  | n + 1, a => if a = "" then [] else upN t n ((par t a).getD "") ++ [a]
def pathOf (t : List (Str × Str)) (a : Str) : List Str := upN t t.length a
/-- a place: the root or a flag -/
def Pl (t : List (Str × Str)) (a : Str) : Prop := a = "" ∨ a ∈ t.map Prod.fst
theorem upN_root (t : List (Str × Str)) (n : Nat) : upN t n "" = [] := by
  cases n with
  | zero => rfl
  | succ n => exact if_pos rfl
theorem upN_eq {t : List (Str × Str)} (o : TreeOk t) {rk : Str → Nat} (r : Rk t rk) : ∀ (n m : Nat) (a : Str), Pl t a → (a ≠ "" → rk a < n) → (a ≠ "" → rk a < m) → upN t n a = upN t m a := by
  intro n
  induction n with
  | zero =>
    intro m a hp h1 h2
    by_cases e : a = ""
    · subst e
      rw [upN_root, upN_root]
    · exact absurd (h1 e) (Nat.not_lt_zero _)
  | succ n ih =>
    intro m a hp h1 h2
    by_cases e : a = ""
    · subst e
      rw [upN_root, upN_root]
    · cases m with
      | zero => exact absurd (h2 e) (Nat.not_lt_zero _)
      | succ m =>
        obtain ⟨p, ep, hp2, _⟩ := o.step r (hp.resolve_left e)
        have q1 := h1 e
        have q2 := h2 e
        show (if a = "" then [] else upN t n ((par t a).getD "") ++ [a]) = if a = "" then [] else upN t m ((par t a).getD "") ++ [a]
        rw [if_neg e, if_neg e, ep]
        show upN t n p ++ [a] = upN t m p ++ [a]
        rw [ih m p (hp2.imp id And.left) (fun z => by have := (hp2.resolve_left z).2; omega) (fun z => by have := (hp2.resolve_left z).2; omega)]
theorem path_root (t : List (Str × Str)) : pathOf t "" = [] := upN_root _ _
theorem path_step {t : List (Str × Str)} (o : TreeOk t) {a p : Str} (h : a ∈ t.map Prod.fst) (e : par t a = some p) : pathOf t a = pathOf t p ++ [a] := by
  obtain ⟨rk, r⟩ := o.up
  have ne : a ≠ "" := fun z => o.root (by rw [← z]; exact h)
  obtain ⟨p', e', hp, la⟩ := o.step r h
  cases e.symm.trans e'
  have lt := o.one
  obtain ⟨n, hn⟩ : ∃ n, t.length = n + 1 := ⟨t.length - 1, by omega⟩
  unfold pathOf
  rw [hn]
  show (if a = "" then [] else upN t n ((par t a).getD "") ++ [a]) = _
  rw [if_neg ne, e]
  show upN t n p ++ [a] = _
  rw [upN_eq o r n (n + 1) p (hp.imp id And.left) (fun z => by have := (hp.resolve_left z).2; omega) (fun z => by have := (hp.resolve_left z).2; omega)]
theorem path_perm {t u : List (Str × Str)} (nd : (t.map Prod.fst).Nodup) (p : t.Perm u) (a : Str) : pathOf t a = pathOf u a := by
  unfold pathOf
  rw [p.length_eq]
  generalize u.length = n
  induction n generalizing a with
  | zero => rfl
  | succ n ih =>
    show (if a = "" then [] else upN t n ((par t a).getD "") ++ [a]) = if a = "" then [] else upN u n ((par u a).getD "") ++ [a]
    rw [ih, par_perm nd p]
theorem upN_len (t : List (Str × Str)) : ∀ (n : Nat) (a : Str), (upN t n a).length ≤ n
  | 0, _ => Nat.le_refl _
  | n + 1, a => by
    show (if a = "" then [] else upN t n ((par t a).getD "") ++ [a]).length ≤ n + 1
    by_cases e : a = ""
    · rw [if_pos e]
      exact Nat.zero_le _
    · rw [if_neg e, List.length_append]
      have := upN_len t n ((par t a).getD "")
      show _ + 1 ≤ n + 1
      omega
theorem path_len (t : List (Str × Str)) (a : Str) : (pathOf t a).length ≤ t.length := upN_len _ _ _
theorem upN_all {t : List (Str × Str)} (o : TreeOk t) : ∀ (n : Nat) (a : Str), Pl t a → ∀ z ∈ upN t n a, z ∈ t.map Prod.fst
  | 0, _, _, z, h => by cases h
  | n + 1, a, hp, z, h => by
    have h' : z ∈ (if a = "" then [] else upN t n ((par t a).getD "") ++ [a]) := h
    by_cases e : a = ""
    · rw [if_pos e] at h'
      cases h'
    · rw [if_neg e] at h'
      have ha := hp.resolve_left e
      obtain ⟨rk, r⟩ := o.up
      obtain ⟨p, ep, hp2, _⟩ := o.step r ha
      rw [ep] at h'
      rcases List.mem_append.mp h' with h' | h'
      · exact upN_all o n p (hp2.imp id And.left) z h'
      · rw [List.mem_singleton.mp h']
        exact ha
theorem path_all {t : List (Str × Str)} (o : TreeOk t) {a : Str} (h : Pl t a) : ∀ z ∈ pathOf t a, z ∈ t.map Prod.fst := upN_all o _ _ h
/-! ### sums over children -/
/-- the sum of sizes of the children of a place -/
def kids (t : List (Str × Str)) (p : Str) : List Str := (t.filter fun q => decide (q.2 = p)).map Prod.fst
def resid (t : List (Str × Str)) (n : Int) (sz : Str → Int) (p : Str) : Int := (if p = "" then n else sz p) - ((kids t p).map sz).sum
theorem kids_snoc (t : List (Str × Str)) (q : Str × Str) (p : Str) : kids (t ++ [q]) p = kids t p ++ (if q.2 = p then [q.1] else []) := by
  unfold kids
  rw [List.filter_append, List.map_append]
  by_cases e : q.2 = p
  · rw [if_pos e, List.filter_cons, decide_eq_true e, List.filter_nil] <;> rfl
  · rw [if_neg e, List.filter_cons, decide_eq_false e, List.filter_nil] <;> rfl
theorem kids_perm {t u : List (Str × Str)} (h : t.Perm u) (p : Str) : (kids t p).Perm (kids u p) := (h.filter _).map _
theorem sum_perm {l m : List Int} (h : l.Perm m) : l.sum = m.sum := by
  induction h with
  | nil => rfl
  | cons x _ ih => rw [List.sum_cons, List.sum_cons, ih]
  | swap x y l => rw [List.sum_cons, List.sum_cons, List.sum_cons, List.sum_cons]; omega
  | trans _ _ a b => rw [a, b]
theorem resid_perm {t u : List (Str × Str)} (h : t.Perm u) (n : Int) (sz : Str → Int) (p : Str) : resid t n sz p = resid u n sz p := by
  unfold resid
  rw [sum_perm ((kids_perm h p).map sz)]
theorem resid_snoc (t : List (Str × Str)) (q : Str × Str) (n : Int) (sz : Str → Int) (p : Str) : resid (t ++ [q]) n sz p = if q.2 = p then resid t n sz p - sz q.1 else resid t n sz p := by
  unfold resid
  rw [kids_snoc]
  by_cases e : q.2 = p
  · rw [if_pos e, if_pos e, List.map_append, List.sum_append]
    show _ - (_ + (sz q.1 + 0)) = _
    omega
  · rw [if_neg e, if_neg e, List.append_nil]
end FT


namespace FT
open PySem L2 TL ClX
def letters : Str := "abcdefghijklmnopqrstuvwxyz"
theorem in_letters {c : Nat} (h0 : 97 ≤ c) (h1 : c ≤ 122) : c ∈ letters.cps.toList := by
  have all : ∀ i : Fin 26, (97 + i.1) ∈ letters.cps.toList := by decide +kernel
  have q := all ⟨c - 97, by omega⟩
  rw [show 97 + (⟨c - 97, by omega⟩ : Fin 26).1 = c by show 97 + (c - 97) = c; omega] at q
  exact q
/-- the module's own constants -/
structure Cs (mg : Str → Option Value) : Prop where
  long : ∃ t, mg "LONGEST" = some (.int 8 t)
  lett : ∃ t, mg "LETTERS" = some (.str letters t)
/-- the class Forest: its two constants -/
structure Fc (K : PySem.W.Frag) (mg : Str → Option Value) (CF : Addr) (mc : Value) : Prop where
  gF : mg "Forest" = some (.ref CF)
  rd : CRead K CF mc
  most : ∃ u, CVal K CF mc "MOST" (.int 12) u
  root : ∃ u, CVal K CF mc "ROOT" (.str "") u
/-- one of the text's defs, called by place -/
structure Dn (P : Program) (w : World) (K : PySem.W.Frag) (mg : Str → Option Value) (base : Heap) (CX : CXT) (k : Nat) (x : Str) (ps : List Str) (sp : Sp) (f : Addr) (fd : FuncData) : Prop where
  ok : FnOk P w K mg base CX k f fd ps sp
  kp : PySem.W.keepIn K (.ref f) = true
  bn : Binds K fd ps []
  mgn : mg x = some (.ref f)
def spIsName : Sp := fun vs H Q _ => ∃ z : Str, vs = [.str z] ∧ NameL z ∧ ∀ H', Same H H' → Q (.bl true) H'
def spIsAnc : Sp := fun vs H Q _ => ∃ (q : Addr) (f : Str) (t : List (Str × Str)), vs = [.ref q, .str f] ∧ H q = some (.dK (prs t)) ∧ TreeOk t ∧ f ∈ t.map Prod.fst ∧ ∀ H', Same H H' → Q (.bl false) H'
def spNeed : Sp := fun vs H Q _ => ∃ (q : Addr) (t : List (Str × Str)), vs = [.ref q] ∧ H q = some (.dK (prs t)) ∧ TreeOk t ∧ ∀ H', Same H H' → Q .non H'
section
variable {P : Program} {w : World} {K : PySem.W.Frag} {mg : Str → Option Value} {base : Heap}
theorem scIsName : FnScope ["value", "letter"] ["value"] (defScope s_is_name) := ⟨rfl, rfl, rfl, by decide +kernel, rfl, by decide +kernel, by decide +kernel⟩
theorem ok_isName {f : Addr} {fd : FuncData} (F : Fun K "is_name" "is_name" s_is_name f fd) (T : Nm mg) (C : Cs mg) : FnOk P w K mg base CX0 1 f fd ["value"] spIsName := by
  obtain ⟨t1, g1⟩ := C.long
  obtain ⟨t2, g2⟩ := C.lett
  refine F.ok scIsName (fun vs H Q E h => ?_) (fun cdv A outer s H vs Q E hr h => ?_)
  · obtain ⟨z, rfl, _⟩ := h
    rfl
  · obtain ⟨z, rfl, nm, k⟩ := h
    refine ⟨_, pss_cons (ps_if (PW.pt (pw_or (pt_not (pt_val (pe_callB call_isi (by rfl) T.isi (by decide +kernel) (pa_cons (pv 0) (pa_cons (pe_bltn (v := .ty "str") (u := .type "str") (by rfl) T.str (by decide +kernel) rfl) pa_nil)))))
        (pw_or (pt_not (pt_chain op_le op_le pe_int (pe_callB call_len_str (by rfl) T.len PySem.boot_len (pa_cons (pv 0) pa_nil)) (pe_glob (v := .int 8) (by rfl) g1 ⟨_, rfl⟩))) (pw_or1 (pt_cmpR op_eq (pv 0) pe_str (nomark _))))))
        (pss_one (ps_ret pe_bl)) pss_nil)
      (pss_one (ps_ret (pe_callB (cr_all rfl) (by rfl) T.all (by decide +kernel) (pa_cons (pe_lc (own := [("letter", 1)]) (g := gName 1) (tt := tYes) (te := tOp (fun x y H Q => ∃ (c : Nat) (z : Str), x = .str ⟨#[c]⟩ ∧ y = .str z ∧ Q (.bl (decide (c ∈ z.cps.toList))) H) (tVar 1) (tC (.str letters))) rfl scIsName.nd (pi_str (pv 0))
        (blkOk_by (N := ["value", "letter"]) (sc := defScope s_is_name) (by decide +kernel))
        (fun _ _ _ _ _ => pg_name (i := 1) scIsName.nd rfl (Or.inl rfl)) (fun _ _ _ _ _ => pts_nil) (fun _ _ _ _ _ => pe_cmpR op_in_sign (pv 1) (pe_glob (v := .str letters) (by rfl) g2 ⟨_, rfl⟩) rfl)) pa_nil)))), ?_⟩
    have l := nm.len
    have big : 1000 ≤ sizeLine := by decide
    refine ⟨_, rfl, .str z, _, _, _, true, rfl, .ty _, .base (.str z), kit_ty (by decide +kernel), true, rfl, ?_⟩
    refine iteF ?_
    refine ⟨_, rfl, z, rfl, by omega, _, _, rfl, rfl, _, rfl, ?_⟩
    rw [if_pos (decide_eq_true (by omega))]
    refine ⟨_, _, rfl, rfl, _, rfl, ?_⟩
    rw [decide_eq_true (show (z.length : Int) ≤ 8 by omega)]
    refine iteF ?_
    refine ⟨_, rfl, rfl, _, rfl, ?_⟩
    rw [decide_eq_false (show ¬ V.str z = V.str "self" from fun e => nm.self (V.str.inj e))]
    refine iteF ?_
    refine ⟨_, rfl, z, rfl, fun D nD => lc_it walk_str (fun i H' => Same H H' ∧ H' D = some (.lst ((List.replicate i true).map V.bl))) ⟨same_new nD, upd_same⟩ (fun _ _ _ _ => trivial) ?_ ?_⟩
    · intro i x Ha Hb hi ⟨q1, q2⟩ ⟨e, ch, hc, ex⟩
      subst e
      subst ex
      have hm : ch ∈ letters.cps.toList := by
        have hz : ch ∈ tl z := by
          rw [← Array.getElem?_toList] at hc
          exact List.mem_of_getElem? hc
        exact in_letters (nm.1 ch hz).1 (nm.1 ch hz).2
      refine ⟨rfl, ?_⟩
      refine ⟨_, rfl, ch, letters, rfl, rfl, _, q2, ?_, ?_, ?_⟩
      · rw [List.length_map, List.length_replicate]
        have : z.cps.size = z.length := rfl
        omega
      · exact Same.put q1 nD
      · rw [upd_same, decide_eq_true hm, List.replicate_succ', List.map_append] <;> rfl
    · intro H' ⟨q1, q2⟩
      refine ⟨D, _, rfl, SqL.of q2, ?_⟩
      have e : (List.replicate z.cps.size true).all id = true := by simp
      rw [e]
      exact k H' q1
def rankS (t : List (Str × Str)) (rk : Str → Nat) (σ : St) : Nat := match σ[3]? with
  | some (some (V.str a)) => if a ∈ t.map Prod.fst then rk a + 1 else 0
  | _ => 0
theorem scIsAnc : FnScope ["parents", "name", "seen", "above"] ["parents", "name"] (defScope s_is_ancestor) := ⟨rfl, rfl, rfl, by decide +kernel, rfl, by decide +kernel, by decide +kernel⟩
theorem ok_isAnc {f : Addr} {fd : FuncData} (F : Fun K "is_ancestor" "is_ancestor" s_is_ancestor f fd) : FnOk P w K mg base CX0 1 f fd ["parents", "name"] spIsAnc := by
  refine F.ok scIsAnc (fun vs H Q E h => ?_) (fun cdv A outer s H vs Q E hr h => ?_)
  · obtain ⟨q, g, t, rfl, _⟩ := h
    rfl
  · obtain ⟨q, g, t, rfl, hq, o, hg, k⟩ := h
    have hu := hu_of hr
    obtain ⟨rk, r⟩ := o.up
    refine ⟨_, pss_cons (ps_set (i := 2) scIsAnc.nd rfl (.inl rfl) (pe_lst pa_nil))
      (pss_cons (ps_set (i := 3) scIsAnc.nd rfl (.inl rfl) (pe_dget hu (pv 0) (pv 1) (fun _ _ => rfl)))
      (pss_cons (ps_while PassesOwn.never (PW.pt (pw_and (pt_cmp (pc_din hu (pv 3) (pv 0))) (pw_and1 (pt_cmpR op_notIn_seq (pv 3) (pv 2) rfl))))
        (pss_cons (ps_if (pt_cmpR op_eq (pv 3) (pv 1) (nomark _)) (pss_one (ps_ret pe_bl)) pss_nil)
        (pss_cons (ps_expr (pe_bm PySem.F.plainAttrs_list PySem.F.slot_list_append PySem.F.type_list_append mt_append (pv 2) (pa_cons (pv 3) pa_nil)))
        (pss_one (ps_set (i := 3) scIsAnc.nd rfl (.inl rfl) (pe_dget hu (pv 0) (pv 3) (fun _ _ => rfl)))))))
      (pss_one (ps_ret pe_bl)))), ?_⟩
    obtain ⟨p0, v0, w0, i0⟩ := o.step r hg
    have few := o.few
    have big : 1000 ≤ sizeLine := by decide
    refine ⟨by show 0 ≤ sizeLine; omega, fun l nl => ?_⟩
    have hq1 : (upd H l (.lst [])) q = some (.dK (prs t)) := by rw [upd_ne (ne_of_none hq nl)]; exact hq
    have ql : q ≠ l := ne_of_none hq nl
    refine ⟨_, rfl, _, rfl, q, V.str p0, rfl, by have z := DGet.k (k := Sum.inr g) hq1; rw [val_prs, v0] at z; exact z, ?_⟩
    refine while_by (fun σ H' => ∃ (a : Str) (ws : List Str), σ = [some (.ref q), some (.str g), some (.ref l), some (.str a)] ∧ H' l = some (.lst (ws.map V.str)) ∧ (∀ b u, H b = some u → H' b = some u) ∧ (a = "" ∨ (a ∈ t.map Prod.fst ∧ rk a < rk g ∧ ws.length + rk a < t.length)))
      (fun σ _ => rankS t rk σ) ⟨p0, [], rfl, upd_same, same_new nl, w0.imp id fun z => ⟨z.1, z.2, by simp only [List.length_nil]; omega⟩⟩ ?_ ?_
    · rintro σ Hx ⟨a, ws, rfl, hl, sm, ha⟩
      have hqx := sm _ _ hq
      have dg := DGet.k (k := Sum.inr a) hqx
      rw [val_prs] at dg
      refine ⟨_, rfl, _, rfl, q, _, rfl, dg, _, rfl, ?_⟩
      rcases ha with rfl | ⟨ha, ia, la⟩
      · rw [par_none o.root]
        refine iteF ?_
        exact iteF (k Hx sm)
      · obtain ⟨p, hv, hp, il⟩ := o.step r ha
        rw [hv]
        show if true = true then _ else _
        rw [if_pos rfl]
        refine ⟨_, rfl, _, rfl, l, _, rfl, .inl (SqL.of hl), rfl, flat_strs ws, _, rfl, ?_⟩
        rw [inV_strs]
        by_cases hw : a ∈ ws
        · rw [decide_eq_true hw]
          exact iteF (k Hx sm)
        · rw [decide_eq_false hw]
          show if true = true then _ else _
          rw [if_pos rfl]
          refine ⟨_, rfl, _, rfl, rfl, _, rfl, ?_⟩
          rw [decide_eq_false (show ¬ V.str a = V.str g from fun e => by
            have := V.str.inj e
            subst this
            omega)]
          refine iteF ?_
          refine ⟨_, rfl, .inl ⟨rfl, _, SqL.of hl⟩, _, rfl, l, _, _, rfl, rfl, hl, by rw [List.length_map]; omega, ?_⟩
          have hq2 : (upd Hx l (.lst (ws.map V.str ++ [.str a]))) q = some (.dK (prs t)) := by rw [upd_ne ql]; exact hqx
          refine ⟨_, rfl, _, rfl, q, V.str p, rfl, by have z := DGet.k (k := Sum.inr a) hq2; rw [val_prs, hv] at z; exact z, ?_⟩
          refine ⟨⟨p, ws ++ [a], rfl, by rw [upd_same, List.map_append] <;> rfl, fun b u e => ?_, ?_⟩, ?_⟩
          · rw [upd_ne (ne_of_none e nl)]
            exact sm b u e
          · rcases hp with rfl | ⟨hp, ip⟩
            · exact .inl rfl
            · refine .inr ⟨hp, by omega, ?_⟩
              rw [List.length_append]
              show ws.length + 1 + rk p < t.length
              omega
          · show rankS t rk [some (.ref q), some (.str g), some (.ref l), some (.str p)] < rankS t rk [some (.ref q), some (.str g), some (.ref l), some (.str a)]
            have e1 : rankS t rk [some (.ref q), some (.str g), some (.ref l), some (.str a)] = rk a + 1 := if_pos ha
            rw [e1]
            rcases hp with rfl | ⟨hp, ip⟩
            · have e2 : rankS t rk [some (.ref q), some (.str g), some (.ref l), some (.str "")] = 0 := if_neg o.root
              rw [e2]
              omega
            · have e2 : rankS t rk [some (.ref q), some (.str g), some (.ref l), some (.str p)] = rk p + 1 := if_pos hp
              rw [e2]
              omega
    · intro σ Hx Qa Qb h
      rintro ⟨v, e1, w, e2, a, r, e3, g, d, e4, z⟩
      refine ⟨v, e1, w, e2, a, r, e3, g, d, e4, ?_⟩
      cases d with
      | false =>
        rw [if_neg (by decide)] at z ⊢
        exact h _ _ z
      | true =>
        rw [if_pos rfl] at z ⊢
        obtain ⟨v, e1, w, e2, p, xs, e3, e4, e5, e6, b, e7, z⟩ := z
        exact ⟨v, e1, w, e2, p, xs, e3, e4, e5, e6, b, e7, h _ _ z⟩
theorem scNeed : FnScope ["parents", "name", "above", "other"] ["parents"] (defScope s_need_parents) := ⟨rfl, rfl, rfl, by decide +kernel, rfl, by decide +kernel, by decide +kernel⟩
theorem ok_need {f fI fA CF : Addr} {mc : Value} {fd fdI fdA : FuncData} (F : Fun K "need_parents" "need_parents" s_need_parents f fd) (T : Nm mg) (C : Cs mg) (Z : Fc K mg CF mc)
    (FI : Dn P w K mg base CX0 1 "is_name" ["value"] spIsName fI fdI) (FA : Dn P w K mg base CX0 1 "is_ancestor" ["parents", "name"] spIsAnc fA fdA) : FnOk P w K mg base CX0 2 f fd ["parents"] spNeed := by
  obtain ⟨um, cm⟩ := Z.most
  obtain ⟨ur, cr⟩ := Z.root
  refine F.ok scNeed (fun vs H Q E h => ?_) (fun cdv A outer s H vs Q E hr h => ?_)
  · obtain ⟨q, t, rfl, _⟩ := h
    rfl
  · obtain ⟨q, t, rfl, hq, o, k⟩ := h
    have hu := hu_of hr
    obtain ⟨rk, r⟩ := o.up
    refine ⟨_, pss_cons (ps_if (PW.pt (pw_or (pt_not (pt_val (pe_callB call_isi (by rfl) T.isi (by decide +kernel) (pa_cons (pv 0) (pa_cons (pe_bltn (v := .ty "dict") (u := .type "dict") (by rfl) T.dct (by decide +kernel) rfl) pa_nil)))))
        (pw_or1 (pt_not (pt_chain op_le op_le pe_int (pe_callB call_lenD (by rfl) T.len PySem.boot_len (pa_cons (pv 0) pa_nil)) (pe_cval (pe_glob (v := .ref CF) (by rfl) Z.gF rfl))))))) pss_never pss_nil)
      (pss_cons (ps_if (pt_not (pt_val (pe_callB (cr_all rfl) (by rfl) T.all (by decide +kernel) (pa_cons (pe_lock (pe_lc (own := [("name", 1)]) (g := gName 1) (tt := tYes) rfl scNeed.nd (pi_keys (pv 0))
        (blkOk_by (N := ["parents", "name", "above", "other"]) (sc := defScope s_need_parents) (by decide +kernel))
        (fun _ _ _ _ _ => pg_name (i := 1) scNeed.nd rfl (Or.inl rfl)) (fun _ _ _ _ _ => pts_nil) (fun _ _ _ _ _ => pe_call FI.ok hr rfl FI.mgn FI.kp FI.bn .nil pass0 (pa_cons (pv 1) pa_nil)))) pa_nil)))) pss_never pss_nil)
      (pss_one (ps_for PassesOwn.never rfl (pi_list (pe_callB (call_sortedD rfl) (by rfl) T.srt (by decide +kernel) (pa_cons (pv 0) pa_nil))) (pg_name (i := 1) scNeed.nd rfl (.inl rfl))
        (pss_cons (ps_set (i := 2) scNeed.nd rfl (.inl rfl) (pe_dget hu (pv 0) (pv 1) (fun _ _ => rfl)))
        (pss_cons (ps_if (PW.pt (pw_or (pt_not (pt_val (pe_callB call_isi (by rfl) T.isi (by decide +kernel) (pa_cons (pv 2) (pa_cons (pe_bltn (v := .ty "str") (u := .type "str") (by rfl) T.str (by decide +kernel) rfl) pa_nil)))))
          (pw_or1 (PW.pt (pw_and (pt_cmpR op_ne (pv 2) (pe_cval (pe_glob (v := .ref CF) (by rfl) Z.gF rfl)) (nomark _)) (pw_and1 (pt_cmp (pc_dnotin hu (pv 2) (pv 0))))))))) pss_never pss_nil)
        (pss_one (ps_if (pt_val (pe_call FA.ok hr rfl FA.mgn FA.kp FA.bn .nil pass0 (pa_cons (pe_lock (pe_dc (own := [("other", 3)]) (g := gName 3) (tt := tB (tCB (rIsi K) (tCons (tDGet (tVar 0) (tVar 3)) (tCons (tC (.ty "str")) tNil)))) rfl scNeed.nd (pi_keys (pv 0))
          (blkOk_by (N := ["parents", "name", "above", "other"]) (sc := defScope s_need_parents) (by decide +kernel))
          (fun _ _ _ _ _ => pg_name (i := 3) scNeed.nd rfl (Or.inl rfl)) (fun _ _ _ _ _ => pts_one (pt_val (pe_callB call_isi (by rfl) T.isi (by decide +kernel) (pa_cons (pe_dget hu (pv 0) (pv 3) (fun _ _ => rfl)) (pa_cons (pe_bltn (v := .ty "str") (u := .type "str") (by rfl) T.str (by decide +kernel) rfl) pa_nil)))))
          (fun _ _ _ _ _ => pv 3) (fun _ _ _ _ _ => pe_dget hu (pv 0) (pv 3) (fun _ _ => rfl)))) (pa_cons (pv 1) pa_nil)))) pss_never pss_nil))))))), ?_⟩
    have few := o.few
    have one := o.one
    have big : 1000 ≤ sizeLine := by decide
    have lp := prs_len t
    -- a dict, of one to twelve
    refine ⟨_, rfl, .ref q, _, _, _, true, rfl, .ty _, .base (.dK hq), kit_ty (by decide +kernel), true, rfl, ?_⟩
    refine iteF ?_
    refine ⟨_, rfl, q, _, rfl, hq, _, _, rfl, rfl, _, rfl, ?_⟩
    rw [if_pos (decide_eq_true (by omega))]
    refine ⟨CF, mc, _, um, rfl, Z.rd, cm, _, _, rfl, rfl, _, rfl, ?_⟩
    rw [decide_eq_true (show ((prs t).length : Int) ≤ 12 by omega)]
    refine iteF ?_
    -- all are names
    refine ⟨q, .dK (prs t), hq, trivial, fun od => ⟨_, rfl, q, od, rfl, .inl ⟨prs t, upd_same, fun D nD => ?_⟩⟩⟩
    have Dq : D ≠ q := (ne_of_none upd_same nD).symm
    have key : ∀ {i : Nat} {k : Key} {v : V}, (prs t)[i]? = some (k, v) → ∃ a p : Str, k = Sum.inr a ∧ v = .str p ∧ t[i]? = some (a, p) := fun {i k v} h => by
      unfold prs kvT at h
      rw [List.map_map, List.getElem?_map] at h
      obtain ⟨⟨a, p⟩, hp, e⟩ := Option.map_eq_some_iff.mp h
      cases e
      exact ⟨a, p, rfl, rfl, hp⟩
    refine lc_it walk_keys (fun i H' => Same (upd H q (.frz od (.dK (prs t)))) H' ∧ H' D = some (.lst ((List.replicate i true).map V.bl))) ⟨same_new nD, upd_same⟩ (fun i H' _ z => z.1 q _ upd_same) ?_ ?_
    · intro i x Ha Hb hi ⟨q1, q2⟩ ⟨e, k', v, hk, ex⟩
      subst e
      subst ex
      obtain ⟨a, p, rfl, rfl, hp⟩ := key hk
      refine ⟨rfl, ?_⟩
      refine ⟨_, rfl, a, rfl, o.nm a (List.mem_map.mpr ⟨(a, p), List.mem_of_getElem? hp, rfl⟩), fun H' s' => ⟨_, s' D _ q2, ?_, ?_, ?_⟩⟩
      · rw [List.length_map, List.length_replicate]
        omega
      · intro b u e
        rw [upd_ne (ne_of_none e nD)]
        exact s' _ _ (q1 b u e)
      · rw [upd_same, List.replicate_succ', List.map_append] <;> rfl
    intro H1 ⟨q1, q2⟩
    refine ⟨q1 q _ upd_same, D, _, rfl, SqL.of (by rw [upd_ne Dq]; exact q2), true, by rw [show (List.replicate (prs t).length true).all id = true by simp], ?_⟩
    refine iteF ?_
    have s1 : Same H (upd H1 q (.dK (prs t))) := unlock_same hq q1
    -- one by one, in their order
    refine ⟨_, rfl, q, prs t, t.map Prod.fst, rfl, .inl upd_same, prs_keys t, by rw [List.length_map]; omega, fun ys p perm srt np => ⟨p, rfl, ⟨_, SqL.of upd_same⟩, ?_⟩⟩
    obtain ⟨H2, e2⟩ : ∃ X, X = upd (upd H1 q (.dK (prs t))) p (.lst (ys.map V.str)) := ⟨_, rfl⟩
    have s2 : Same H H2 := s1.trans (e2 ▸ same_new np)
    have at2 : H2 p = some (.lst (ys.map V.str)) := by rw [e2]; exact upd_same
    rw [← e2]
    refine for_it walk_list (fun j σ' H' => (∃ u1 u2 u3, σ' = [some (.ref q), u1, u2, u3]) ∧ Same H2 H') ⟨⟨_, _, _, rfl⟩, fun _ _ e => e⟩ (fun j σ' H' _ z => SqL.of (z.2 _ _ at2)) ?_ ?_
    · intro j x σ' Ha Hb hj ⟨⟨u1, u2, u3, e⟩, sa⟩ ⟨eb, ex⟩
      subst e
      subst eb
      rw [List.getElem?_map] at ex
      obtain ⟨a, ha, rfl⟩ := Option.map_eq_some_iff.mp ex
      have ma : a ∈ t.map Prod.fst := perm.mem_iff.mp (List.mem_of_getElem? ha)
      obtain ⟨pa, hv, hpa, ia⟩ := o.step r ma
      have s0a : Same H Hb := s2.trans sa
      have hqa := s0a _ _ hq
      refine ⟨_, rfl, _, rfl, q, V.str pa, rfl, by have z := DGet.k (k := Sum.inr a) hqa; rw [val_prs, hv] at z; exact z, ?_⟩
      refine ⟨_, rfl, .str pa, _, _, _, true, rfl, .ty _, .base (.str pa), kit_ty (by decide +kernel), true, rfl, ?_⟩
      refine iteF ?_
      have anc : tIfS (tB (tCall spIsAnc [] E0 (tCons (tLockE (tDc (iKeys (tVar 0)) (gName 3) (tB (tCB (rIsi K) (tCons (tDGet (tVar 0) (tVar 3)) (tCons (tC (.ty "str")) tNil)))) (tVar 3) (tDGet (tVar 0) (tVar 3)) [3])) (tCons (tVar 1) tNil)))) tNever tNext
          ⟨fun σ' H' => (∃ u1 u2 u3, σ' = [some (.ref q), u1, u2, u3]) ∧ Same H2 H', fun v H' => Q v H', fun σ' H' => Q .non H', fun σ' H' => (∃ u1 u2 u3, σ' = [some (.ref q), u1, u2, u3]) ∧ Same H2 H'⟩ [some (.ref q), some (.str a), some (.str pa), u3] Hb := by
        refine ⟨q, .dK (prs t), hqa, trivial, fun od => ⟨_, rfl, q, od, rfl, .inl ⟨prs t, upd_same, fun D nD => ?_⟩⟩⟩
        have Dq : D ≠ q := (ne_of_none upd_same nD).symm
        refine dc_it walk_keys (fun i H' => Same (upd Hb q (.frz od (.dK (prs t)))) H' ∧ H' D = some (.dK (prs (t.take i)))) ⟨same_new nD, upd_same⟩ (fun i H' _ z => z.1 q _ upd_same) ?_ ?_
        · intro i x Hc Hd hi ⟨q1, q2⟩ ⟨e, k', v, hk, ex⟩
          subst e
          subst ex
          obtain ⟨b, r', rfl, rfl, hp⟩ := key hk
          have fz := q1 q _ upd_same
          have dg : DGet Hd q (.str b) (some (.str r')) := .inl ⟨prs t, Sum.inr b, .inr ⟨od, fz⟩, rfl, by rw [val_prs, par_of o.nd (List.mem_of_getElem? hp)] <;> rfl⟩
          have nb : b ∉ (t.take i).map Prod.fst := fun hm => by
            rw [List.map_take] at hm
            obtain ⟨j, hj⟩ := List.mem_iff_getElem?.mp hm
            have jl := (List.getElem?_eq_some_iff.mp hj).1
            rw [List.length_take] at jl
            rw [List.getElem?_take, if_pos (by omega)] at hj
            have e0 : (t.map Prod.fst)[i]? = some b := by rw [List.getElem?_map, hp] <;> rfl
            have := (List.getElem?_inj (by omega) o.nd).mp (hj.trans e0.symm)
            omega
          refine ⟨rfl, ?_⟩
          refine ⟨_, rfl, _, rfl, q, _, rfl, dg, .str r', _, _, _, true, rfl, .ty _, .base (.str r'), kit_ty (by decide +kernel), true, rfl, ?_⟩
          show if true = true then _ else _
          rw [if_pos rfl]
          refine ⟨_, rfl, _, rfl, _, rfl, q, _, rfl, dg, prs (t.take i), Sum.inr b, rfl, q2, ?_, ?_, ?_⟩
          · rw [prs_len, List.length_take]
            omega
          · intro c u e
            rw [upd_ne (ne_of_none e nD)]
            exact q1 c u e
          · rw [upd_same, put_new nb, take_more hp]
        · intro Hc ⟨q1, q2⟩
          rw [lp, List.take_length] at q2
          refine ⟨q1 q _ upd_same, _, rfl, D, a, t, rfl, by rw [upd_ne Dq]; exact q2, o, ma, fun H' s' => ⟨false, rfl, iteF ⟨⟨_, _, _, rfl⟩, (sa.trans (unlock_same hqa q1)).trans s'⟩⟩⟩
      rcases hpa with rfl | ⟨hp, _⟩
      · refine ⟨_, rfl, CF, mc, _, ur, rfl, Z.rd, cr, rfl, _, rfl, ?_⟩
        rw [decide_eq_true rfl]
        refine iteF ?_
        exact iteF anc
      · obtain ⟨pp, hv2, _⟩ := o.step r hp
        refine ⟨_, rfl, CF, mc, _, ur, rfl, Z.rd, cr, rfl, _, rfl, ?_⟩
        have ne : ¬ V.str pa = V.str "" := fun e => o.root (by rw [← V.str.inj e]; exact hp)
        rw [decide_eq_false ne]
        show if true = true then _ else _
        rw [if_pos rfl]
        refine ⟨_, rfl, _, rfl, q, V.str pp, rfl, by have z := DGet.k (k := Sum.inr pa) hqa; rw [val_prs, hv2] at z; exact z, _, rfl, ?_⟩
        exact iteF anc
    · intro σ' H' ⟨_, sa⟩
      exact k H' (s2.trans sa)
/-! ### Forest -/
/-- a forest at x, its pairs ts -/
def FAt (CF : Addr) (H : Hp) (x : Addr) (ts : List (Str × Str)) : Prop := ∃ dx dq, H x = some (.ins CF dx [("above", .ref dq)]) ∧ H dq = some (.dK (prs ts))
theorem FAt.mono {CF x : Addr} {H H' : Hp} {ts : List (Str × Str)} (s : Same H H') (h : FAt CF H x ts) : FAt CF H' x ts := let ⟨dx, dq, e1, e2⟩ := h; ⟨dx, dq, s _ _ e1, s _ _ e2⟩
/-- in ascending order -/
def Asc (ts : List (Str × Str)) : Prop := PyProof.Rows.sortedS (ts.map Prod.fst) = true
/-- facts of a class of the text -/
structure FoC (K : PySem.W.Frag) (CF : Addr) : Prop where
  cl : Cls K CF
  nA : NoAttr K CF "above"
def spFInit (CF : Addr) : Sp := fun vs H Q _ => ∃ (x q dx : Addr) (t : List (Str × Str)), vs = [.ref x, .ref q] ∧ H x = some (.ins CF dx []) ∧ H q = some (.dK (prs t)) ∧ TreeOk t ∧
  ∀ (H' : Hp) (ts : List (Str × Str)), ts.Perm t → Asc ts → FAt CF H' x ts → (∀ b o, b ≠ x → H b = some o → H' b = some o) → Q .non H'
def spFFlags (CF : Addr) : Sp := fun vs H Q _ => ∃ (x : Addr) (ts : List (Str × Str)), vs = [.ref x] ∧ FAt CF H x ts ∧ ∀ p, H p = none → Q (.ref p) (upd H p (.lst ((ts.map Prod.fst).map V.str)))
def spFParents (CF : Addr) : Sp := fun vs H Q _ => ∃ (x : Addr) (ts : List (Str × Str)), vs = [.ref x] ∧ FAt CF H x ts ∧ ∀ p, H p = none → Q (.ref p) (upd H p (.dK (prs ts)))
theorem scFInit : FnScope ["self", "parents", "name"] ["self", "parents"] (defScope s_Forest___init__) := ⟨rfl, rfl, rfl, by decide +kernel, rfl, by decide +kernel, by decide +kernel⟩
theorem perm_pairs : ∀ {ts t : List (Str × Str)}, (t.map Prod.fst).Nodup → (ts.map Prod.fst).Perm (t.map Prod.fst) → (∀ p ∈ ts, p ∈ t) → ts.Perm t
  | [], t, _, pf, _ => by
    have := pf.length_eq
    rw [List.length_map, List.length_map] at this
    rw [List.length_eq_zero_iff.mp (this.symm : t.length = 0)]
  | p :: ts, t, nd, pf, h => by
    have mp := h p (List.mem_cons_self ..)
    have pe := List.perm_cons_erase mp
    have pk : (ts.map Prod.fst).Perm ((t.erase p).map Prod.fst) := (pf.trans (pe.map Prod.fst)).cons_inv
    have nk := (pe.map Prod.fst).nodup_iff.mp nd
    obtain ⟨n1, n2⟩ := List.nodup_cons.mp (show (p.1 :: (t.erase p).map Prod.fst).Nodup from nk)
    refine ((perm_pairs n2 pk fun q hq => ?_).cons p).trans pe.symm
    rcases List.mem_cons.mp (pe.mem_iff.mp (h q (List.mem_cons_of_mem _ hq))) with e | m
    · exfalso
      refine n1 (pk.mem_iff.mp (List.mem_map.mpr ⟨q, hq, ?_⟩))
      rw [e]
    · exact m
theorem ok_finit {f fN CF : Addr} {fd fdN : FuncData} (F : Fun K "__init__" "Forest.__init__" s_Forest___init__ f fd) (T : Nm mg) (O : FoC K CF) (GN : Dn P w K mg base CX0 2 "need_parents" ["parents"] spNeed fN fdN) :
    FnOk P w K mg base CX0 3 f fd ["self", "parents"] (spFInit CF) := by
  refine F.ok scFInit (fun vs H Q E h => ?_) (fun cdv A outer s H vs Q E hr h => ?_)
  · obtain ⟨x, q, dx, t, rfl, _⟩ := h
    rfl
  · obtain ⟨x, q, dx, t, rfl, hx, hq, o, k⟩ := h
    have hu := hu_of hr
    refine ⟨_, pss_cons (ps_expr (pe_call GN.ok hr rfl GN.mgn GN.kp GN.bn .nil pass0 (pa_cons (pv 1) pa_nil)))
      (pss_one (ps_fld (pv 0) (pe_dc (own := [("name", 2)]) (g := gName 2) (tt := tYes) rfl scFInit.nd (pi_list (pe_callB (call_sortedD rfl) (by rfl) T.srt (by decide +kernel) (pa_cons (pv 1) pa_nil)))
        (blkOk_by (N := ["self", "parents", "name"]) (sc := defScope s_Forest___init__) (by decide +kernel))
        (fun _ _ _ _ _ => pg_name (i := 2) scFInit.nd rfl (Or.inl rfl)) (fun _ _ _ _ _ => pts_nil) (fun _ _ _ _ _ => pv 2) (fun _ _ _ _ _ => pe_dget hu (pv 1) (pv 2) (fun _ _ => rfl))) rfl)), ?_⟩
    have few := o.few
    have big : 1000 ≤ sizeLine := by decide
    refine ⟨_, rfl, q, t, rfl, hq, o, fun H1 s1 => ?_⟩
    have hq1 := s1 _ _ hq
    refine ⟨_, rfl, q, prs t, t.map Prod.fst, rfl, .inl hq1, prs_keys t, by rw [List.length_map]; omega, fun ys p perm srt np => ⟨p, rfl, ⟨_, SqL.of upd_same⟩, fun D nD => ?_⟩⟩
    obtain ⟨H2, e2⟩ : ∃ X, X = upd H1 p (.lst (ys.map V.str)) := ⟨_, rfl⟩
    have s2 : Same H H2 := s1.trans (e2 ▸ same_new np)
    have at2 : H2 p = some (.lst (ys.map V.str)) := by rw [e2]; exact upd_same
    rw [← e2] at nD ⊢
    have ndy : ys.Nodup := perm.nodup_iff.mpr o.nd
    have ly := perm.length_eq
    rw [List.length_map] at ly
    refine dc_it walk_list (fun i H' => Same H2 H' ∧ ∃ ts : List (Str × Str), H' D = some (.dK (prs ts)) ∧ ts.map Prod.fst = ys.take i ∧ ∀ p ∈ ts, p ∈ t) ⟨same_new nD, [], upd_same, by rw [List.take_zero] <;> rfl, fun p h => by cases h⟩ (fun i H' _ z => SqL.of (z.1 _ _ at2)) ?_ ?_
    · intro i y Ha Hb hi ⟨q1, ts, hD, ets, hts⟩ ⟨eb, ex⟩
      subst eb
      rw [List.getElem?_map] at ex
      obtain ⟨a, ha, rfl⟩ := Option.map_eq_some_iff.mp ex
      have ma : a ∈ t.map Prod.fst := perm.mem_iff.mp (List.mem_of_getElem? ha)
      obtain ⟨pa, hv⟩ := par_some o.nd ma
      have hqa := q1 _ _ (s2 _ _ hq)
      have fresh : a ∉ ts.map Prod.fst := by
        rw [ets]
        intro hm
        obtain ⟨j, hj⟩ := List.mem_iff_getElem?.mp hm
        have jl := (List.getElem?_eq_some_iff.mp hj).1
        have il := (List.getElem?_eq_some_iff.mp ha).1
        rw [List.length_take] at jl
        rw [List.getElem?_take, if_pos (by omega)] at hj
        have := (List.getElem?_inj (by omega) ndy).mp (hj.trans ha.symm)
        omega
      have lt := congrArg List.length ets
      rw [List.length_map, List.length_take] at lt
      refine ⟨rfl, ?_⟩
      refine ⟨_, rfl, _, rfl, _, rfl, q, V.str pa, rfl, by have z := DGet.k (k := Sum.inr a) hqa; rw [val_prs, hv] at z; exact z, prs ts, Sum.inr a, rfl, hD, by rw [prs_len]; omega, ?_, ts ++ [(a, pa)], ?_, ?_, fun z hz => ?_⟩
      · intro b u e
        rw [upd_ne (ne_of_none e nD)]
        exact q1 b u e
      · rw [upd_same, put_new fresh]
      · rw [List.map_append, ets, take_more ha] <;> rfl
      · rcases List.mem_append.mp hz with h | h
        · exact hts z h
        · rw [List.mem_singleton.mp h]
          exact par_mem hv
    · intro H3 ⟨q1, ts, hD, ets, hts⟩
      rw [List.length_map, List.take_length] at ets
      have s3 : Same H H3 := s2.trans q1
      refine ⟨_, rfl, x, CF, dx, [], rfl, s3 _ _ hx, O.cl, O.nA, by show 0 < 1000; decide, ?_⟩
      have xD : D ≠ x := (ne_of_none (s2 _ _ hx) nD).symm
      refine k _ ts (perm_pairs o.nd (by rw [ets]; exact perm) hts) (by unfold Asc; rw [ets]; exact srt) ⟨dx, D, upd_same, by rw [upd_ne xD]; exact hD⟩ fun b u bx e => ?_
      rw [upd_ne bx]
      exact s3 b u e
theorem scFFlags : FnScope ["self"] ["self"] (defScope s_Forest_flags) := ⟨rfl, rfl, rfl, by decide +kernel, rfl, by decide +kernel, by decide +kernel⟩
theorem ok_fflags {f CF : Addr} {fd : FuncData} (F : Fun K "flags" "Forest.flags" s_Forest_flags f fd) (T : Nm mg) (O : FoC K CF) : FnOk P w K mg base CX0 1 f fd ["self"] (spFFlags CF) := by
  refine F.ok scFFlags (fun vs H Q E h => ?_) (fun cdv A outer s H vs Q E hr h => ?_)
  · obtain ⟨x, ts, rfl, _⟩ := h
    rfl
  · obtain ⟨x, ts, rfl, ⟨dx, dq, hx, hd⟩, k⟩ := h
    refine ⟨_, pss_one (ps_ret (pe_callTy (call_listD rfl) (by rfl) T.lst (by decide +kernel) (pa_cons (pe_fld (pv 0) rfl) pa_nil))), ?_⟩
    refine ⟨_, rfl, x, CF, dx, _, .ref dq, rfl, hx, O.cl, O.nA, rfl, dq, prs ts, rfl, .inl hd, fun p np => ?_⟩
    rw [keys_prs]
    exact k p np
theorem scFParents : FnScope ["self"] ["self"] (defScope s_Forest_parents) := ⟨rfl, rfl, rfl, by decide +kernel, rfl, by decide +kernel, by decide +kernel⟩
theorem ok_fparents {f CF : Addr} {fd : FuncData} (F : Fun K "parents" "Forest.parents" s_Forest_parents f fd) (T : Nm mg) (O : FoC K CF) : FnOk P w K mg base CX0 1 f fd ["self"] (spFParents CF) := by
  refine F.ok scFParents (fun vs H Q E h => ?_) (fun cdv A outer s H vs Q E hr h => ?_)
  · obtain ⟨x, ts, rfl, _⟩ := h
    rfl
  · obtain ⟨x, ts, rfl, ⟨dx, dq, hx, hd⟩, k⟩ := h
    refine ⟨_, pss_one (ps_ret (pe_callTy call_dictD (by rfl) T.dct (by decide +kernel) (pa_cons (pe_fld (pv 0) rfl) pa_nil))), ?_⟩
    exact ⟨_, rfl, x, CF, dx, _, .ref dq, rfl, hx, O.cl, O.nA, rfl, dq, prs ts, rfl, .inl hd, fun p np => k p np⟩
/-- a property of a class -/
structure Pr1 (P : Program) (w : World) (K : PySem.W.Frag) (mg : Str → Option Value) (base : Heap) (CF : Addr) (x : Str) (sp : Sp) (p g : Addr) (fd : FuncData) : Prop where
  pr : PropOf K CF x p g
  fn : FnOk P w K mg base CX0 1 g fd ["self"] sp
  bn : Binds K fd ["self"] []
def spPlacesOf (CF : Addr) : Sp := fun vs H Q _ => ∃ (x : Addr) (ts : List (Str × Str)), vs = [.ref x] ∧ FAt CF H x ts ∧ ts.length ≤ 12 ∧ ∀ p H', Same H H' → H p = none → H' p = some (.lst ((("" : Str) :: ts.map Prod.fst).map V.str)) → Q (.ref p) H'
end
end FT


/-! the package's errors: their __init__, how they are raised. -/
namespace FT
open PySem L2 TL ClX
/-- what the top has written of an error class at C, its __init__ at I; f its attribute, or the empty text -/
structure Er (K : PySem.W.Frag) (mg : Str → Option Value) (nm f : Str) (C I : Addr) : Prop where
  g : mg nm = some (.ref C)
  x : XCls K C
  ini : PySem.W.findIn K (.ref C) "__init__" = some (some (.ref I))
  ity : PySem.W.typeIn K (.ref I) = some (.type "function")
  no : PySem.W.findIn K (.ref C) f = some none
theorem Er.xf {K : PySem.W.Frag} {mg : Str → Option Value} {nm f : Str} {C I : Addr} (e : Er K mg nm f C I) : XfC K C := ⟨e.x.ga, e.x.gg, e.x.exC, e.x.hdC⟩
/-- the base class -/
structure Rt (K : PySem.W.Frag) (mg : Str → Option Value) (R : Addr) : Prop where
  g : mg "RolloutError" = some (.ref R)
  ini : XIni K R
def spInit1 (C : Addr) (f : Str) : Sp := fun vs H Q _ => ∃ (a : Addr) (v : V), vs = [.ref a, v] ∧ H a = some (exo a C none) ∧ ∀ d, H d = none → d ≠ a → Q .non (upd (upd H d (exd d [(f, v)])) a (exo a C (some d)))
def spInit0 (C : Addr) : Sp := fun vs H Q _ => ∃ (a : Addr), vs = [.ref a] ∧ H a = some (exo a C none) ∧ Q .non H
/-- C(v): what is asked -/
theorem raise1 {C : Addr} {f : Str} {H1 : Hp} {Q : XK} {v : V} (k : ∀ d, H1 d = none → Q (.ref C) (some d) (upd H1 d (.xd [(f, v)]))) :
    [v].length ≤ 1000 ∧ ∀ a, H1 a = none → spInit1 C f (.ref a :: ([v] ++ [])) (upd H1 a (exo a C none))
      (fun w H2 => w = .non ∧ ∃ (d : Addr) (fs : List (Str × V)), H2 a = some (exo a C (some d)) ∧ H2 d = some (exd d fs) ∧ H1 d = none ∧ Q (.ref C) (some d) (upd (del H2 a) d (.xd fs))) (fun _ _ _ => False) := by
  refine ⟨by show 1 ≤ 1000; omega, fun a na => ⟨a, v, rfl, upd_same, fun d nd nda => ⟨rfl, d, [(f, v)], upd_same, by rw [upd_ne nda, upd_same], ?_, ?_⟩⟩⟩
  · rw [upd_ne nda] at nd
    exact nd
  · rw [upd_ne nda] at nd
    have e : upd (del (upd (upd (upd H1 a (exo a C none)) d (exd d [(f, v)])) a (exo a C (some d))) a) d (.xd [(f, v)]) = upd H1 d (.xd [(f, v)]) := by
      funext b
      by_cases h1 : b = d
      · subst h1
        rw [upd_same, upd_same]
      · rw [upd_ne h1, upd_ne h1]
        by_cases h2 : b = a
        · subst h2
          rw [del_same, na]
        · rw [del_ne h2, upd_ne h2, upd_ne h1, upd_ne h2]
    rw [e]
    exact k d nd
/-- C(): what is asked -/
theorem raise0 {C : Addr} {H1 : Hp} {Q : XK} (k : Q (.ref C) none H1) :
    ([] : List V).length ≤ 1000 ∧ ∀ a, H1 a = none → spInit0 C (.ref a :: ([] ++ [])) (upd H1 a (exo a C none)) (fun v H2 => v = .non ∧ H2 a = some (exo a C none) ∧ Q (.ref C) none (del H2 a)) (fun _ _ _ => False) := by
  refine ⟨Nat.zero_le _, fun a na => ⟨a, rfl, upd_same, rfl, upd_same, ?_⟩⟩
  have e : del (upd H1 a (exo a C none)) a = H1 := by
    funext b
    by_cases h : b = a
    · subst h
      rw [del_same, na]
    · rw [del_ne h, upd_ne h]
  rw [e]
  exact k
/-- an error class with its __init__, as a whole: with one value -/
structure Er1 (P : Program) (w : World) (K : PySem.W.Frag) (mg : Str → Option Value) (base : Heap) (nm f : Str) (C I : Addr) (fd : FuncData) : Prop where
  e : Er K mg nm f C I
  fn : FnOk P w K mg base CX0 1 I fd ["self", f] (spInit1 C f)
  bn : Binds K fd ["self", f] []
structure Er0 (P : Program) (w : World) (K : PySem.W.Frag) (mg : Str → Option Value) (base : Heap) (nm : Str) (C I : Addr) (fd : FuncData) : Prop where
  e : Er K mg nm "" C I
  fn : FnOk P w K mg base CX0 1 I fd ["self"] (spInit0 C)
  bn : Binds K fd ["self"] []
section
variable {X : Cx} {W : WX} {nm f : Str} {C I : Addr} {fd : FuncData} {ex : Expr} {te : TE} {p pos pos2 : Pos}
/-- raise C(e) -/
theorem ps_err1 (L : Er1 X.prog X.w X.K X.mg X.base nm f C I fd) (hc : X.calm = true) (tk : Takes X W) (hr : Room 2 X.A) (hg : Gl X nm) (he : PE X ex te) (hdb : (nm == ("__debug__" : Str)) = false := by decide)
    (hse : starEach (ex :: []) X.env = (false, eval ex X.env) :: starEach [] X.env := by rfl) (hpl : (backTo pos (starEach [] X.env)).any (·.1) = false := by rfl) :
    PS X (.Raise (some (.Call (.Name nm p) [ex] [] pos)) none pos2) (fun _ σ H => tMkO C (spInit1 C f) [] (tCons te tNil) σ H fun cls d H' => W cls d σ H') :=
  ps_raise hc tk (pmk_oex L.e.x.oex L.e.ini L.e.ity L.fn hr L.bn .nil (fun _ _ _ _ _ _ _ h => h.elim) hg L.e.g (pa_cons (hs := hse) he pa_nil) hdb hse hpl)
/-- raise C() -/
theorem ps_err0 (L : Er0 X.prog X.w X.K X.mg X.base nm C I fd) (hc : X.calm = true) (tk : Takes X W) (hr : Room 2 X.A) (hg : Gl X nm) (hdb : (nm == ("__debug__" : Str)) = false := by decide) :
    PS X (.Raise (some (.Call (.Name nm p) [] [] pos)) none pos2) (fun _ σ H => tMkO0 C (spInit0 C) [] tNil σ H fun cls d H' => W cls d σ H') :=
  ps_raise hc tk (pmk_none L.e.x.oex L.e.ini L.e.ity L.fn hr L.bn .nil (fun _ _ _ _ _ _ _ h => h.elim) hg L.e.g hdb)
end
end FT


namespace FT
open PySem L2 TL ClX
section
variable {P : Program} {w : World} {K : PySem.W.Frag} {mg : Str → Option Value} {base : Heap}
theorem sc_InvalidUsers : FnScope ["self"] ["self"] (defScope s_InvalidUsers___init__) := ⟨rfl, rfl, rfl, by decide +kernel, rfl, by decide +kernel, by decide +kernel⟩
theorem ok_InvalidUsers {f R C I : Addr} {fd : FuncData} (F : Fun K "__init__" "InvalidUsers.__init__" s_InvalidUsers___init__ f fd) (T : Rt K mg R) (L : Er K mg "InvalidUsers" "" C I) : FnOk P w K mg base CX0 1 f fd ["self"] (spInit0 C) := by
  refine F.ok sc_InvalidUsers (fun vs H Q E h => ?_) (fun cdv A outer s H vs Q E hr h => ?_)
  · obtain ⟨a, rfl, _⟩ := h
    rfl
  · obtain ⟨a, rfl, ha, k⟩ := h
    refine ⟨_, pss_one (ps_expr (pe_clsinit T.ini rfl T.g (pa_cons (pv 0) (pa_cons pe_str pa_nil)))), ?_⟩
    exact ⟨_, rfl, a, C, _, rfl, by show 1 ≤ 1000; omega, L.x.oex, ha, k⟩
theorem sc_InvalidSizes : FnScope ["self", "place"] ["self", "place"] (defScope s_InvalidSizes___init__) := ⟨rfl, rfl, rfl, by decide +kernel, rfl, by decide +kernel, by decide +kernel⟩
theorem ok_InvalidSizes {f R C I : Addr} {fd : FuncData} (F : Fun K "__init__" "InvalidSizes.__init__" s_InvalidSizes___init__ f fd) (T : Rt K mg R) (L : Er K mg "InvalidSizes" "place" C I) : FnOk P w K mg base CX0 1 f fd ["self", "place"] (spInit1 C "place") := by
  refine F.ok sc_InvalidSizes (fun vs H Q E h => ?_) (fun cdv A outer s H vs Q E hr h => ?_)
  · obtain ⟨a, v, rfl, _⟩ := h
    rfl
  · obtain ⟨a, v, rfl, ha, k⟩ := h
    refine ⟨_, pss_cons (ps_expr (pe_clsinit T.ini rfl T.g (pa_cons (pv 0) (pa_cons pe_str pa_nil)))) (pss_one (ps_ost (pv 0) (pv 1))), ?_⟩
    refine ⟨_, rfl, a, C, _, rfl, by show 1 ≤ 1000; omega, L.x.oex, ha, ?_⟩
    exact ⟨_, rfl, _, rfl, a, C, rfl, L.x.oex, L.no, .inl ⟨ha, fun d nd nda => k d nd nda⟩⟩
end
end FT


/-! data of any kind; what is raised; numbers by places -/
namespace FT
open PySem L2 TL ClX
/-! ### data of any kind -/
inductive Dat (K : PySem.W.Frag) (H : Hp) : V → String → Prop where
  | non : Dat K H .non "NoneType"
  | bl (b : Bool) : Dat K H (.bl b) "bool"
  | int (i : Int) : Dat K H (.int i) "int"
  | str (z : Str) : Dat K H (.str z) "str"
  | lst {a : Addr} {xs : List V} (h : H a = some (.lst xs)) : Dat K H (.ref a) "list"
  | tup {a : Addr} {xs : List V} (h : H a = some (.tup xs)) : Dat K H (.ref a) "tuple"
  | dct {a : Addr} {kvs : List (Key × V)} (h : H a = some (.dK kvs)) : Dat K H (.ref a) "dict"
theorem Dat.ty {K : PySem.W.Frag} {H : Hp} {v : V} {T : String} (d : Dat K H v T) : TyX K H v (.type T) := by
  cases d with
  | non => exact .base .non
  | bl b => exact .base (.bl b)
  | int i => exact .base (.int i)
  | str z => exact .base (.str z)
  | lst h => exact .base (.lst h)
  | tup h => exact .base (.tup h)
  | dct h => exact .base (.dK h)
theorem Dat.mono {K : PySem.W.Frag} {H H' : Hp} {v : V} {T : String} (s : Same H H') (d : Dat K H v T) : Dat K H' v T := by
  cases d with
  | non => exact .non
  | bl b => exact .bl b
  | int i => exact .int i
  | str z => exact .str z
  | lst h => exact .lst (s _ _ h)
  | tup h => exact .tup (s _ _ h)
  | dct h => exact .dct (s _ _ h)
def IsDat (K : PySem.W.Frag) (H : Hp) (v : V) : Prop := ∃ T, Dat K H v T
theorem IsDat.mono {K : PySem.W.Frag} {H H' : Hp} {v : V} (s : Same H H') (d : IsDat K H v) : IsDat K H' v := let ⟨T, d⟩ := d; ⟨T, d.mono s⟩
/-- isinstance(v, int) -/
def isIntV : V → Bool
  | .int _ => true
  | .bl _ => true
  | _ => false
def isBlV : V → Bool
  | .bl _ => true
  | _ => false
def isDictV (H : Hp) (v : V) : Bool := match v with
  | .ref a => match H a with
    | some (.dK _) => true
    | _ => false
  | _ => false
theorem Dat.int_ {K : PySem.W.Frag} {H : Hp} {v : V} {T : String} (d : Dat K H v T) : PySem.W.kitOne K (.type T) (.type "int") = some (isIntV v) := by
  cases d with
  | non => exact kit_ty (r := false) (by decide +kernel)
  | bl b => exact kit_ty (r := true) (by decide +kernel)
  | int i => exact kit_ty (r := true) (by decide +kernel)
  | str z => exact kit_ty (r := false) (by decide +kernel)
  | lst h => exact kit_ty (r := false) (by decide +kernel)
  | tup h => exact kit_ty (r := false) (by decide +kernel)
  | dct h => exact kit_ty (r := false) (by decide +kernel)
theorem Dat.bool_ {K : PySem.W.Frag} {H : Hp} {v : V} {T : String} (d : Dat K H v T) : PySem.W.kitOne K (.type T) (.type "bool") = some (isBlV v) := by
  cases d with
  | non => exact kit_ty (r := false) (by decide +kernel)
  | bl b => exact kit_ty (r := true) (by decide +kernel)
  | int i => exact kit_ty (r := false) (by decide +kernel)
  | str z => exact kit_ty (r := false) (by decide +kernel)
  | lst h => exact kit_ty (r := false) (by decide +kernel)
  | tup h => exact kit_ty (r := false) (by decide +kernel)
  | dct h => exact kit_ty (r := false) (by decide +kernel)
theorem Dat.dict_ {K : PySem.W.Frag} {H : Hp} {v : V} {T : String} (d : Dat K H v T) : PySem.W.kitOne K (.type T) (.type "dict") = some (decide (T = "dict")) := by
  cases d with
  | non => exact kit_ty (r := false) (by decide +kernel)
  | bl b => exact kit_ty (r := false) (by decide +kernel)
  | int i => exact kit_ty (r := false) (by decide +kernel)
  | str z => exact kit_ty (r := false) (by decide +kernel)
  | lst h => exact kit_ty (r := false) (by decide +kernel)
  | tup h => exact kit_ty (r := false) (by decide +kernel)
  | dct h => exact kit_ty (r := true) (by decide +kernel)
/-- an integer, no bool, of at least l -/
def isGe (v : V) (l : Int) : Bool := match v with
  | .int i => decide (l ≤ i)
  | _ => false
/-! ### what is raised -/
inductive Err where
  | e0 (C : Addr)
  | e1 (C : Addr) (f : Str) (v : V)
/-- the way out of such an error, from the heap H -/
def Out (H : Hp) (E : XK) : Err → Prop
  | .e0 C => ∀ H', Same H H' → E (.ref C) none H'
  | .e1 C f v => ∀ d H', Same H H' → H d = none → H' d = some (.xd [(f, v)]) → E (.ref C) (some d) H'
theorem Out.mono {H H1 : Hp} {E : XK} {e : Err} (s : Same H H1) (o : Out H E e) : Out H1 E e := by
  cases e with
  | e0 C => exact fun H' s' => o H' (s.trans s')
  | e1 C f v => exact fun d H' s' n => o d H' (s.trans s') (s.free n)
/-- raise C(v) in a def that lets it out -/
theorem out1 {C : Addr} {f : Str} {v : V} {H H1 : Hp} {E : XK} (o : Out H E (.e1 C f v)) (s : Same H H1) :
    [v].length ≤ 1000 ∧ ∀ a, H1 a = none → spInit1 C f (.ref a :: ([v] ++ [])) (upd H1 a (exo a C none))
      (fun w H2 => w = .non ∧ ∃ (d : Addr) (fs : List (Str × V)), H2 a = some (exo a C (some d)) ∧ H2 d = some (exd d fs) ∧ H1 d = none ∧ E (.ref C) (some d) (upd (del H2 a) d (.xd fs))) (fun _ _ _ => False) :=
  raise1 (Q := fun cls d H' => E cls d H') fun d nd => o d _ (s.trans (same_new nd)) (s.free nd) upd_same
theorem out0 {C : Addr} {H H1 : Hp} {E : XK} (o : Out H E (.e0 C)) (s : Same H H1) :
    ([] : List V).length ≤ 1000 ∧ ∀ a, H1 a = none → spInit0 C (.ref a :: ([] ++ [])) (upd H1 a (exo a C none)) (fun v H2 => v = .non ∧ H2 a = some (exo a C none) ∧ E (.ref C) none (del H2 a)) (fun _ _ _ => False) :=
  raise0 (Q := fun cls d H' => E cls d H') (o _ s)
/-! ### numbers by places -/
def tblI (l : List Str) (g : Str → Int) : List (Key × V) := kvT (l.map fun a => (a, V.int (g a)))
theorem tblI_len (l : List Str) (g : Str → Int) : (tblI l g).length = l.length := by unfold tblI; rw [kvT_len, List.length_map]
theorem tblI_fst (l : List Str) (g : Str → Int) : (l.map fun a => (a, V.int (g a))).map Prod.fst = l := by rw [List.map_map]; exact List.map_id _
theorem tblI_keys (l : List Str) (g : Str → Int) : (tblI l g).map (·.1) = l.map Sum.inr := by unfold tblI kvT; rw [List.map_map, List.map_map] <;> rfl
theorem tblI_at {l : List Str} {g : Str → Int} {i : Nat} {k : Key} {v : V} (h : (tblI l g)[i]? = some (k, v)) : ∃ a, l[i]? = some a ∧ k = Sum.inr a ∧ v = .int (g a) := by
  unfold tblI kvT at h
  rw [List.map_map, List.getElem?_map] at h
  obtain ⟨a, ha, e⟩ := Option.map_eq_some_iff.mp h
  cases e
  exact ⟨a, ha, rfl, rfl⟩
theorem tblI_val {l : List Str} {g : Str → Int} {a : Str} (h : a ∈ l) : valV (tblI l g) (Sum.inr a) = some (.int (g a)) := by
  unfold tblI
  rw [kvT_val]
  induction l with
  | nil => cases h
  | cons b l ih =>
    rw [List.map_cons, look_cons]
    by_cases e : b = a
    · subst e
      exact if_pos rfl
    · rw [if_neg e]
      exact ih ((List.mem_cons.mp h).resolve_left fun z => e z.symm)
theorem tblI_put {l : List Str} {g : Str → Int} {a : Str} {z : Int} (h : a ∈ l) : putK (tblI l g) (Sum.inr a) (.int z) = tblI l (fun p => if p = a then z else g p) := by
  unfold tblI
  rw [kvT_putT]
  unfold putT
  rw [if_pos (by rw [tblI_fst]; exact h), List.map_map]
  congr 1
  refine List.map_congr_left fun p _ => ?_
  show (if p = a then (p, V.int z) else (p, V.int (g p))) = (p, V.int (if p = a then z else g p))
  by_cases e : p = a
  · rw [if_pos e, if_pos e]
  · rw [if_neg e, if_neg e]
theorem tblI_snoc {l : List Str} {g : Str → Int} {a : Str} {z : Int} (h : a ∉ l) (e : z = g a) : putK (tblI l g) (Sum.inr a) (.int z) = tblI (l ++ [a]) g := by
  unfold tblI
  rw [kvT_put (by rw [tblI_fst]; exact h), List.map_append, e] <;> rfl
theorem tblI_congr {l : List Str} {g g' : Str → Int} (h : ∀ a ∈ l, g a = g' a) : tblI l g = tblI l g' := by
  unfold tblI
  rw [List.map_congr_left fun a ha => by rw [h a ha]]
/-! ### feasible sizes -/
/-- sizes: a dict, its pairs told, or another value -/
def SzV (K : PySem.W.Frag) (H : Hp) (sv : V) : Option (List (Key × V)) → Prop
  | some kvs => ∃ q, sv = .ref q ∧ H q = some (.dK kvs) ∧ ∀ p ∈ kvs, IsDat K H p.2
  | none => ∃ T, Dat K H sv T ∧ T ≠ "dict"
theorem SzV.mono {K : PySem.W.Frag} {H H' : Hp} {sv : V} {o : Option (List (Key × V))} (s : Same H H') (h : SzV K H sv o) : SzV K H' sv o := by
  cases o with
  | none => exact let ⟨T, d, n⟩ := h; ⟨T, d.mono s, n⟩
  | some kvs => exact let ⟨q, e, h, a⟩ := h; ⟨q, e, s _ _ h, fun p hp => (a p hp).mono s⟩
def szOf (kvs : List (Key × V)) (a : Str) : Int := match valV kvs (Sum.inr a) with
  | some (.int i) => i
  | _ => 0
def badKey (kvs : List (Key × V)) (a : Str) : Bool := !isGe ((valV kvs (Sum.inr a)).getD .non) 0
/-- the place of the first fault, as the error tells it -/
def feas (ts : List (Str × Str)) (n : Int) : Option (List (Key × V)) → Option V
  | none => some .non
  | some kvs => if kvs.length ≠ ts.length then some .non else if (ts.map Prod.fst).all (fun a => (valV kvs (Sum.inr a)).isSome) = false then some .non else
    match (ts.map Prod.fst).find? (badKey kvs) with
    | some a => some (.str a)
    | none => ((("" : Str) :: ts.map Prod.fst).find? fun p => decide (resid ts n (szOf kvs) p < 0)).map V.str
def usersOk (v : V) (m : Int) : Bool := match v with
  | .int i => decide (1 ≤ i) && decide (i ≤ m)
  | _ => false
def feE (CS : Addr) (ts : List (Str × Str)) (n : Int) (o : Option (List (Key × V))) : Option Err := (feas ts n o).map fun v => .e1 CS "place" v
def szE (CU CS : Addr) (ts : List (Str × Str)) (uv : V) (o : Option (List (Key × V))) : Option Err := if usersOk uv (10 ^ 30) = true then feE CS ts (match uv with | .int n => n | _ => 0) o else some (.e0 CU)
/-- a def that hands back None, or raises -/
def Res (H : Hp) (Q : VK) (E : XK) : Option Err → Prop
  | none => ∀ H', Same H H' → Q .non H'
  | some e => Out H E e
theorem Res.mono {H H1 : Hp} {Q : VK} {E : XK} {o : Option Err} (s : Same H H1) (r : Res H Q E o) : Res H1 Q E o := by
  cases o with
  | none => exact fun H' s' => r H' (s.trans s')
  | some e => exact Out.mono s r
def spIsInt (K : PySem.W.Frag) : Sp := fun vs H Q _ => ∃ (v : V) (l : Int), vs = [v, .int l] ∧ IsDat K H v ∧ Q (.bl (isGe v l)) H
def spUsers (K : PySem.W.Frag) (CU : Addr) : Sp := fun vs H Q E => ∃ (v : V) (m : Int), vs = [v, .int m] ∧ IsDat K H v ∧ Res H Q E (if usersOk v m = true then none else some (.e0 CU))
def spResid (CF : Addr) : Sp := fun vs H Q _ => ∃ (x q : Addr) (n : Int) (ts : List (Str × Str)) (kvs : List (Key × V)), vs = [.ref x, .int n, .ref q] ∧ FAt CF H x ts ∧ TreeOk ts ∧ H q = some (.dK kvs) ∧ (∀ a ∈ ts.map Prod.fst, valV kvs (Sum.inr a) = some (.int (szOf kvs a))) ∧
  ∀ p H', Same H H' → H p = none → H' p = some (.dK (tblI ("" :: ts.map Prod.fst) (resid ts n (szOf kvs)))) → Q (.ref p) H'
def spFeas (K : PySem.W.Frag) (CF CS : Addr) : Sp := fun vs H Q E => ∃ (x : Addr) (n : Int) (sv : V) (ts : List (Str × Str)) (o : Option (List (Key × V))), vs = [.ref x, .int n, sv] ∧ FAt CF H x ts ∧ TreeOk ts ∧ SzV K H sv o ∧ Res H Q E (feE CS ts n o)
def spNSizes (K : PySem.W.Frag) (CF CU CS : Addr) : Sp := fun vs H Q E => ∃ (x : Addr) (uv sv : V) (ts : List (Str × Str)) (o : Option (List (Key × V))), vs = [.ref x, uv, sv] ∧ FAt CF H x ts ∧ TreeOk ts ∧ IsDat K H uv ∧ SzV K H sv o ∧ Res H Q E (szE CU CS ts uv o)
end FT


namespace FT
open PySem L2 TL ClX
theorem valV_mem {kvs : List (Key × V)} {k : Key} {v : V} (h : valV kvs k = some v) : (k, v) ∈ kvs := by
  unfold valV at h
  obtain ⟨p, hp, e⟩ := Option.map_eq_some_iff.mp h
  have m := List.mem_of_find?_eq_some hp
  have q : p.1 = k := of_decide_eq_true (List.find?_some (p := fun kv : Key × V => decide (kv.1 = k)) hp)
  obtain ⟨k', v'⟩ := p
  cases e
  cases (show k' = k from q)
  exact m
theorem feas_some (ts : List (Str × Str)) (n : Int) (kvs : List (Key × V)) : feas ts n (some kvs) = if kvs.length ≠ ts.length then some .non else if (ts.map Prod.fst).all (fun a => (valV kvs (Sum.inr a)).isSome) = false then some .non else
    match (ts.map Prod.fst).find? (badKey kvs) with
    | some a => some (.str a)
    | none => ((("" : Str) :: ts.map Prod.fst).find? fun p => decide (resid ts n (szOf kvs) p < 0)).map V.str := rfl
theorem find_at {α : Type} {p : α → Bool} : ∀ {l : List α} {j : Nat} {a : α}, l[j]? = some a → (l.take j).find? p = none → p a = true → l.find? p = some a
  | [], j, a, h, _, _ => by simp at h
  | x :: l, 0, a, h, _, hp => by
    have e : x = a := Option.some.inj h
    subst e
    rw [List.find?_cons, hp]
  | x :: l, j + 1, a, h, hn, hp => by
    have hn' : (x :: l.take j).find? p = none := hn
    rw [List.find?_cons] at hn' ⊢
    cases e : p x with
    | true =>
      rw [e] at hn'
      cases hn'
    | false =>
      rw [e] at hn'
      exact find_at h hn' hp
theorem find_more {α : Type} {p : α → Bool} {l : List α} {j : Nat} {a : α} (h : l[j]? = some a) (hn : (l.take j).find? p = none) (hp : p a = false) : (l.take (j + 1)).find? p = none := by
  rw [take_more h, List.find?_append, hn]
  show [a].find? p = none
  rw [List.find?_cons, hp] <;> rfl
theorem len_int {a b : Nat} : decide (V.int (a : Int) = V.int (b : Int)) = decide (a = b) := by
  rw [Bool.eq_iff_iff, decide_eq_true_eq, decide_eq_true_eq]
  constructor
  · intro h
    have := V.int.inj h
    omega
  · intro h
    rw [h]
end FT


namespace FT
open PySem L2 TL ClX
theorem feE_none {CS : Addr} {ts : List (Str × Str)} {n : Int} : feE CS ts n none ≠ none := fun h => nomatch h
theorem feE_ok {CS : Addr} {ts : List (Str × Str)} {n : Int} {kvs : List (Key × V)} (h : feE CS ts n (some kvs) = none) : kvs.length = ts.length ∧ (∀ a ∈ ts.map Prod.fst, valV kvs (Sum.inr a) = some (.int (szOf kvs a)) ∧ 0 ≤ szOf kvs a) ∧ ∀ p ∈ (("" : Str) :: ts.map Prod.fst), 0 ≤ resid ts n (szOf kvs) p := by
  unfold feE at h
  rw [feas_some] at h
  by_cases el : kvs.length = ts.length
  · rw [if_neg (fun z => z el)] at h
    cases ea : (ts.map Prod.fst).all fun a => (valV kvs (Sum.inr a)).isSome with
    | false =>
      rw [if_pos ea] at h
      cases h
    | true =>
      rw [if_neg (by rw [ea]; decide)] at h
      cases eb : (ts.map Prod.fst).find? (badKey kvs) with
      | some a =>
        rw [eb] at h
        cases h
      | none =>
        rw [eb] at h
        refine ⟨el, fun a ha => ?_, fun p hp => ?_⟩
        · obtain ⟨v, hv⟩ := Option.isSome_iff_exists.mp (List.all_eq_true.mp ea a ha)
          have g := List.find?_eq_none.mp eb a ha
          unfold badKey at g
          rw [hv] at g
          unfold szOf
          rw [hv]
          cases v with
          | int i =>
            refine ⟨rfl, ?_⟩
            show 0 ≤ i
            have g' : ¬ (!decide ((0 : Int) ≤ i)) = true := g
            by_cases z : (0 : Int) ≤ i
            · exact z
            · rw [decide_eq_false z] at g'
              exact absurd rfl g'
          | _ => exact absurd rfl g
        · cases ef : ((("" : Str) :: ts.map Prod.fst).find? fun p => decide (resid ts n (szOf kvs) p < 0)) with
          | some p =>
            rw [ef] at h
            cases h
          | none =>
            have z := List.find?_eq_none.mp ef p hp
            have z' : ¬ resid ts n (szOf kvs) p < 0 := fun q => z (decide_eq_true q)
            omega
  · rw [if_pos el] at h
    cases h
def kvsOf (o : Option (List (Key × V))) : List (Key × V) := o.getD []
def numV (v : V) : Int := match v with
  | .int n => n
  | _ => 0
/-- what amounts raises -/
def amE (CU CS : Addr) (ts : List (Str × Str)) (uv : V) (o1 o2 : Option (List (Key × V))) : Option Err := (szE CU CS ts uv o1).or (feE CS ts (numV uv) o2)
def amt (o1 o2 : Option (List (Key × V))) (a : Str) : Int := szOf (kvsOf o2) a - szOf (kvsOf o1) a
def absI (z : Int) : Int := if z < 0 then -z else z
def spAmtOf (CF : Addr) : Sp := fun vs H Q _ => ∃ (x q1 q2 : Addr) (ts : List (Str × Str)) (k1 k2 : List (Key × V)), vs = [.ref x, .ref q1, .ref q2] ∧ FAt CF H x ts ∧ TreeOk ts ∧ H q1 = some (.dK k1) ∧ H q2 = some (.dK k2) ∧
  (∀ a ∈ ts.map Prod.fst, valV k1 (Sum.inr a) = some (.int (szOf k1 a))) ∧ (∀ a ∈ ts.map Prod.fst, valV k2 (Sum.inr a) = some (.int (szOf k2 a))) ∧
  ∀ p H', Same H H' → H p = none → H' p = some (.dK (tblI (ts.map Prod.fst) fun a => szOf k2 a - szOf k1 a)) → Q (.ref p) H'
def spAmounts (K : PySem.W.Frag) (CF CU CS : Addr) : Sp := fun vs H Q E => ∃ (x : Addr) (uv sv nv : V) (ts : List (Str × Str)) (o1 o2 : Option (List (Key × V))), vs = [.ref x, uv, sv, nv] ∧ FAt CF H x ts ∧ TreeOk ts ∧ IsDat K H uv ∧ SzV K H sv o1 ∧ SzV K H nv o2 ∧
  match amE CU CS ts uv o1 o2 with
  | none => ∀ p H', Same H H' → H p = none → H' p = some (.dK (tblI (ts.map Prod.fst) (amt o1 o2))) → Q (.ref p) H'
  | some e => Out H E e
def spLeast (K : PySem.W.Frag) (CF CU CS : Addr) : Sp := fun vs H Q E => ∃ (x : Addr) (uv sv nv : V) (ts : List (Str × Str)) (o1 o2 : Option (List (Key × V))), vs = [.ref x, uv, sv, nv] ∧ FAt CF H x ts ∧ TreeOk ts ∧ IsDat K H uv ∧ SzV K H sv o1 ∧ SzV K H nv o2 ∧
  match amE CU CS ts uv o1 o2 with
  | none => ∀ H', Same H H' → Q (.int ((ts.map Prod.fst).map fun a => absI (amt o1 o2 a)).sum) H'
  | some e => Out H E e
end FT


namespace FT
open PySem L2 TL ClX LiI
/-! ### crossings -/
def crs (g : Str → Int) (ts : List (Str × Str)) : List (Str × Str × Int) := ts.flatMap fun p => if 0 < g p.1 then [(p.2, p.1, g p.1)] else if g p.1 < 0 then [(p.1, p.2, - g p.1)] else []
def EdG (H : Hp) (rs : List Addr) (es : List (Str × Str × Int)) : Prop := Paired (fun (r : Addr) (e : Str × Str × Int) => H r = some (.tup [.str e.1, .str e.2.1, .int e.2.2])) rs es
theorem EdG.mono {H H' : Hp} (s : Same H H') : ∀ {rs : List Addr} {es : List (Str × Str × Int)}, EdG H rs es → EdG H' rs es
  | _, _, .nil => .nil
  | _, _, .cons h t => .cons (s _ _ h) (EdG.mono s t)
theorem EdG.push {H : Hp} {D : Addr} {xs : List V} {o : HO} (e : H D = some (.lst xs)) : ∀ {rs : List Addr} {es : List (Str × Str × Int)}, EdG H rs es → EdG (upd H D o) rs es
  | _, _, .nil => .nil
  | _, _, .cons h t => .cons (by rw [upd_ne (ne_of h e (by intro z; cases z))]; exact h) (EdG.push e t)
theorem EdG.snoc {H : Hp} {r : Addr} {e : Str × Str × Int} (h : H r = some (.tup [.str e.1, .str e.2.1, .int e.2.2])) : ∀ {rs : List Addr} {es : List (Str × Str × Int)}, EdG H rs es → EdG H (rs ++ [r]) (es ++ [e])
  | _, _, .nil => .cons h .nil
  | _, _, .cons q t => .cons q (EdG.snoc h t)
theorem EdG.len {H : Hp} : ∀ {rs : List Addr} {es : List (Str × Str × Int)}, EdG H rs es → rs.length = es.length
  | _, _, .nil => rfl
  | _, _, .cons _ t => congrArg (· + 1) (EdG.len t)
theorem EdG.at_ {H : Hp} {rs : List Addr} {es : List (Str × Str × Int)} (p : EdG H rs es) {i : Nat} {r : Addr} (h : rs[i]? = some r) : ∃ e, es[i]? = some e ∧ H r = some (.tup [.str e.1, .str e.2.1, .int e.2.2]) := LiI.paired_get p h
theorem crs_snoc (g : Str → Int) (ts : List (Str × Str)) (p : Str × Str) : crs g (ts ++ [p]) = crs g ts ++ (if 0 < g p.1 then [(p.2, p.1, g p.1)] else if g p.1 < 0 then [(p.1, p.2, - g p.1)] else []) := by
  unfold crs
  rw [List.flatMap_append, List.flatMap_cons, List.flatMap_nil, List.append_nil]
theorem crs_len (g : Str → Int) : ∀ ts : List (Str × Str), (crs g ts).length ≤ ts.length
  | [] => Nat.le_refl _
  | p :: ts => by
    unfold crs
    rw [List.flatMap_cons, List.length_append, List.length_cons]
    have i := crs_len g ts
    unfold crs at i
    have : (if 0 < g p.1 then [(p.2, p.1, g p.1)] else if g p.1 < 0 then [(p.1, p.2, - g p.1)] else []).length ≤ 1 := by
      split
      · exact Nat.le_refl _
      · split
        · exact Nat.le_refl _
        · exact Nat.zero_le _
    omega
def spCross (CF : Addr) : Sp := fun vs H Q _ => ∃ (x q : Addr) (ts : List (Str × Str)) (g : Str → Int), vs = [.ref x, .ref q] ∧ FAt CF H x ts ∧ TreeOk ts ∧ H q = some (.dK (tblI (ts.map Prod.fst) g)) ∧
  ∀ p rs H', Same H H' → H p = none → H' p = some (.lst (rs.map V.ref)) → EdG H' rs (crs g ts) → Q (.ref p) H'
end FT


/-! plain: lists of users by place, how a change of sizes moves them, that the way back restores them. No program here. -/
namespace FT
open PySem L2 TL
/-! ### sums -/
theorem sum_map_add {α : Type} (f g : α → Int) : ∀ l : List α, (l.map fun x => f x + g x).sum = (l.map f).sum + (l.map g).sum
  | [] => rfl
  | a :: l => by
    rw [List.map_cons, List.map_cons, List.map_cons, List.sum_cons, List.sum_cons, List.sum_cons, sum_map_add f g l]
    omega
theorem sum_map_sub {α : Type} (f g : α → Int) : ∀ l : List α, (l.map fun x => f x - g x).sum = (l.map f).sum - (l.map g).sum
  | [] => rfl
  | a :: l => by
    rw [List.map_cons, List.map_cons, List.map_cons, List.sum_cons, List.sum_cons, List.sum_cons, sum_map_sub f g l]
    omega
theorem sum_map_mul {α : Type} (f : α → Int) (c : Int) : ∀ l : List α, (l.map fun x => c * f x).sum = c * (l.map f).sum
  | [] => by simp
  | a :: l => by
    rw [List.map_cons, List.map_cons, List.sum_cons, List.sum_cons, sum_map_mul f c l, Int.mul_add]
theorem sum_map_zero {α : Type} {f : α → Int} : ∀ {l : List α}, (∀ x ∈ l, f x = 0) → (l.map f).sum = 0
  | [], _ => rfl
  | a :: l, h => by
    rw [List.map_cons, List.sum_cons, h a (List.mem_cons_self ..), sum_map_zero fun x hx => h x (List.mem_cons_of_mem _ hx)]
    rfl
theorem sum_swap {α β : Type} (f : α → β → Int) (m : List β) : ∀ l : List α, (l.map fun x => (m.map fun y => f x y).sum).sum = (m.map fun y => (l.map fun x => f x y).sum).sum
  | [] => by
    rw [sum_map_zero (l := m) (f := fun y => (([] : List α).map fun x => f x y).sum) fun _ _ => rfl] <;> rfl
  | a :: l => by
    rw [List.map_cons, List.sum_cons, sum_swap f m l, ← sum_map_add] <;> rfl
theorem sum_one {α : Type} [DecidableEq α] {f : α → Int} {a : α} : ∀ {l : List α}, l.Nodup → (l.map fun x => if x = a then f x else 0).sum = if a ∈ l then f a else 0
  | [], _ => rfl
  | b :: l, nd => by
    obtain ⟨n1, n2⟩ := List.nodup_cons.mp nd
    rw [List.map_cons, List.sum_cons, sum_one n2]
    by_cases e : b = a
    · subst e
      rw [if_pos rfl, if_neg n1, if_pos (List.mem_cons_self ..)]
      omega
    · rw [if_neg e, Int.zero_add]
      by_cases m : a ∈ l
      · rw [if_pos m, if_pos (List.mem_cons_of_mem _ m)]
      · rw [if_neg m, if_neg fun z => (List.mem_cons.mp z).elim (fun z => e z.symm) m]
/-! ### places, neighbours -/
def pls (ts : List (Str × Str)) : List Str := "" :: ts.map Prod.fst
theorem pls_nd {ts : List (Str × Str)} (o : TreeOk ts) : (pls ts).Nodup := List.nodup_cons.mpr ⟨o.root, o.nd⟩
theorem mem_pls {ts : List (Str × Str)} {a : Str} : a ∈ pls ts ↔ Pl ts a := List.mem_cons
theorem pls_len (ts : List (Str × Str)) : (pls ts).length = ts.length + 1 := by unfold pls; rw [List.length_cons, List.length_map]
theorem kids_cons (q : Str × Str) (ts : List (Str × Str)) (p : Str) : kids (q :: ts) p = (if q.2 = p then [q.1] else []) ++ kids ts p := by
  unfold kids
  rw [List.filter_cons]
  by_cases e : q.2 = p
  · rw [if_pos e, if_pos (decide_eq_true e)] <;> rfl
  · rw [if_neg e, if_neg (by rw [decide_eq_false e]; decide)] <;> rfl
/-- a sum over the children of places is a sum over the flags -/
theorem kids_sum {F : List Str} (nd : F.Nodup) (f : Str → Str → Int) : ∀ ts : List (Str × Str), (F.map fun p => ((kids ts p).map fun k => f k p).sum).sum = (ts.map fun q => if q.2 ∈ F then f q.1 q.2 else 0).sum
  | [] => sum_map_zero fun _ _ => rfl
  | q :: ts => by
    rw [List.map_cons, List.sum_cons, ← kids_sum nd f ts]
    rw [show (F.map fun p => ((kids (q :: ts) p).map fun k => f k p).sum) = F.map fun p => (if p = q.2 then f q.1 p else 0) + ((kids ts p).map fun k => f k p).sum from List.map_congr_left fun p _ => ?_, sum_map_add, sum_one nd]
    rw [kids_cons, List.map_append, List.sum_append]
    by_cases e : q.2 = p
    · rw [if_pos e, if_pos e.symm]
      show f q.1 p + 0 + _ = _
      omega
    · rw [if_neg e, if_neg fun z => e z.symm] <;> rfl
theorem mem_kids {ts : List (Str × Str)} {k p : Str} : k ∈ kids ts p ↔ (k, p) ∈ ts := by
  unfold kids
  constructor
  · intro h
    obtain ⟨q, hq, e⟩ := List.mem_map.mp h
    obtain ⟨h1, h2⟩ := List.mem_filter.mp hq
    rw [← e, ← of_decide_eq_true h2]
    exact h1
  · exact fun h => List.mem_map.mpr ⟨_, List.mem_filter.mpr ⟨h, decide_eq_true rfl⟩, rfl⟩
theorem kid_par {ts : List (Str × Str)} (o : TreeOk ts) {k p : Str} : k ∈ kids ts p ↔ par ts k = some p := ⟨fun h => par_of o.nd (mem_kids.mp h), fun h => mem_kids.mpr (par_mem h)⟩
theorem kids_nd {ts : List (Str × Str)} (o : TreeOk ts) (p : Str) : (kids ts p).Nodup := o.nd.sublist ((List.filter_sublist (p := fun q : Str × Str => decide (q.2 = p)) (l := ts)).map Prod.fst)
theorem par_flag {ts : List (Str × Str)} {a z : Str} (h : par ts a = some z) : a ∈ ts.map Prod.fst := List.mem_map.mpr ⟨_, par_mem h, rfl⟩
theorem par_pl {ts : List (Str × Str)} (o : TreeOk ts) {a z : Str} (h : par ts a = some z) : Pl ts z := by
  obtain ⟨rk, r⟩ := o.up
  exact (r _ (par_mem h)).2.imp id And.left
theorem par_root {ts : List (Str × Str)} (o : TreeOk ts) : par ts "" = none := par_none o.root
/-- no flag is above its parent -/
theorem par_once {ts : List (Str × Str)} (o : TreeOk ts) {a b : Str} (h : par ts a = some b) (h2 : par ts b = some a) : False := by
  obtain ⟨rk, r⟩ := o.up
  have h3 := (r _ (par_mem h)).2
  have h4 := (r _ (par_mem h2)).2
  rcases h3 with e | ⟨_, h3⟩
  · have e : b = "" := e
    rw [e, par_root o] at h2
    cases h2
  · rcases h4 with e | ⟨_, h4⟩
    · have e : a = "" := e
      rw [e, par_root o] at h
      cases h
    · have h3 : rk b < rk a := h3
      have h4 : rk a < rk b := h4
      omega
/-- the other ends of the edges of a place -/
def adj (ts : List (Str × Str)) (p : Str) : List Str := (if p = "" then [] else [(par ts p).getD ""]) ++ kids ts p
theorem mem_adj {ts : List (Str × Str)} (o : TreeOk ts) {a b : Str} (h : Pl ts b) : a ∈ adj ts b ↔ par ts b = some a ∨ par ts a = some b := by
  unfold adj
  rw [List.mem_append, kid_par o]
  refine or_congr ?_ .rfl
  by_cases e : b = ""
  · subst e
    rw [if_pos rfl, par_root o]
    exact ⟨(fun z => nomatch z), (fun z => nomatch z)⟩
  · rw [if_neg e, List.mem_singleton]
    obtain ⟨z, hz⟩ := par_some o.nd (h.resolve_left e)
    rw [hz]
    exact ⟨fun q => by rw [q] <;> rfl, fun q => (Option.some.inj q).symm⟩
theorem adj_nd {ts : List (Str × Str)} (o : TreeOk ts) {p : Str} (h : Pl ts p) : (adj ts p).Nodup := by
  unfold adj
  by_cases e : p = ""
  · rw [if_pos e]
    exact kids_nd o p
  · rw [if_neg e]
    refine List.nodup_cons.mpr ⟨fun m => ?_, kids_nd o p⟩
    obtain ⟨z, hz⟩ := par_some o.nd (h.resolve_left e)
    rw [hz] at m
    exact par_once o hz ((kid_par o).mp m)
theorem adj_pl {ts : List (Str × Str)} (o : TreeOk ts) {a b : Str} (h : Pl ts b) (m : a ∈ adj ts b) : Pl ts a := by
  rcases (mem_adj o h).mp m with z | z
  · exact par_pl o z
  · exact .inr (par_flag z)
theorem adj_sym {ts : List (Str × Str)} (o : TreeOk ts) {a b : Str} (h : Pl ts b) (m : a ∈ adj ts b) : b ∈ adj ts a := (mem_adj o (adj_pl o h m)).mpr ((mem_adj o h).mp m).symm
/-! ### how many users cross an edge -/
def lv (ts : List (Str × Str)) (c : Str → Int) (p o : Str) : Nat := if par ts o = some p ∧ 0 < c o then (c o).toNat else if par ts p = some o ∧ c p < 0 then (- c p).toNat else 0
theorem lv_adj {ts : List (Str × Str)} (o : TreeOk ts) {c : Str → Int} {a b : Str} (h : 0 < lv ts c a b) : Pl ts a ∧ Pl ts b ∧ a ∈ adj ts b ∧ ((par ts b = some a ∧ 0 < c b) ∨ (par ts a = some b ∧ c a < 0)) := by
  unfold lv at h
  by_cases h1 : par ts b = some a ∧ 0 < c b
  · have hb : Pl ts b := .inr (par_flag h1.1)
    exact ⟨par_pl o h1.1, hb, (mem_adj o hb).mpr (.inl h1.1), .inl h1⟩
  · rw [if_neg h1] at h
    by_cases h2 : par ts a = some b ∧ c a < 0
    · have hb := par_pl o h2.1
      exact ⟨.inr (par_flag h2.1), hb, (mem_adj o hb).mpr (.inr h2.1), .inr h2⟩
    · rw [if_neg h2] at h
      omega
/-- what a place gets less what it gives -/
theorem lv_net {ts : List (Str × Str)} (o : TreeOk ts) (c : Str → Int) {p : Str} (h : Pl ts p) : ((adj ts p).map fun x => (lv ts c x p : Int)).sum - ((adj ts p).map fun x => (lv ts c p x : Int)).sum = (if p = "" then 0 else c p) - ((kids ts p).map c).sum := by
  have kid : ∀ k ∈ kids ts p, (lv ts c k p : Int) - (lv ts c p k : Int) = - c k := fun k hk => by
    have e := (kid_par o).mp hk
    have n : ¬ par ts p = some k := fun z => par_once o e z
    unfold lv
    rw [if_neg fun z => n z.1, if_neg (show ¬ (par ts p = some k ∧ c p < 0) from fun z => n z.1)]
    by_cases h1 : c k < 0
    · rw [if_pos ⟨e, h1⟩, if_neg fun z => by have := z.2; omega]
      omega
    · rw [if_neg fun z => h1 z.2]
      by_cases h2 : 0 < c k
      · rw [if_pos ⟨e, h2⟩]
        omega
      · rw [if_neg fun z => h2 z.2]
        omega
  have ks : ((kids ts p).map fun x => (lv ts c x p : Int)).sum - ((kids ts p).map fun x => (lv ts c p x : Int)).sum = - ((kids ts p).map c).sum := by
    rw [← sum_map_sub, List.map_congr_left kid]
    have := sum_map_mul c (-1) (kids ts p)
    rw [show (fun x => -1 * c x) = fun x => - c x from funext fun x => by omega] at this
    omega
  unfold adj
  rw [List.map_append, List.map_append, List.sum_append, List.sum_append]
  by_cases e : p = ""
  · rw [if_pos e, if_pos e]
    show (0 + _) - (0 + _) = _
    omega
  · rw [if_neg e, if_neg e]
    obtain ⟨z, hz⟩ := par_some o.nd (h.resolve_left e)
    rw [hz]
    have n : ¬ par ts z = some p := fun w => par_once o hz w
    have one : (lv ts c z p : Int) - (lv ts c p z : Int) = c p := by
      unfold lv
      rw [if_neg (show ¬ (par ts z = some p ∧ 0 < c z) from fun w => n w.1), if_neg (show ¬ (par ts z = some p ∧ c z < 0) from fun w => n w.1)]
      by_cases h1 : 0 < c p
      · rw [if_pos ⟨hz, h1⟩, if_neg fun w => by have := w.2; omega]
        omega
      · rw [if_neg fun w => h1 w.2]
        by_cases h2 : c p < 0
        · rw [if_pos ⟨hz, h2⟩]
          omega
        · rw [if_neg fun w => h2 w.2]
          omega
    show ((lv ts c z p : Int) + 0 + _) - ((lv ts c p z : Int) + 0 + _) = _
    omega
/-! ### an order of the places that all moves follow -/
def sg (z : Int) : Int := if 0 < z then 1 else if z < 0 then -1 else 0
def phi (ts : List (Str × Str)) (c : Str → Int) (p : Str) : Int := ((pathOf ts p).map fun x => sg (c x)).sum
theorem sg_sum (c : Str → Int) : ∀ l : List Str, - (l.length : Int) ≤ (l.map fun x => sg (c x)).sum
  | [] => by simp
  | a :: l => by
    have i := sg_sum c l
    rw [List.map_cons, List.sum_cons, List.length_cons]
    have : -1 ≤ sg (c a) := by unfold sg; split <;> (try split) <;> omega
    omega
def lvl (ts : List (Str × Str)) (c : Str → Int) (p : Str) : Nat := (phi ts c p + 12).toNat
theorem lvl_up {ts : List (Str × Str)} (o : TreeOk ts) {c : Str → Int} {a b : Str} (h : 0 < lv ts c a b) : lvl ts c a < lvl ts c b := by
  have low : ∀ p, 0 ≤ phi ts c p + 12 := fun p => by
    have h1 := sg_sum c (pathOf ts p)
    have h2 := path_len ts p
    have h3 := o.few
    unfold phi
    omega
  have key : phi ts c a < phi ts c b := by
    obtain ⟨_, _, _, h1 | h1⟩ := lv_adj o h
    · unfold phi
      rw [path_step o (par_flag h1.1) h1.1, List.map_append, List.sum_append]
      show _ < _ + (sg (c b) + 0)
      have : sg (c b) = 1 := if_pos h1.2
      omega
    · unfold phi
      rw [path_step o (par_flag h1.1) h1.1, List.map_append, List.sum_append]
      show _ + (sg (c a) + 0) < _
      have : sg (c a) = -1 := by
        have h2 := h1.2
        unfold sg
        rw [if_neg (by omega), if_pos h2]
      omega
  have := low a
  unfold lvl
  omega
/-! ### a change moves the lists -/
/-- groups that come to a place, in the order in which they are put behind its list -/
def ins (ts : List (Str × Str)) (G : Str → Str → List Int) (p : Str) : List Int := ((adj ts p).reverse.map fun o => G o p).flatten
/-- groups that leave a place -/
def outs (ts : List (Str × Str)) (G : Str → Str → List Int) (p : Str) : List Int := ((adj ts p).reverse.map fun o => G p o).flatten
def Moved (ts : List (Str × Str)) (c : Str → Int) (L L' : Str → List Int) : Prop := ∃ G : Str → Str → List Int, (∀ p, Pl ts p → ∀ o ∈ adj ts p, (G p o).length = lv ts c p o) ∧ ∀ p, Pl ts p → L p ++ ins ts G p = L' p ++ outs ts G p
theorem flat_len {α β : Type} (f : α → List β) : ∀ l : List α, (l.map f).flatten.length = (l.map fun x => (f x).length).sum
  | [] => rfl
  | a :: l => by rw [List.map_cons, List.flatten_cons, List.length_append, flat_len f l] <;> rfl
theorem flat_inj {α β : Type} {f g : α → List β} : ∀ {l : List α}, (∀ x ∈ l, (f x).length = (g x).length) → (l.map f).flatten = (l.map g).flatten → ∀ x ∈ l, f x = g x
  | [], _, _, x, h => nomatch h
  | a :: l, hl, e, x, h => by
    rw [List.map_cons, List.map_cons, List.flatten_cons, List.flatten_cons] at e
    obtain ⟨e1, e2⟩ := List.append_inj e (hl a (List.mem_cons_self ..))
    rcases List.mem_cons.mp h with rfl | h
    · exact e1
    · exact flat_inj (fun y hy => hl y (List.mem_cons_of_mem _ hy)) e2 x h
theorem flat_congr {α β : Type} {f g : α → List β} {l : List α} (h : ∀ x ∈ l, f x = g x) : (l.map f).flatten = (l.map g).flatten := by rw [List.map_congr_left h]
/-- a change leads to one result -/
theorem moved_one {ts : List (Str × Str)} (o : TreeOk ts) {c : Str → Int} {L A B : Str → List Int} (ma : Moved ts c L A) (mb : Moved ts c L B) : ∀ p, Pl ts p → A p = B p := by
  obtain ⟨G, g1, g2⟩ := ma
  obtain ⟨G', g1', g2'⟩ := mb
  have key : ∀ (n : Nat) (p : Str), lvl ts c p < n → Pl ts p → A p = B p ∧ ∀ q ∈ adj ts p, G p q = G' p q := by
    intro n
    induction n with
    | zero => exact fun p h => absurd h (Nat.not_lt_zero _)
    | succ n ih =>
      intro p hn hp
      have ei : ins ts G p = ins ts G' p := flat_congr fun q hq => by
        have hq := List.mem_reverse.mp hq
        have hq2 := adj_pl o hp hq
        have l1 := g1 q hq2 p (adj_sym o hp hq)
        have l2 := g1' q hq2 p (adj_sym o hp hq)
        rcases Nat.eq_zero_or_pos (lv ts c q p) with z | z
        · rw [z] at l1 l2
          rw [List.length_eq_zero_iff.mp l1, List.length_eq_zero_iff.mp l2]
        · have lt := lvl_up o z
          exact (ih q (by omega) hq2).2 p (adj_sym o hp hq)
      have e := (g2 p hp).symm.trans ((congrArg (L p ++ ·) ei).trans (g2' p hp))
      have hl : ∀ q ∈ (adj ts p).reverse, (G p q).length = (G' p q).length := fun q hq => by
        have hq := List.mem_reverse.mp hq
        rw [g1 p hp q hq, g1' p hp q hq]
      have el : (outs ts G p).length = (outs ts G' p).length := by
        unfold outs
        rw [flat_len, flat_len, List.map_congr_left hl]
      obtain ⟨e1, e2⟩ := List.append_inj' e el
      exact ⟨e1, fun q hq => flat_inj hl e2 q (List.mem_reverse.mpr hq)⟩
  exact fun p hp => (key _ p (Nat.lt_succ_self _) hp).1
theorem int_sum (l : List Nat) : ((l.sum : Nat) : Int) = (l.map fun x : Nat => (x : Int)).sum := by
  induction l with
  | nil => rfl
  | cons a l ih =>
    rw [List.sum_cons, List.map_cons, List.sum_cons, ← ih]
    omega
theorem sum_rev (l : List Int) : l.reverse.sum = l.sum := sum_perm (List.reverse_perm l)
theorem ins_len {ts : List (Str × Str)} (G : Str → Str → List Int) (p : Str) : ((ins ts G p).length : Int) = ((adj ts p).map fun o => ((G o p).length : Int)).sum := by
  unfold ins
  rw [flat_len, int_sum, List.map_map, List.map_reverse, sum_rev] <;> rfl
theorem outs_len {ts : List (Str × Str)} (G : Str → Str → List Int) (p : Str) : ((outs ts G p).length : Int) = ((adj ts p).map fun o => ((G p o).length : Int)).sum := by
  unfold outs
  rw [flat_len, int_sum, List.map_map, List.map_reverse, sum_rev] <;> rfl
/-- the lengths are the residents -/
def Lens (ts : List (Str × Str)) (n : Int) (sz : Str → Int) (L : Str → List Int) : Prop := ∀ p, Pl ts p → ((L p).length : Int) = resid ts n sz p
theorem moved_lens {ts : List (Str × Str)} (o : TreeOk ts) {n : Int} {sz c : Str → Int} {L L' : Str → List Int} (m : Moved ts c L L') (h : Lens ts n sz L) : Lens ts n (fun x => sz x + c x) L' := by
  obtain ⟨G, g1, g2⟩ := m
  intro p hp
  have e := congrArg (fun l : List Int => (l.length : Int)) (g2 p hp)
  have e : ((L p ++ ins ts G p).length : Int) = ((L' p ++ outs ts G p).length : Int) := e
  rw [List.length_append, List.length_append, Int.natCast_add, Int.natCast_add, ins_len, outs_len, h p hp, List.map_congr_left (fun q hq => by rw [g1 q (adj_pl o hp hq) p (adj_sym o hp hq)]),
    List.map_congr_left (l := adj ts p) (f := fun o => ((G p o).length : Int)) (fun q hq => by rw [g1 p hp q hq])] at e
  have net := lv_net o c hp
  show _ = (if p = "" then n else sz p + c p) - ((kids ts p).map fun x => sz x + c x).sum
  unfold resid at e
  rw [sum_map_add]
  by_cases z : p = ""
  · rw [if_pos z] at e net ⊢
    omega
  · rw [if_neg z] at e net ⊢
    omega
end FT


/-! plain: sizes of lists; every user at one place; a user's way through the tree. -/
namespace FT
open PySem L2 TL
/-! ### sizes and lengths -/
def under (ts : List (Str × Str)) (a : Str) : List Str := (ts.map Prod.fst).filter fun b => decide (a ∈ pathOf ts b)
def lsz (ts : List (Str × Str)) (L : Str → List Int) (a : Str) : Int := ((under ts a).map fun b => ((L b).length : Int)).sum
theorem sum_filter {α : Type} (c : α → Bool) (f : α → Int) : ∀ l : List α, ((l.filter c).map f).sum = (l.map fun x => if c x = true then f x else 0).sum
  | [] => rfl
  | a :: l => by
    rw [List.filter_cons, List.map_cons, List.sum_cons, ← sum_filter c f l]
    by_cases e : c a = true
    · rw [if_pos e, if_pos e, List.map_cons, List.sum_cons]
    · rw [if_neg e, if_neg e, Int.zero_add]
/-- the paths' flags rank no higher -/
theorem path_rank {ts : List (Str × Str)} (o : TreeOk ts) {rk : Str → Nat} (r : Rk ts rk) : ∀ (n : Nat) (a : Str), Pl ts a → (a ≠ "" → rk a < n) → ∀ z ∈ pathOf ts a, rk z ≤ rk a := by
  intro n
  induction n with
  | zero =>
    intro a ha h z hz
    by_cases e : a = ""
    · subst e
      rw [path_root] at hz
      cases hz
    · exact absurd (h e) (Nat.not_lt_zero _)
  | succ n ih =>
    intro a ha h z hz
    by_cases e : a = ""
    · subst e
      rw [path_root] at hz
      cases hz
    · obtain ⟨p, ep, hp, _⟩ := o.step r (ha.resolve_left e)
      rw [path_step o (ha.resolve_left e) ep] at hz
      rcases List.mem_append.mp hz with hz | hz
      · have hh := h e
        rcases hp with e0 | ⟨hp, lt⟩
        · subst e0
          rw [path_root] at hz
          cases hz
        · have := ih p (.inr hp) (fun _ => by omega) z hz
          omega
      · rw [List.mem_singleton.mp hz]
        exact Nat.le_refl _
theorem not_above {ts : List (Str × Str)} (o : TreeOk ts) {a p : Str} (h : par ts a = some p) : a ∉ pathOf ts p := fun hm => by
  obtain ⟨rk, r⟩ := o.up
  have lt := (r _ (par_mem h)).2
  rcases lt with e | ⟨hp, lt⟩
  · have e : p = "" := e
    rw [e, path_root] at hm
    cases hm
  · have lt : rk p < rk a := lt
    have := path_rank o r (rk p + 1) p (.inr hp) (fun _ => Nat.lt_succ_self _) a hm
    omega
theorem path_nd {ts : List (Str × Str)} (o : TreeOk ts) {a : Str} (h : Pl ts a) : (pathOf ts a).Nodup := by
  obtain ⟨rk, r⟩ := o.up
  have key : ∀ (n : Nat) (a : Str), Pl ts a → (a ≠ "" → rk a < n) → (pathOf ts a).Nodup := by
    intro n
    induction n with
    | zero =>
      intro a ha h
      by_cases e : a = ""
      · subst e
        rw [path_root]
        exact List.nodup_nil
      · exact absurd (h e) (Nat.not_lt_zero _)
    | succ n ih =>
      intro a ha h
      by_cases e : a = ""
      · subst e
        rw [path_root]
        exact List.nodup_nil
      · obtain ⟨p, ep, hp, _⟩ := o.step r (ha.resolve_left e)
        rw [path_step o (ha.resolve_left e) ep]
        refine List.nodup_append.mpr ⟨ih p (hp.imp id And.left) (fun z => ?_), by simp, fun x hx y hy e => ?_⟩
        · have := (hp.resolve_left z).2
          have := h e
          omega
        · rw [List.mem_singleton.mp hy] at e
          subst e
          exact not_above o ep hx
  exact key (rk a + 1) a h fun _ => Nat.lt_succ_self _
def inP (ts : List (Str × Str)) (a x : Str) : Int := if a ∈ pathOf ts x then 1 else 0
theorem inP_step {ts : List (Str × Str)} (o : TreeOk ts) {x p : Str} (h : par ts x = some p) (a : Str) : inP ts a x = inP ts a p + if a = x then 1 else 0 := by
  unfold inP
  rw [path_step o (par_flag h) h]
  by_cases e : a = x
  · subst e
    rw [if_pos (List.mem_append_right _ (List.mem_singleton.mpr rfl)), if_neg (not_above o h), if_pos rfl] <;> rfl
  · rw [if_neg e]
    by_cases m : a ∈ pathOf ts p
    · rw [if_pos (List.mem_append_left _ m), if_pos m] <;> rfl
    · rw [if_neg (fun z => (List.mem_append.mp z).elim m fun z => e (List.mem_singleton.mp z)), if_neg m] <;> rfl
theorem inP_root (ts : List (Str × Str)) (a : Str) : inP ts a "" = 0 := by
  unfold inP
  rw [path_root]
  exact if_neg (by simp)
theorem lsz_inP (ts : List (Str × Str)) (L : Str → List Int) (a : Str) : lsz ts L a = ((ts.map Prod.fst).map fun b => inP ts a b * ((L b).length : Int)).sum := by
  unfold lsz under
  rw [sum_filter]
  congr 1
  refine List.map_congr_left fun b _ => ?_
  unfold inP
  by_cases m : a ∈ pathOf ts b
  · rw [if_pos (decide_eq_true m), if_pos m, Int.one_mul]
  · rw [if_neg (by rw [decide_eq_false m]; decide), if_neg m, Int.zero_mul]
/-- from lengths to sizes -/
theorem lens_lsz {ts : List (Str × Str)} (o : TreeOk ts) {n : Int} {sz : Str → Int} {L : Str → List Int} (h : Lens ts n sz L) {a : Str} (ha : a ∈ ts.map Prod.fst) : lsz ts L a = sz a := by
  rw [lsz_inP]
  have e1 : ((ts.map Prod.fst).map fun b => inP ts a b * ((L b).length : Int)) = (ts.map Prod.fst).map fun b => inP ts a b * sz b - ((kids ts b).map fun k => inP ts a b * sz k).sum := List.map_congr_left fun b hb => by
    have nb : b ≠ "" := fun z => o.root (by rw [← z]; exact hb)
    rw [h b (.inr hb), sum_map_mul, ← Int.mul_sub]
    unfold resid
    rw [if_neg nb]
  rw [e1, sum_map_sub, kids_sum o.nd (fun k b => inP ts a b * sz k), List.map_map, ← sum_map_sub]
  have e2 : (ts.map fun q => ((fun b => inP ts a b * sz b) ∘ Prod.fst) q - if q.2 ∈ ts.map Prod.fst then inP ts a q.2 * sz q.1 else 0) = ts.map fun q => if q.1 = a then sz q.1 else 0 := List.map_congr_left fun q hq => by
    have hp := par_of o.nd (show (q.1, q.2) ∈ ts from hq)
    show inP ts a q.1 * sz q.1 - _ = _
    have z : (if q.2 ∈ ts.map Prod.fst then inP ts a q.2 * sz q.1 else 0) = inP ts a q.2 * sz q.1 := by
      rcases par_pl o hp with e | m
      · rw [e, inP_root, Int.zero_mul]
        split <;> rfl
      · rw [if_pos m]
    rw [z, inP_step o hp, Int.add_mul]
    by_cases e : q.1 = a
    · rw [if_pos e.symm, if_pos e, Int.one_mul]
      omega
    · rw [if_neg (fun z => e z.symm), if_neg e, Int.zero_mul]
      omega
  rw [e2]
  have e3 := sum_one (f := sz) (a := a) o.nd
  rw [if_pos ha, List.map_map] at e3
  exact e3
/-- from sizes to lengths -/
theorem lsz_lens {ts : List (Str × Str)} (o : TreeOk ts) {n : Int} {L : Str → List Int} (h : ((pls ts).map fun p => ((L p).length : Int)).sum = n) : Lens ts n (lsz ts L) L := by
  intro p hp
  have co : ∀ (m : Nat) (rk : Str → Nat), Rk ts rk → ∀ x, Pl ts x → (x ≠ "" → rk x < m) → (if p = "" then 1 else inP ts p x) - ((kids ts p).map fun k => inP ts k x).sum = if x = p then 1 else 0 := by
    intro m rk r
    induction m with
    | zero =>
      intro x hx hm
      by_cases e : x = ""
      · subst e
        rw [sum_map_zero fun k _ => inP_root ts k, inP_root]
        by_cases z : p = ""
        · rw [if_pos z, if_pos z.symm] <;> rfl
        · rw [if_neg z, if_neg fun w => z w.symm] <;> rfl
      · exact absurd (hm e) (Nat.not_lt_zero _)
    | succ m ih =>
      intro x hx hm
      by_cases e : x = ""
      · subst e
        rw [sum_map_zero fun k _ => inP_root ts k, inP_root]
        by_cases z : p = ""
        · rw [if_pos z, if_pos z.symm] <;> rfl
        · rw [if_neg z, if_neg fun w => z w.symm] <;> rfl
      · obtain ⟨q, eq, hq, _⟩ := o.step r (hx.resolve_left e)
        have hh := hm e
        have i := ih q (hq.imp id And.left) fun z => by
          have := (hq.resolve_left z).2
          omega
        have ks : ((kids ts p).map fun k => inP ts k x).sum = ((kids ts p).map fun k => inP ts k q).sum + if q = p then 1 else 0 := by
          rw [List.map_congr_left (g := fun k => inP ts k q + if k = x then 1 else 0) fun k _ => inP_step o eq k, sum_map_add, sum_one (f := fun _ => 1) (kids_nd o p)]
          congr 1
          by_cases w : q = p
          · rw [if_pos w, if_pos ((kid_par o).mpr (by rw [← w]; exact eq))]
          · rw [if_neg w, if_neg fun z => w (Option.some.inj (eq.symm.trans ((kid_par o).mp z)))]
        rw [ks]
        by_cases z : p = ""
        · rw [if_pos z] at i ⊢
          have nx : ¬ x = p := fun w => e (w.trans z)
          rw [if_neg nx]
          omega
        · rw [if_neg z] at i ⊢
          rw [inP_step o eq p]
          by_cases w : x = p
          · rw [if_pos w, if_pos w.symm]
            omega
          · rw [if_neg w, if_neg fun v => w v.symm]
            omega
  obtain ⟨rk, r⟩ := o.up
  have co' : ∀ x ∈ pls ts, (if p = "" then 1 else inP ts p x) - ((kids ts p).map fun k => inP ts k x).sum = if x = p then 1 else 0 := fun x hx => co (rk x + 1) rk r x (mem_pls.mp hx) fun _ => Nat.lt_succ_self _
  -- sizes as sums over all places
  have sz_pls : ∀ a, lsz ts L a = ((pls ts).map fun x => inP ts a x * ((L x).length : Int)).sum := fun a => by
    rw [lsz_inP]
    unfold pls
    rw [List.map_cons, List.sum_cons, inP_root, Int.zero_mul, Int.zero_add]
  have u : (if p = "" then n else lsz ts L p) = ((pls ts).map fun x => (if p = "" then 1 else inP ts p x) * ((L x).length : Int)).sum := by
    by_cases z : p = ""
    · rw [if_pos z, ← h]
      congr 1
      refine List.map_congr_left fun x _ => ?_
      rw [if_pos z, Int.one_mul]
    · rw [if_neg z, sz_pls]
      congr 1
      refine List.map_congr_left fun x _ => ?_
      rw [if_neg z]
  unfold resid
  rw [u, List.map_congr_left (f := lsz ts L) (fun k _ => sz_pls k), sum_swap, ← sum_map_sub]
  have fin : ((pls ts).map fun x => (if p = "" then 1 else inP ts p x) * ((L x).length : Int) - ((kids ts p).map fun k => inP ts k x * ((L x).length : Int)).sum) = (pls ts).map fun x => if x = p then ((L x).length : Int) else 0 := List.map_congr_left fun x hx => by
    have c := co' x hx
    have mul : ((kids ts p).map fun k => inP ts k x * ((L x).length : Int)).sum = ((L x).length : Int) * ((kids ts p).map fun k => inP ts k x).sum := by
      rw [← sum_map_mul]
      congr 1
      exact List.map_congr_left fun k _ => Int.mul_comm _ _
    rw [mul, Int.mul_comm _ ((L x).length : Int), ← Int.mul_sub, c]
    by_cases w : x = p
    · rw [if_pos w, if_pos w, Int.mul_one]
    · rw [if_neg w, if_neg w, Int.mul_zero]
  rw [fin, sum_one (f := fun x => ((L x).length : Int)) (pls_nd o), if_pos (mem_pls.mpr hp)]
/-! ### every user at one place -/
def usr (n : Nat) : List Int := (List.range n).map fun k : Nat => (k : Int)
theorem usr_nd (n : Nat) : (usr n).Nodup := by
  unfold usr
  refine List.nodup_iff_pairwise_ne.mpr (List.pairwise_map.mpr ((List.nodup_iff_pairwise_ne.mp List.nodup_range).imp fun h e => h ?_))
  omega
theorem mem_usr {n : Nat} {u : Int} : u ∈ usr n ↔ 0 ≤ u ∧ u < n := by
  unfold usr
  rw [List.mem_map]
  constructor
  · rintro ⟨k, hk, rfl⟩
    have := List.mem_range.mp hk
    omega
  · rintro ⟨h1, h2⟩
    exact ⟨u.toNat, List.mem_range.mpr (by omega), by omega⟩
def Val (ts : List (Str × Str)) (n : Nat) (L : Str → List Int) : Prop := ((pls ts).flatMap L).Perm (usr n)
theorem adj_sum {ts : List (Str × Str)} (o : TreeOk ts) (h : Str → Str → Int) : ((pls ts).map fun p => ((adj ts p).map fun x => h x p).sum).sum = (ts.map fun q => h q.2 q.1 + h q.1 q.2).sum := by
  have e : ((pls ts).map fun p => ((adj ts p).map fun x => h x p).sum) = (pls ts).map fun p : Str => (if p = "" then 0 else h ((par ts p).getD "") p) + ((kids ts p).map fun k => h k p).sum := List.map_congr_left fun p _ => by
    unfold adj
    rw [List.map_append, List.sum_append]
    by_cases z : p = ""
    · rw [if_pos z, if_pos z] <;> rfl
    · rw [if_neg z, if_neg z]
      show (h _ p + 0) + _ = _
      omega
  rw [e, sum_map_add, kids_sum (pls_nd o), sum_map_add]
  congr 1
  · unfold pls
    rw [List.map_cons, List.sum_cons, if_pos rfl, Int.zero_add, List.map_map]
    congr 1
    refine List.map_congr_left fun q hq => ?_
    have hp := par_of o.nd (show (q.1, q.2) ∈ ts from hq)
    have nq : q.1 ≠ "" := fun z => o.root (by rw [← z]; exact par_flag hp)
    show (if q.1 = "" then 0 else h ((par ts q.1).getD "") q.1) = _
    rw [if_neg nq, hp] <;> rfl
  · congr 1
    refine List.map_congr_left fun q hq => ?_
    rw [if_pos (mem_pls.mpr (par_pl o (par_of o.nd (show (q.1, q.2) ∈ ts from hq))))]
theorem count_flat (u : Int) (L : Str → List Int) (l : List Str) : ((l.flatMap L).count u : Int) = (l.map fun p => ((L p).count u : Int)).sum := by
  rw [List.count_flatMap, int_sum, List.map_map] <;> rfl
theorem count_flat2 (u : Int) (f : Str → List Int) (l : List Str) : (((l.reverse.map f).flatten).count u : Int) = (l.map fun p => ((f p).count u : Int)).sum := by
  rw [← List.flatMap_def, count_flat, List.map_reverse, sum_rev]
theorem moved_val {ts : List (Str × Str)} (o : TreeOk ts) {c : Str → Int} {n : Nat} {L L' : Str → List Int} (m : Moved ts c L L') (h : Val ts n L) : Val ts n L' := by
  obtain ⟨G, g1, g2⟩ := m
  refine List.Perm.trans (List.perm_iff_count.mpr fun u => ?_) h
  have e : ((pls ts).map fun p => ((L p).count u : Int) + ((ins ts G p).count u : Int)).sum = ((pls ts).map fun p => ((L' p).count u : Int) + ((outs ts G p).count u : Int)).sum := by
    congr 1
    refine List.map_congr_left fun p hp => ?_
    have q := congrArg (fun l : List Int => (l.count u : Int)) (g2 p (mem_pls.mp hp))
    have q : (((L p ++ ins ts G p).count u : Nat) : Int) = (((L' p ++ outs ts G p).count u : Nat) : Int) := q
    rw [List.count_append, List.count_append, Int.natCast_add, Int.natCast_add] at q
    exact q
  rw [sum_map_add, sum_map_add, ← count_flat u L, ← count_flat u L'] at e
  have ei : ((pls ts).map fun p => ((ins ts G p).count u : Int)).sum = (ts.map fun q => ((G q.2 q.1).count u : Int) + ((G q.1 q.2).count u : Int)).sum := by
    rw [← adj_sum o fun a b => ((G a b).count u : Int)]
    congr 1
    exact List.map_congr_left fun p _ => count_flat2 u (fun x => G x p) (adj ts p)
  have eo : ((pls ts).map fun p => ((outs ts G p).count u : Int)).sum = (ts.map fun q => ((G q.1 q.2).count u : Int) + ((G q.2 q.1).count u : Int)).sum := by
    rw [← adj_sum o fun a b => ((G b a).count u : Int)]
    congr 1
    exact List.map_congr_left fun p _ => count_flat2 u (fun x => G p x) (adj ts p)
  rw [ei, eo, List.map_congr_left (g := fun q : Str × Str => ((G q.1 q.2).count u : Int) + ((G q.2 q.1).count u : Int)) fun q _ => Int.add_comm _ _] at e
  omega
theorem val_len {ts : List (Str × Str)} {n : Nat} {L : Str → List Int} (h : Val ts n L) : ((pls ts).map fun p => ((L p).length : Int)).sum = n := by
  have e := h.length_eq
  rw [List.length_flatMap] at e
  unfold usr at e
  rw [List.length_map, List.length_range] at e
  rw [← e, int_sum, List.map_map] <;> rfl
/-- the place of a user -/
def plOf (ts : List (Str × Str)) (L : Str → List Int) (u : Int) : Str := ((pls ts).find? fun p => decide (u ∈ L p)).getD ""
theorem plOf_at {ts : List (Str × Str)} {n : Nat} {L : Str → List Int} (h : Val ts n L) {u : Int} (h0 : 0 ≤ u) (h1 : u < n) : Pl ts (plOf ts L u) ∧ u ∈ L (plOf ts L u) := by
  have m : u ∈ (pls ts).flatMap L := h.mem_iff.mpr (mem_usr.mpr ⟨h0, h1⟩)
  obtain ⟨p, hp, hu⟩ := List.mem_flatMap.mp m
  unfold plOf
  cases e : (pls ts).find? fun p => decide (u ∈ L p) with
  | none => exact absurd (decide_eq_true hu) (List.find?_eq_none.mp e p hp)
  | some q => exact ⟨mem_pls.mp (List.mem_of_find?_eq_some e), of_decide_eq_true (List.find?_some (p := fun p => decide (u ∈ L p)) e)⟩
theorem one_place {ts : List (Str × Str)} {n : Nat} {L : Str → List Int} (h : Val ts n L) {u : Int} {p q : Str} (hp : Pl ts p) (hq : Pl ts q) (up : u ∈ L p) (uq : u ∈ L q) : p = q := by
  have nd : ((pls ts).flatMap L).Nodup := h.nodup_iff.mpr (usr_nd n)
  obtain ⟨_, pw⟩ := List.pairwise_flatMap.mp (List.nodup_iff_pairwise_ne.mp nd)
  obtain ⟨i, hi, ei⟩ := List.mem_iff_getElem.mp (mem_pls.mpr hp)
  obtain ⟨j, hj, ej⟩ := List.mem_iff_getElem.mp (mem_pls.mpr hq)
  have pw := List.pairwise_iff_getElem.mp pw
  rcases Nat.lt_trichotomy i j with lt | e | lt
  · exact absurd rfl (pw i j hi hj lt u (by rw [ei]; exact up) u (by rw [ej]; exact uq))
  · subst e
    exact ei.symm.trans ej
  · exact absurd rfl (pw j i hj hi lt u (by rw [ej]; exact uq) u (by rw [ei]; exact up))
theorem plOf_of {ts : List (Str × Str)} {n : Nat} {L : Str → List Int} (h : Val ts n L) {u : Int} {p : Str} (hp : Pl ts p) (up : u ∈ L p) : plOf ts L u = p := by
  have m : u ∈ (pls ts).flatMap L := List.mem_flatMap.mpr ⟨p, mem_pls.mpr hp, up⟩
  obtain ⟨h0, h1⟩ := mem_usr.mp (h.mem_iff.mp m)
  obtain ⟨a, b⟩ := plOf_at h h0 h1
  exact one_place h a hp b up
/-! ### a user's way -/
inductive Rc (ts : List (Str × Str)) (c : Str → Int) (p : Str) : Str → Prop where
  | refl : Rc ts c p p
  | step {q x : Str} : Rc ts c p q → 0 < lv ts c q x → Rc ts c p x
end FT


/-! lists of pairs of a text and a value; dict(..) of them. -/
namespace FT
open PySem L2 TL ClX
/-- pairs (a, g a) at the addresses rs -/
def PrG (g : Str → V) (H : Hp) (rs : List Addr) (l : List Str) : Prop := Paired (fun (r : Addr) (a : Str) => H r = some (.tup [.str a, g a])) rs l
theorem PrG.imp {g : Str → V} {H H' : Hp} (m : ∀ r (a : Str), H r = some (.tup [.str a, g a]) → H' r = some (.tup [.str a, g a])) : ∀ {rs : List Addr} {l : List Str}, PrG g H rs l → PrG g H' rs l
  | _, _, .nil => .nil
  | _, _, .cons h t => .cons (m _ _ h) (PrG.imp m t)
theorem PrG.mono {g : Str → V} {H H' : Hp} {rs : List Addr} {l : List Str} (s : Same H H') (p : PrG g H rs l) : PrG g H' rs l := p.imp fun r a e => s _ _ e
theorem PrG.push {g : Str → V} {H : Hp} {rs : List Addr} {l : List Str} {D : Addr} {xs : List V} {o : HO} (e : H D = some (.lst xs)) (p : PrG g H rs l) : PrG g (upd H D o) rs l := p.imp fun r a q => by
  rw [upd_ne (ne_of q e (by intro z; cases z))]
  exact q
theorem PrG.snoc {g : Str → V} {H : Hp} {r : Addr} {a : Str} (h : H r = some (.tup [.str a, g a])) : ∀ {rs : List Addr} {l : List Str}, PrG g H rs l → PrG g H (rs ++ [r]) (l ++ [a])
  | _, _, .nil => .cons h .nil
  | _, _, .cons q t => .cons q (PrG.snoc h t)
theorem PrG.len {g : Str → V} {H : Hp} : ∀ {rs : List Addr} {l : List Str}, PrG g H rs l → rs.length = l.length
  | _, _, .nil => rfl
  | _, _, .cons _ t => congrArg (· + 1) (PrG.len t)
theorem PrG.at_ {g : Str → V} {H : Hp} {rs : List Addr} {l : List Str} (p : PrG g H rs l) {i : Nat} {r : Addr} (h : rs[i]? = some r) : ∃ a, l[i]? = some a ∧ H r = some (.tup [.str a, g a]) := LiI.paired_get p h
/-- as dict(..) asks it -/
theorem PrG.kvs {K : PySem.W.Frag} {g : Str → V} {H : Hp} : ∀ {rs : List Addr} {l : List Str}, PrG g H rs l → Paired (fun (p : Addr) (kv : Key × V) => SqT K H p [kV kv.1, kv.2]) rs (kvT (l.map fun a => (a, g a)))
  | _, _, .nil => .nil
  | _, _, .cons h t => .cons (.inl (.inl h)) (PrG.kvs t)
theorem merge_app : ∀ (more : List (Str × V)) (acc : List (Str × V)), ((acc ++ more).map Prod.fst).Nodup → mergeK (kvT acc) (kvT more) = kvT (acc ++ more)
  | [], acc, _ => by rw [List.append_nil] <;> rfl
  | p :: more, acc, nd => by
    have e : acc ++ p :: more = (acc ++ [p]) ++ more := by rw [List.append_assoc] <;> rfl
    have fresh : p.1 ∉ acc.map Prod.fst := fun h => by
      rw [List.map_append] at nd
      obtain ⟨_, _, d⟩ := List.nodup_append.mp nd
      exact d _ h _ (List.mem_cons_self ..) rfl
    show mergeK (putK (kvT acc) (Sum.inr p.1) p.2) (kvT more) = _
    rw [kvT_put fresh, e]
    rw [e] at nd
    exact merge_app more _ nd
theorem merge_nd {l : List (Str × V)} (nd : (l.map Prod.fst).Nodup) : mergeK [] (kvT l) = kvT l := merge_app l [] nd
theorem map_fst (l : List Str) (g : Str → V) : (l.map fun a => (a, g a)).map Prod.fst = l := by rw [List.map_map]; exact List.map_id _
/-- the place of an item -/
theorem idx_at {l : List Str} {i : Nat} {a : Str} (nd : l.Nodup) (h : l[i]? = some a) : l.idxOf a = i := by
  have m : a ∈ l := List.mem_of_getElem? h
  have lt := List.idxOf_lt_length_of_mem m
  have e : l[l.idxOf a]? = some a := by rw [List.getElem?_eq_getElem lt, List.getElem_idxOf lt]
  exact (List.getElem?_inj lt nd).mp (e.trans h.symm)
/-- a tree from the order of its making -/
theorem tree_of {t : List (Str × Str)} (h1 : 1 ≤ t.length) (h2 : t.length ≤ 12) (nd : (t.map Prod.fst).Nodup) (nm : ∀ z ∈ t.map Prod.fst, NameL z) (up : ∀ (i : Nat) (p : Str × Str), t[i]? = some p → p.2 = "" ∨ p.2 ∈ (t.map Prod.fst).take i) : TreeOk t := by
  refine ⟨h1, h2, nd, nm, fun a => (t.map Prod.fst).idxOf a, fun p hp => ?_⟩
  obtain ⟨i, hi⟩ := List.mem_iff_getElem?.mp hp
  have il := (List.getElem?_eq_some_iff.mp hi).1
  have hk : (t.map Prod.fst)[i]? = some p.1 := by rw [List.getElem?_map, hi] <;> rfl
  refine ⟨by show (t.map Prod.fst).idxOf p.1 < _; rw [idx_at nd hk]; exact il, (up i p hi).imp id fun m => ⟨List.mem_of_mem_take m, ?_⟩⟩
  show (t.map Prod.fst).idxOf p.2 < (t.map Prod.fst).idxOf p.1
  rw [idx_at nd hk]
  obtain ⟨j, hj⟩ := List.mem_iff_getElem?.mp m
  have jl := (List.getElem?_eq_some_iff.mp hj).1
  rw [List.length_take] at jl
  rw [List.getElem?_take, if_pos (by omega)] at hj
  rw [idx_at nd hj]
  omega
end FT


/-! dicts from texts to any values; lists by place in the heap. -/
namespace FT
open PySem L2 TL ClX
def tblV (l : List Str) (g : Str → V) : List (Key × V) := kvT (l.map fun a => (a, g a))
theorem tblV_int (l : List Str) (g : Str → Int) : tblI l g = tblV l fun a => .int (g a) := rfl
theorem tblV_len (l : List Str) (g : Str → V) : (tblV l g).length = l.length := by unfold tblV; rw [kvT_len, List.length_map]
theorem tblV_fst (l : List Str) (g : Str → V) : (l.map fun a => (a, g a)).map Prod.fst = l := by rw [List.map_map]; exact List.map_id _
theorem tblV_at {l : List Str} {g : Str → V} {i : Nat} {k : Key} {v : V} (h : (tblV l g)[i]? = some (k, v)) : ∃ a, l[i]? = some a ∧ k = Sum.inr a ∧ v = g a := by
  unfold tblV kvT at h
  rw [List.map_map, List.getElem?_map] at h
  obtain ⟨a, ha, e⟩ := Option.map_eq_some_iff.mp h
  cases e
  exact ⟨a, ha, rfl, rfl⟩
theorem tblV_val {l : List Str} {g : Str → V} {a : Str} (h : a ∈ l) : valV (tblV l g) (Sum.inr a) = some (g a) := by
  unfold tblV
  rw [kvT_val]
  induction l with
  | nil => cases h
  | cons b l ih =>
    rw [List.map_cons, look_cons]
    by_cases e : b = a
    · subst e
      exact if_pos rfl
    · rw [if_neg e]
      exact ih ((List.mem_cons.mp h).resolve_left fun z => e z.symm)
theorem tblV_put {l : List Str} {g : Str → V} {a : Str} {z : V} (h : a ∈ l) : putK (tblV l g) (Sum.inr a) z = tblV l (fun p => if p = a then z else g p) := by
  unfold tblV
  rw [kvT_putT]
  unfold putT
  rw [if_pos (by rw [tblV_fst]; exact h), List.map_map]
  congr 1
  refine List.map_congr_left fun p _ => ?_
  show (if p = a then (p, z) else (p, g p)) = (p, if p = a then z else g p)
  by_cases e : p = a
  · rw [if_pos e, if_pos e]
  · rw [if_neg e, if_neg e]
theorem tblV_snoc {l : List Str} {g : Str → V} {a : Str} {z : V} (h : a ∉ l) (e : z = g a) : putK (tblV l g) (Sum.inr a) z = tblV (l ++ [a]) g := by
  unfold tblV
  rw [kvT_put (by rw [tblV_fst]; exact h), List.map_append, e] <;> rfl
theorem tblV_congr {l : List Str} {g g' : Str → V} (h : ∀ a ∈ l, g a = g' a) : tblV l g = tblV l g' := by
  unfold tblV
  rw [List.map_congr_left fun a ha => by rw [h a ha]]
theorem nat_fresh {l : List Str} {i : Nat} {a : Str} (nd : l.Nodup) (h : l[i]? = some a) : a ∉ l.take i := fun hm => by
  obtain ⟨j, hj⟩ := List.mem_iff_getElem?.mp hm
  have jl := (List.getElem?_eq_some_iff.mp hj).1
  rw [List.length_take] at jl
  rw [List.getElem?_take, if_pos (by omega)] at hj
  have := (List.getElem?_inj (by omega) nd).mp (hj.trans h.symm)
  omega
/-- lists by place: the dict at q, the list of p at r p -/
def LsAt (H : Hp) (q : Addr) (l : List Str) (r : Str → Addr) (L : Str → List Int) : Prop := H q = some (.dK (tblV l fun p => .ref (r p))) ∧ ∀ p ∈ l, H (r p) = some (.lst ((L p).map V.int))
theorem LsAt.mono {H H' : Hp} {q : Addr} {l : List Str} {r : Str → Addr} {L : Str → List Int} (s : Same H H') (h : LsAt H q l r L) : LsAt H' q l r L := ⟨s _ _ h.1, fun p hp => s _ _ (h.2 p hp)⟩
theorem LsAt.congr {H : Hp} {q : Addr} {l : List Str} {r : Str → Addr} {L L' : Str → List Int} (h : LsAt H q l r L) (e : ∀ p ∈ l, L p = L' p) : LsAt H q l r L' := ⟨h.1, fun p hp => by rw [h.2 p hp, e p hp]⟩
theorem LsAt.get {H : Hp} {q : Addr} {l : List Str} {r : Str → Addr} {L : Str → List Int} (h : LsAt H q l r L) {p : Str} (hp : p ∈ l) : DGet H q (.str p) (some (.ref (r p))) := by
  have z := DGet.k (k := Sum.inr p) h.1
  rw [tblV_val hp] at z
  exact z
end FT


/-! sums -/
namespace FT
open PySem
theorem filter_more {c : Str → Bool} {l : List Str} {i : Nat} {a : Str} (h : l[i]? = some a) : (l.take (i + 1)).filter c = (l.take i).filter c ++ if c a = true then [a] else [] := by
  rw [take_more h, List.filter_append, List.filter_cons, List.filter_nil]
end FT


/-! a parent read from a forest's dict -/
namespace FT
open PySem L2 TL ClX
theorem Rd.same {H H' : Hp} {a : Addr} {u : HO} (s : Same H H') (h : Rd H a u) : Rd H' a u := h.imp (fun e => s _ _ e) fun ⟨o, e⟩ => ⟨o, s _ _ e⟩
theorem dget_prs {H : Hp} {q : Addr} {ts : List (Str × Str)} {a p : Str} (h : Rd H q (.dK (prs ts))) (e : par ts a = some p) : DGet H q (.str a) (some (.str p)) := .inl ⟨prs ts, Sum.inr a, h, rfl, by rw [val_prs, e] <;> rfl⟩
end FT


/-! path_in, need_place, Forest.under, edges_at -/
namespace FT
open PySem L2 TL ClX
def spPathIn : Sp := fun vs H Q _ => ∃ (q : Addr) (ts : List (Str × Str)) (a : Str), vs = [.ref q, .str a] ∧ Rd H q (.dK (prs ts)) ∧ TreeOk ts ∧ Pl ts a ∧ ∀ p H', Same H H' → H p = none → H' p = some (.tup ((pathOf ts a).map V.str)) → Q (.ref p) H'
def spNeedPl (CF : Addr) : Sp := fun vs H Q _ => ∃ (x : Addr) (ts : List (Str × Str)) (a : Str), vs = [.ref x, .str a] ∧ FAt CF H x ts ∧ TreeOk ts ∧ Pl ts a ∧ Q .non H
def spEdgesAt (CF : Addr) : Sp := fun vs H Q _ => ∃ (x : Addr) (ts : List (Str × Str)) (a : Str), vs = [.ref x, .str a] ∧ FAt CF H x ts ∧ TreeOk ts ∧ Pl ts a ∧ ∀ p H', Same H H' → H p = none → H' p = some (.lst ((adj ts a).map V.str)) → Q (.ref p) H'
def pathLen (ts : List (Str × Str)) (σ : St) : Nat := match σ[1]? with
  | some (some (V.str a)) => (pathOf ts a).length
  | _ => 0
section
variable {P : Program} {w : World} {K : PySem.W.Frag} {mg : Str → Option Value} {base : Heap}
abbrev NPi : List Str := ["above", "place", "path"]
theorem scPi : FnScope NPi ["above", "place"] (defScope s_path_in) := ⟨rfl, rfl, rfl, by decide +kernel, rfl, by decide +kernel, by decide +kernel⟩
theorem ok_pathIn {f : Addr} {fd : FuncData} (F : Fun K "path_in" "path_in" s_path_in f fd) (T : Nm mg) : FnOk P w K mg base CX0 1 f fd ["above", "place"] spPathIn := by
  refine F.ok scPi (fun vs H Q E h => ?_) (fun cdv A outer s H vs Q E hr h => ?_)
  · obtain ⟨q, ts, a, rfl, _⟩ := h
    rfl
  · obtain ⟨q, ts, a0, rfl, hq, o, pl0, k⟩ := h
    have hu := hu_of hr
    have nd := scPi.nd
    have big : 1000 ≤ sizeLine := by decide
    have few := o.few
    refine ⟨_, pss_cons (ps_set (i := 2) nd rfl (.inl rfl) (pe_lst pa_nil))
      (pss_cons (ps_while PassesOwn.never (pt_cmpR op_ne (pv 1) pe_str (nomark _))
        (pss_cons (ps_expr (pe_bm PySem.F.plainAttrs_list PySem.F.slot_list_append PySem.F.type_list_append mt_append (pv 2) (pa_cons (pv 1) pa_nil)))
        (pss_one (ps_set (i := 1) nd rfl (.inl rfl) (pe_dget hu (pv 0) (pv 1) (fun _ _ => rfl))))))
      (pss_one (ps_ret (pe_tupleOf (by rfl) T.tup (pe_revL (pv 2)))))), ?_⟩
    refine ⟨by show 0 ≤ sizeLine; omega, fun l nl => ?_⟩
    refine while_by (fun σ H' => ∃ (a : Str) (ws : List Str), σ = [some (.ref q), some (.str a), some (.ref l)] ∧ H' l = some (.lst (ws.map V.str)) ∧ Same H H' ∧ Pl ts a ∧ pathOf ts a0 = pathOf ts a ++ ws.reverse) (fun σ _ => pathLen ts σ)
      ⟨a0, [], rfl, upd_same, same_new nl, pl0, by rw [List.reverse_nil, List.append_nil]⟩ ?_ ?_
    · rintro σ Hx ⟨a, ws, rfl, hl, sm, pl, ep⟩
      have len := congrArg List.length ep
      have le := path_len ts a0
      rw [List.length_append, List.length_reverse] at len
      refine ⟨_, rfl, rfl, _, rfl, ?_⟩
      by_cases e : a = ""
      · rw [decide_eq_true (show V.str a = V.str "" by rw [e])]
        refine iteF ?_
        rw [e, path_root, List.nil_append] at ep
        refine ⟨_, rfl, l, _, rfl, SqL.of hl, fun p1 n1 => .inl ⟨p1, _, rfl, SqL.of upd_same, fun p2 n2 => ?_⟩⟩
        refine k p2 _ ((sm.trans (same_new n1)).trans (same_new n2)) ((sm.trans (same_new n1)).free n2) ?_
        rw [upd_same, ep, List.map_reverse]
      · rw [decide_eq_false (show ¬ V.str a = V.str "" from fun z => e (V.str.inj z))]
        show if true = true then _ else _
        rw [if_pos rfl]
        have fl := pl.resolve_left e
        obtain ⟨pa, hp⟩ := par_some o.nd fl
        have st := path_step o fl hp
        refine ⟨_, rfl, .inl ⟨rfl, _, SqL.of hl⟩, _, rfl, l, _, _, rfl, rfl, hl, by rw [List.length_map]; omega, ?_⟩
        refine ⟨_, rfl, _, rfl, q, V.str pa, rfl, dget_prs ?_ hp, ?_⟩
        · have ql : q ≠ l := by
            intro z
            rcases hq with hq | ⟨oo, hq⟩ <;> (rw [z, nl] at hq; cases hq)
          have hq' := Rd.same sm hq
          rcases hq' with h | ⟨oo, h⟩
          · exact .inl (by rw [upd_ne ql]; exact h)
          · exact .inr ⟨oo, by rw [upd_ne ql]; exact h⟩
        · refine ⟨⟨pa, ws ++ [a], rfl, by rw [upd_same, List.map_append] <;> rfl, sm.put nl, par_pl o hp, ?_⟩, ?_⟩
          · rw [ep, st, List.reverse_append, List.append_assoc] <;> rfl
          · show (pathOf ts pa).length < (pathOf ts a).length
            rw [st, List.length_append]
            exact Nat.lt_succ_self _
    · exact fun σ H Q Q' hm ⟨v, e, e2, b, eb, z⟩ => ⟨v, e, e2, b, eb, hm _ _ z⟩
abbrev NNp : List Str := ["forest", "place"]
theorem scNp : FnScope NNp ["forest", "place"] (defScope s_need_place) := ⟨rfl, rfl, rfl, by decide +kernel, rfl, by decide +kernel, by decide +kernel⟩
theorem ok_needPl {f CF : Addr} {mc : Value} {fd : FuncData} (F : Fun K "need_place" "need_place" s_need_place f fd) (T : Nm mg) (O : FoC K CF) (Z : Fc K mg CF mc) : FnOk P w K mg base CX0 1 f fd ["forest", "place"] (spNeedPl CF) := by
  obtain ⟨ur, cr⟩ := Z.root
  refine F.ok scNp (fun vs H Q E h => ?_) (fun cdv A outer s H vs Q E hr h => ?_)
  · obtain ⟨x, ts, a, rfl, _⟩ := h
    rfl
  · obtain ⟨x, ts, a, rfl, fa, o, pl, k⟩ := h
    have hu := hu_of hr
    refine ⟨_, pss_one (ps_if (PW.pt (pw_or (pt_not (pt_val (pe_callB call_isi (by rfl) T.isi (by decide +kernel) (pa_cons (pv 1) (pa_cons (pe_bltn (v := .ty "str") (u := .type "str") (by rfl) T.str (by decide +kernel) rfl) pa_nil)))))
          (pw_or1 (PW.pt (pw_and (pt_cmpR op_ne (pv 1) (pe_cval (pe_glob (v := .ref CF) (by rfl) Z.gF rfl)) (nomark _)) (pw_and1 (pt_cmp (pc_dnotin hu (pv 1) (pe_fld (pv 0) rfl))))))))) pss_never pss_nil), ?_⟩
    obtain ⟨dx, dq, hx, hd⟩ := id fa
    refine ⟨_, rfl, .str a, _, _, _, true, rfl, .ty _, .base (.str a), kit_ty (by decide +kernel), true, rfl, ?_⟩
    refine iteF ?_
    refine ⟨_, rfl, CF, mc, _, ur, rfl, Z.rd, cr, rfl, _, rfl, ?_⟩
    by_cases e : a = ""
    · rw [decide_eq_true (show V.str a = V.str "" by rw [e])]
      refine iteF ?_
      exact iteF k
    · rw [decide_eq_false (show ¬ V.str a = V.str "" from fun z => e (V.str.inj z))]
      show if true = true then _ else _
      rw [if_pos rfl]
      obtain ⟨pa, hp⟩ := par_some o.nd (pl.resolve_left e)
      refine ⟨_, rfl, _, rfl, x, CF, dx, _, .ref dq, rfl, hx, O.cl, O.nA, rfl, dq, _, rfl, dget_prs (.inl hd) hp, _, rfl, ?_⟩
      exact iteF k
end
end FT


/-! lists of texts as data, for == and !=. -/
namespace FT
open PySem L2 TL
theorem dps_strs {K : PySem.W.Frag} {H : Hp} : ∀ ts : List Str, DpAll K H (ts.map V.str) (ts.map PyData.str)
  | [] => .nil
  | t :: ts => .cons (.str t) (dps_strs ts)
theorem strs_lay : ∀ {ts : List Str}, (∀ t ∈ ts, PyData.strOk t = true) → PyData.canLayAll0 (ts.map PyData.str) = true ∧ PyData.depthAll (ts.map PyData.str) ≤ 0
  | [], _ => ⟨rfl, Nat.le_refl _⟩
  | t :: ts, h => by
    obtain ⟨h1, h2⟩ := strs_lay (ts := ts) fun b hb => h b (List.mem_cons_of_mem _ hb)
    constructor
    · show (PyData.strOk t && PyData.canLayAll0 (ts.map PyData.str)) = true
      rw [h t (List.mem_cons_self ..), h1] <;> rfl
    · show max 0 (PyData.depthAll (ts.map PyData.str)) ≤ 0
      omega
theorem strs_shaped {ts : List Str} (h : ∀ t ∈ ts, PyData.strOk t = true) : SeqAt.shaped (.list (ts.map PyData.str)) = true := by
  obtain ⟨h1, h2⟩ := strs_lay h
  unfold SeqAt.shaped
  have c : (PyData.list (ts.map PyData.str)).canLay0 = true := h1
  rw [c]
  have d : (PyData.list (ts.map PyData.str)).depth ≤ 64 := by
    show PyData.depthAll (ts.map PyData.str) + 1 ≤ 64
    omega
  rw [decide_eq_true d] <;> rfl
end FT


/-! Own: xs.remove(t) of a list of texts. -/
namespace L2
open PySem PySem.Spec PyProof.Rows
variable {X : Cx}
theorem erase_strs : ∀ (l : List Str) (j : Nat), (l.map V.str).eraseIdx j = (l.eraseIdx j).map V.str
  | [], j => by simp
  | a :: r, 0 => rfl
  | a :: r, j + 1 => congrArg (List.cons (V.str a)) (erase_strs r j)
def rRemS : V → List V → Hp → VK → Prop := fun x xs H Q => ∃ (l : Addr) (zs : List Str) (k : Str) (j : Nat), x = .ref l ∧ xs = [.str k] ∧ H l = some (.lst (zs.map V.str)) ∧ zs[j]? = some k ∧ (∀ m : Nat, m < j → zs[m]? ≠ some k) ∧ Q .non (upd H l (.lst ((zs.eraseIdx j).map V.str)))
theorem mt_removeS : MtM X "list.remove" rRemS := by
  intro pins s σ H x xs v us Q I rx rxs h
  obtain ⟨l, zs, k, j, ex, exs, hH, hj, hno, q⟩ := h
  subst ex
  subst exs
  cases rx
  obtain ⟨u, eu, ru⟩ := rxs.one
  subst eu
  obtain ⟨t, et⟩ := ru
  subst et
  obtain ⟨z, its, n, r, hl, e⟩ := I.lstM hH
  have hi := strs_of_vals r
  have hjn : j < zs.length := (List.getElem?_eq_some_iff.mp hj).1
  rw [List.length_map] at hl z
  refine call_meets PySem.F.slot_list_remove ⟨_, e, rfl⟩ PySem.F.entry_list_remove (PySem.F.args_list_remove_2 _ _)
    (MeetsSeq.list_remove l its.toArray n (.str k t) (isStrOf k) (fun y hy => eq_isStrOf k t hi y (by simpa using hy)) j (by rw [List.size_toArray]; omega) ?_ ?_ (by rw [List.size_toArray]; omega)) ⟨e, ?_⟩
  · obtain ⟨tj, hjt⟩ := StrsAre.get hi j k hj
    have e1 : its.toArray[j]'(by rw [List.size_toArray]; omega) = .str k tj := by simpa using (List.getElem?_eq_some_iff.mp hjt).2
    rw [e1]
    exact beq_self_eq_true k
  · intro m hm hmj
    have hmn : m < zs.length := by omega
    obtain ⟨tm, hmt⟩ := StrsAre.get hi m _ (List.getElem?_eq_getElem hmn)
    have e1 : its.toArray[m] = .str zs[m] tm := by simpa using (List.getElem?_eq_some_iff.mp hmt).2
    rw [e1]
    exact beq_eq_false_iff_ne.mpr fun e2 => hno m hmj (by rw [List.getElem?_eq_getElem hmn, e2])
  · have rr := r.eraseIdx j
    rw [erase_strs] at rr
    refine ⟨.non, _, I.lset (its' := its.eraseIdx j) (t' := s.toks) hH e ?_ rr ?_, rfl, q⟩
    · show its.toArray.eraseIdxIfInBounds j = (its.eraseIdx j).toArray
      exact List.eraseIdxIfInBounds_toArray ..
    · have := len_erase zs j
      rw [List.length_map]
      omega
end L2


/-! edges of a change, in an order (plain maths) -/
namespace FT
open PySem L2 TL ClX LiI
theorem mem_crs {ts : List (Str × Str)} {c : Str → Int} {e : Str × Str × Int} : e ∈ crs c ts ↔ ∃ q ∈ ts, (0 < c q.1 ∧ e = (q.2, q.1, c q.1)) ∨ (c q.1 < 0 ∧ e = (q.1, q.2, - c q.1)) := by
  unfold crs
  rw [List.mem_flatMap]
  refine exists_congr fun q => and_congr .rfl ?_
  by_cases h1 : 0 < c q.1
  · rw [if_pos h1, List.mem_singleton]
    exact ⟨fun h => .inl ⟨h1, h⟩, fun h => h.elim And.right fun z => by have := z.1; omega⟩
  · rw [if_neg h1]
    by_cases h2 : c q.1 < 0
    · rw [if_pos h2, List.mem_singleton]
      exact ⟨fun h => .inr ⟨h2, h⟩, fun h => h.elim (fun z => absurd z.1 h1) And.right⟩
    · rw [if_neg h2]
      exact ⟨(fun h => by cases h), fun h => h.elim (fun z => absurd z.1 h1) fun z => absurd z.1 h2⟩
theorem crs_lv {ts : List (Str × Str)} (o : TreeOk ts) {c : Str → Int} {s g : Str} {a : Int} (h : (s, g, a) ∈ crs c ts) : a = (lv ts c s g : Int) ∧ 0 < lv ts c s g := by
  obtain ⟨⟨f, p⟩, hq, ⟨pos, e⟩ | ⟨neg, e⟩⟩ := mem_crs.mp h
  · cases e
    have hp := par_of o.nd hq
    have pos : 0 < c f := pos
    have : lv ts c p f = (c f).toNat := by
      unfold lv
      rw [if_pos ⟨hp, pos⟩]
    show c f = (lv ts c p f : Int) ∧ 0 < lv ts c p f
    omega
  · cases e
    have hp := par_of o.nd hq
    have neg : c f < 0 := neg
    have n : ¬ par ts p = some f := fun z => par_once o hp z
    have : lv ts c f p = (- c f).toNat := by
      unfold lv
      rw [if_neg fun z => n z.1, if_pos ⟨hp, neg⟩]
    show - c f = (lv ts c f p : Int) ∧ 0 < lv ts c f p
    omega
theorem lv_crs {ts : List (Str × Str)} (o : TreeOk ts) {c : Str → Int} {s g : Str} (h : 0 < lv ts c s g) : (s, g, (lv ts c s g : Int)) ∈ crs c ts := by
  have m : ∃ a, (s, g, a) ∈ crs c ts := by
    obtain ⟨_, _, _, ⟨e, pos⟩ | ⟨e, neg⟩⟩ := lv_adj o h
    · exact ⟨c g, mem_crs.mpr ⟨_, par_mem e, .inl ⟨pos, rfl⟩⟩⟩
    · exact ⟨- c s, mem_crs.mpr ⟨_, par_mem e, .inr ⟨neg, rfl⟩⟩⟩
  obtain ⟨a, m⟩ := m
  rw [← (crs_lv o m).1]
  exact m
theorem min_mem (f : Str → Nat) : ∀ {l : List Str}, l ≠ [] → ∃ p ∈ l, ∀ q ∈ l, f p ≤ f q
  | [], h => absurd rfl h
  | [a], _ => ⟨a, List.mem_cons_self .., fun q hq => by rw [List.mem_singleton.mp hq]; exact Nat.le_refl _⟩
  | a :: b :: l, _ => by
    obtain ⟨p, hp, h⟩ := min_mem f (l := b :: l) (by simp)
    by_cases e : f a ≤ f p
    · refine ⟨a, List.mem_cons_self .., fun q hq => ?_⟩
      rcases List.mem_cons.mp hq with rfl | hq
      · exact Nat.le_refl _
      · exact Nat.le_trans e (h q hq)
    · refine ⟨p, List.mem_cons_of_mem _ hp, fun q hq => ?_⟩
      rcases List.mem_cons.mp hq with rfl | hq
      · omega
      · exact h q hq
/-- each place behind all from which users move to it -/
def Topo (ts : List (Str × Str)) (c : Str → Int) (ds : List Str) : Prop := ∀ (i : Nat) (p : Str), ds[i]? = some p → ∀ q, 0 < lv ts c q p → q ∈ ds.take i
def spEdgeOrder (CF : Addr) : Sp := fun vs H Q _ => ∃ (x q : Addr) (ts : List (Str × Str)) (c : Str → Int), vs = [.ref x, .ref q] ∧ FAt CF H x ts ∧ TreeOk ts ∧ H q = some (.dK (tblI (ts.map Prod.fst) c)) ∧
  ∀ (p : Addr) (ds : List Str) (H' : Hp), Same H H' → H p = none → ds.Perm (pls ts) → Topo ts c ds → H' p = some (.lst (ds.map V.str)) → Q (.ref p) H'
/-- goals of the edges from places that are left -/
def waitL (es : List (Str × Str × Int)) (rest : List Str) : List Str := (es.filter fun e => decide (e.1 ∈ rest)).map fun e => e.2.1
theorem waitL_more {es : List (Str × Str × Int)} {i : Nat} {e : Str × Str × Int} (rest : List Str) (h : es[i]? = some e) : waitL (es.take (i + 1)) rest = waitL (es.take i) rest ++ if e.1 ∈ rest then [e.2.1] else [] := by
  unfold waitL
  rw [take_more h, List.filter_append, List.map_append, List.filter_cons, List.filter_nil]
  by_cases m : e.1 ∈ rest
  · rw [if_pos m, if_pos (decide_eq_true m)] <;> rfl
  · rw [if_neg m, if_neg (by rw [decide_eq_false m]; decide)] <;> rfl
end FT


/-! edges_at, edge_order -/
namespace FT
open PySem L2 TL ClX LiI
section
variable {P : Program} {w : World} {K : PySem.W.Frag} {mg : Str → Option Value} {base : Heap}
abbrev NEo : List Str := ["forest", "changed", "edges", "found", "left", "place", "waiting", "goal", "amount"]
theorem scEo : FnScope NEo ["forest", "changed"] (defScope s_edge_order) := ⟨rfl, rfl, rfl, by decide +kernel, rfl, by decide +kernel, by decide +kernel⟩
theorem ok_edgeOrder {f fC fP CF : Addr} {fd fdC fdP : FuncData} (F : Fun K "edge_order" "edge_order" s_edge_order f fd) (DC : Dn P w K mg base CX0 3 "crossings" ["forest", "changed"] (spCross CF) fC fdC) (DP : Dn P w K mg base CX0 3 "places_of" ["forest"] (spPlacesOf CF) fP fdP) : FnOk P w K mg base CX0 4 f fd ["forest", "changed"] (spEdgeOrder CF) := by
  refine F.ok scEo (fun vs H Q E h => ?_) (fun cdv A outer s H vs Q E hr h => ?_)
  · obtain ⟨x, q, ts, c, rfl, _⟩ := h
    rfl
  · obtain ⟨x, q, ts, c, rfl, fa, o, hq, k⟩ := h
    have nd := scEo.nd
    have big : 1000 ≤ sizeLine := by decide
    have few := o.few
    refine ⟨_, pss_cons (ps_set (i := 2) nd rfl (.inl rfl) (pe_call DC.ok hr rfl DC.mgn DC.kp DC.bn .nil pass0 (pa_cons (pv 0) (pa_cons (pv 1) pa_nil))))
      (pss_cons (ps_asg (pe_tup (pa_cons (pe_lst pa_nil) (pa_cons (pe_call DP.ok hr rfl DP.mgn DP.kp DP.bn .nil pass0 (pa_cons (pv 0) pa_nil)) pa_nil))) (pg_tup rfl (pgs_cons (pg_name (i := 3) nd rfl (.inl rfl)) (pgs_cons (pg_name (i := 4) nd rfl (.inr rfl)) pgs_nil))))
      (pss_cons (ps_while PassesOwn.never (pt_cmpR (op_neD hr.units) (pv 4) (pe_lst pa_nil) (nomark _))
        (pss_cons (ps_set (i := 6) nd rfl (.inr rfl) (pe_lc (own := [("place", 5), ("goal", 7), ("amount", 8)]) (g := gTup K 3 (gCons (gName 5) (gCons (gName 7) (gCons (gName 8) gNil)))) (tt := tTest (tOp (rIn K false) (tVar 5) (tVar 4))) (te := tVar 7) rfl nd (pi_list (pv 2))
          (blkOk_by (N := NEo) (sc := defScope s_edge_order) (by decide +kernel)) (fun _ _ _ _ _ => pg_tup rfl (pgs_cons (pg_name (i := 5) nd rfl (Or.inl rfl)) (pgs_cons (pg_name (i := 7) nd rfl (Or.inl rfl)) (pgs_cons (pg_name (i := 8) nd rfl (Or.inl rfl)) pgs_nil))))
          (fun _ _ _ _ _ => pts_one (pt_cmpR op_in_seq (pv 5) (pv 4) rfl)) (fun _ _ _ _ _ => pv 7)))
        (pss_cons (ps_set (i := 5) nd rfl (.inl rfl) (pe_ix ix_list (pe_lc (own := [("place", 5)]) (g := gName 5) (tt := tTest (tOp (rIn K true) (tVar 5) (tVar 6))) (te := tVar 5) rfl nd (pi_list (pv 4))
          (blkOk_by (N := NEo) (sc := defScope s_edge_order) (by decide +kernel)) (fun _ _ _ _ _ => pg_name (i := 5) nd rfl (Or.inl rfl))
          (fun _ _ _ _ _ => pts_one (pt_cmpR op_notIn_seq (pv 5) (pv 6) rfl)) (fun _ _ _ _ _ => pv 5)) pe_int (fun _ _ => rfl)))
        (pss_cons (ps_expr (pe_bm PySem.F.plainAttrs_list PySem.F.slot_list_append PySem.F.type_list_append mt_append (pv 3) (pa_cons (pv 5) pa_nil)))
        (pss_one (ps_expr (pe_bm PySem.F.plainAttrs_list PySem.F.slot_list_remove PySem.F.type_list_remove mt_removeS (pv 4) (pa_cons (pv 5) pa_nil))))))))
      (pss_one (ps_ret (pv 3))))), ?_⟩
    refine ⟨_, rfl, _, rfl, x, q, ts, c, rfl, fa, o, hq, fun e rs H1 s1 ne he ed => ?_⟩
    refine ⟨by show 0 ≤ sizeLine; omega, fun fl nfl => ?_⟩
    have s2 := same_new (o := .lst []) nfl
    refine ⟨_, rfl, x, ts, rfl, (fa.mono s1).mono s2, few, fun pl H3 s3 npl hpl => ⟨by show 2 ≤ sizeLine; omega, fun tp ntp => ⟨tp, _, rfl, .inl (.inl upd_same), rfl, ?_⟩⟩⟩
    obtain ⟨H4, e4⟩ : ∃ X, X = upd H3 tp (.tup [.ref fl, .ref pl]) := ⟨_, rfl⟩
    have s34 : Same H3 H4 := e4 ▸ same_new ntp
    rw [← e4]
    have s14 : Same H1 H4 := (s2.trans s3).trans s34
    have s04 := s1.trans s14
    have hfl4 : H4 fl = some (.lst []) := s34 _ _ (s3 _ _ upd_same)
    have hpl4 : H4 pl = some (.lst ((pls ts).map V.str)) := s34 _ _ hpl
    have he4 := s14 _ _ he
    have ed4 := EdG.mono s14 ed
    have pn := pls_nd o
    have pln := pls_len ts
    have flpl : pl ≠ fl := (ne_of_none (upd_same (H := H1) (a := fl) (o := .lst [])) npl).symm
    have fl0 : H fl = none := s1.free nfl
    have pl0 : H pl = none := s1.free (s2.free npl)
    have efl : e ≠ fl := ne_of_none he nfl
    have epl : e ≠ pl := ne_of_none (s2 _ _ he) npl
    refine ⟨_, _, rfl, _, _, rfl, rfl, ?_⟩
    refine while_by (fun σ H' => (∃ u5 u6, σ = [some (.ref x), some (.ref q), some (.ref e), some (.ref fl), some (.ref pl), u5, u6, none, none]) ∧ (∀ b u, b ≠ fl → b ≠ pl → H4 b = some u → H' b = some u) ∧
        ∃ ds rest : List Str, H' fl = some (.lst (ds.map V.str)) ∧ H' pl = some (.lst (rest.map V.str)) ∧ (ds ++ rest).Perm (pls ts) ∧ Topo ts c ds) (fun _ H' => many H' pl)
      ⟨⟨none, none, rfl⟩, fun _ _ _ _ z => z, [], pls ts, hfl4, hpl4, .refl _, fun i p h => by simp at h⟩ ?_ ?_
    · rintro σ H5 ⟨⟨u5, u6, rfl⟩, kp, ds, rest, hfl, hpl5, pm, tp⟩
      have lens := pm.length_eq
      rw [List.length_append] at lens
      have ndr : (ds ++ rest).Nodup := pm.nodup_iff.mpr pn
      refine ⟨_, rfl, by show 0 ≤ sizeLine; omega, fun z nz => ⟨_, _, .lst (SqL.of (by rw [upd_ne (ne_of_none hpl5 nz)]; exact hpl5)) (dps_strs rest), .lst (SqL.of upd_same) .nil, strs_shaped (fun t ht => ?_), rfl, ?_⟩⟩
      · rcases mem_pls.mp (pm.mem_iff.mp (List.mem_append_right _ ht)) with e0 | m
        · rw [e0]
          exact strOk_root
        · exact strOk_name (o.nm _ m)
      obtain ⟨H6, e6⟩ : ∃ X, X = upd H5 z (.lst []) := ⟨_, rfl⟩
      have s56 : Same H5 H6 := e6 ▸ same_new nz
      rw [← e6]
      refine ⟨_, rfl, ite2 (fun t => ?_) (fun t => ?_)⟩
      · have rne : rest ≠ [] := fun z => by rw [z] at t; cases t
        have he6 : H6 e = some (.lst (rs.map V.ref)) := s56 _ _ (kp _ _ efl epl he4)
        have ed6 : EdG H6 rs (crs c ts) := by
          have m : ∀ {rs : List Addr} {es : List (Str × Str × Int)}, EdG H4 rs es → EdG H6 rs es := by
            intro rs es ed
            induction ed with
            | nil => exact .nil
            | cons h _ ih => exact .cons (s56 _ _ (kp _ _ (ne_of h hfl4 (by intro z; cases z)) (ne_of h hpl4 (by intro z; cases z)) h)) ih
          exact m ed4
        have hpl6 := s56 _ _ hpl5
        have hfl6 := s56 _ _ hfl
        have cl := crs_len c ts
        have lr := ed6.len
        -- waiting
        refine ⟨_, rfl, e, rfl, ⟨_, SqL.of he6⟩, fun D1 nD1 => ?_⟩
        refine lc_it walk_list (fun i H' => Same H6 H' ∧ H' D1 = some (.lst ((waitL ((crs c ts).take i) rest).map V.str))) ⟨same_new nD1, upd_same⟩ (fun i H' _ z => SqL.of (z.1 _ _ he6)) ?_ ?_
        · intro i y Hc Hd hi ⟨q1, q2⟩ ⟨eb, ey⟩
          subst eb
          obtain ⟨r, hr0, rfl⟩ := map_of ey
          obtain ⟨e1, he1, hrb⟩ := ed6.at_ hr0
          have more := waitL_more rest he1
          have wl : (waitL ((crs c ts).take i) rest).length ≤ 12 := by
            unfold waitL
            rw [List.length_map]
            have := List.length_filter_le (fun e : Str × Str × Int => decide (e.1 ∈ rest)) ((crs c ts).take i)
            rw [List.length_take] at this
            omega
          refine ⟨r, [.str e1.1, .str e1.2.1, .int e1.2.2], rfl, .inl (.inl (q1 _ _ hrb)), rfl, _, _, rfl, _, _, rfl, _, _, rfl, rfl, rfl, ?_⟩
          refine ⟨_, rfl, _, rfl, pl, _, rfl, .inl (SqL.of (q1 _ _ hpl6)), rfl, flat_strs rest, _, rfl, ?_⟩
          rw [show (if false = true then !inV (V.str e1.1) (rest.map V.str) else inV (V.str e1.1) (rest.map V.str)) = decide (e1.1 ∈ rest) from inV_strs e1.1 rest]
          refine ite2 (fun yes => ?_) (fun no => ?_)
          · have yes : e1.1 ∈ rest := of_decide_eq_true yes
            rw [if_pos yes] at more
            exact ⟨_, rfl, _, q2, by rw [List.length_map]; omega, Same.put q1 nD1, by rw [upd_same, more, List.map_append] <;> rfl⟩
          · have no : ¬ e1.1 ∈ rest := fun z => no (decide_eq_true z)
            rw [if_neg no, List.append_nil] at more
            exact ⟨q1, by rw [more]; exact q2⟩
        intro H7 ⟨s67, hD1⟩
        rw [List.length_map, lr, List.take_length] at hD1
        obtain ⟨wt, ewt⟩ : ∃ wt, wt = waitL (crs c ts) rest := ⟨_, rfl⟩
        rw [← ewt] at hD1
        have hpl7 := s67 _ _ hpl6
        -- who waits for none
        refine ⟨_, rfl, pl, rfl, ⟨_, SqL.of hpl7⟩, fun D2 nD2 => ?_⟩
        refine lc_it walk_list (fun i H' => Same H7 H' ∧ H' D2 = some (.lst (((rest.take i).filter fun p => !decide (p ∈ wt)).map V.str))) ⟨same_new nD2, upd_same⟩ (fun i H' _ z => SqL.of (z.1 _ _ hpl7)) ?_ ?_
        · intro i y Hc Hd hi ⟨q1, q2⟩ ⟨eb, ey⟩
          subst eb
          obtain ⟨p, hp, rfl⟩ := map_of ey
          have more := filter_more (c := fun p => !decide (p ∈ wt)) hp
          have fl' := List.length_filter_le (fun p => !decide (p ∈ wt)) (rest.take i)
          rw [List.length_take] at fl'
          refine ⟨rfl, ?_⟩
          refine ⟨_, rfl, _, rfl, D1, _, rfl, .inl (SqL.of (q1 _ _ hD1)), rfl, flat_strs wt, _, rfl, ?_⟩
          rw [show (if true = true then !inV (V.str p) (wt.map V.str) else inV (V.str p) (wt.map V.str)) = !decide (p ∈ wt) from congrArg not (inV_strs p wt)]
          refine ite2 (fun yes => ?_) (fun no => ?_)
          · have yes : (!decide (p ∈ wt)) = true := yes
            rw [if_pos yes] at more
            exact ⟨_, rfl, _, q2, by rw [List.length_map]; omega, Same.put q1 nD2, by rw [upd_same, more, List.map_append] <;> rfl⟩
          · have no : ¬ (!decide (p ∈ wt)) = true := no
            rw [if_neg no, List.append_nil] at more
            exact ⟨q1, by rw [more]; exact q2⟩
        intro H8 ⟨s78, hD2⟩
        rw [List.length_map, List.take_length] at hD2
        -- one is free
        obtain ⟨cand, ec⟩ : ∃ cand, cand = rest.filter fun p => !decide (p ∈ wt) := ⟨_, rfl⟩
        rw [← ec] at hD2
        have free : ∀ p, p ∈ cand ↔ p ∈ rest ∧ p ∉ wt := fun p => by
          rw [ec, List.mem_filter, Bool.not_eq_true', decide_eq_false_iff_not]
        have wtm : ∀ p, p ∈ wt → ∃ s, s ∈ rest ∧ 0 < lv ts c s p := fun p hp => by
          rw [ewt] at hp
          unfold waitL at hp
          obtain ⟨⟨s, g, a⟩, h1, rfl⟩ := List.mem_map.mp hp
          obtain ⟨h2, h3⟩ := List.mem_filter.mp h1
          exact ⟨s, of_decide_eq_true h3, (crs_lv o h2).2⟩
        have ne : cand ≠ [] := by
          obtain ⟨p, hp, mn⟩ := min_mem (lvl ts c) rne
          refine List.ne_nil_of_mem ((free p).mpr ⟨hp, fun hw => ?_⟩)
          obtain ⟨s, hs, pos⟩ := wtm p hw
          have := lvl_up o pos
          have := mn s hs
          omega
        obtain ⟨p, cs, ecs⟩ := List.exists_cons_of_ne_nil ne
        have pc := (free p).mp (by rw [ecs]; exact List.mem_cons_self ..)
        rw [ecs] at hD2
        refine ⟨D2, _, 0, .str p, rfl, rfl, SqL.of hD2, atI_nat (xs := (p :: cs).map V.str) (j := 0) (v := .str p) rfl, ?_⟩
        have s58 : Same H5 H8 := (s56.trans s67).trans s78
        refine ⟨_, rfl, .inl ⟨rfl, _, SqL.of (s58 _ _ hfl)⟩, _, rfl, fl, _, _, rfl, rfl, s58 _ _ hfl, by rw [List.length_map]; omega, ?_⟩
        obtain ⟨j, hj, ej⟩ := List.mem_iff_getElem.mp pc.1
        have ej' : rest[j]? = some p := List.getElem?_eq_some_iff.mpr ⟨hj, ej⟩
        have nrest : rest.Nodup := (List.nodup_append.mp ndr).2.1
        refine ⟨_, rfl, .inl ⟨rfl, _, SqL.of (by rw [upd_ne flpl]; exact s58 _ _ hpl5)⟩, _, rfl, pl, rest, p, j, rfl, rfl, by rw [upd_ne flpl]; exact s58 _ _ hpl5, ej', fun m hm em => ?_, ?_⟩
        · have := (List.getElem?_inj (by omega) nrest).mp (em.trans ej'.symm)
          omega
        have pe : (p :: rest.eraseIdx j).Perm rest := ej ▸ erase_perm rest j hj
        refine ⟨⟨⟨_, _, rfl⟩, fun b u b1 b2 eb => ?_, ds ++ [p], rest.eraseIdx j, ?_, upd_same, ?_, ?_⟩, ?_⟩
        · rw [upd_ne b2, upd_ne b1]
          exact s58 _ _ (kp b u b1 b2 eb)
        · rw [upd_ne flpl.symm, upd_same, List.map_append] <;> rfl
        · rw [List.append_assoc]
          exact ((List.Perm.refl ds).append pe).trans pm
        · intro i p' hp' s pos
          by_cases hi : i < ds.length
          · rw [List.getElem?_append_left hi] at hp'
            rw [List.take_append_of_le_length (Nat.le_of_lt hi)]
            exact tp i p' hp' s pos
          · have hl := (List.getElem?_eq_some_iff.mp hp').1
            rw [List.length_append] at hl
            have one : ([p] : List Str).length = 1 := rfl
            have ei : i = ds.length := by omega
            rw [ei, List.getElem?_append_right (Nat.le_refl _), Nat.sub_self] at hp'
            have ep : p = p' := Option.some.inj hp'
            subst ep
            rw [ei, List.take_left' rfl]
            have hs := pm.mem_iff.mpr (mem_pls.mpr (lv_adj o pos).1)
            rcases List.mem_append.mp hs with h | h
            · exact h
            · refine absurd ?_ pc.2
              rw [ewt]
              unfold waitL
              exact List.mem_map.mpr ⟨_, List.mem_filter.mpr ⟨lv_crs o pos, decide_eq_true h⟩, rfl⟩
        · show many _ pl < many H5 pl
          rw [many_at upd_same, many_at hpl5, List.length_map, List.length_map, List.length_eraseIdx, if_pos hj]
          omega
      · have rnil : rest = [] := by
          cases rest with
          | nil => rfl
          | cons y r => exact absurd rfl t
        subst rnil
        rw [List.append_nil] at pm
        have sf : Same H H6 := fun b u eb => s56 _ _ (kp b u (ne_of_none eb fl0) (ne_of_none eb pl0) (s04 _ _ eb))
        exact ⟨_, rfl, k fl ds H6 sf fl0 pm tp (s56 _ _ hfl)⟩
    · exact fun σ H Q Q' hm ⟨v, e, z, f⟩ => ⟨v, e, z, fun p np => let ⟨d1, d2, a1, a2, a3, a4, b, eb, q⟩ := f p np; ⟨d1, d2, a1, a2, a3, a4, b, eb, hm _ _ q⟩⟩
end
end FT


/-! edges_at -/
namespace FT
open PySem L2 TL ClX LiI
section
variable {P : Program} {w : World} {K : PySem.W.Frag} {mg : Str → Option Value} {base : Heap}
abbrev NEa : List Str := ["forest", "place", "above", "name"]
theorem scEa : FnScope NEa ["forest", "place"] (defScope s_edges_at) := ⟨rfl, rfl, rfl, by decide +kernel, rfl, by decide +kernel, by decide +kernel⟩
theorem ok_edgesAt {f CF p1 g1 : Addr} {mc : Value} {fd fd1 : FuncData} (F : Fun K "edges_at" "edges_at" s_edges_at f fd) (O : FoC K CF) (Z : Fc K mg CF mc) (L1 : Pr1 P w K mg base CF "flags" (spFFlags CF) p1 g1 fd1) : FnOk P w K mg base CX0 3 f fd ["forest", "place"] (spEdgesAt CF) := by
  obtain ⟨ur, cr⟩ := Z.root
  refine F.ok scEa (fun vs H Q E h => ?_) (fun cdv A outer s H vs Q E hr h => ?_)
  · obtain ⟨x, ts, a, rfl, _⟩ := h
    rfl
  · obtain ⟨x, ts, a, rfl, fa, o, pl, k⟩ := h
    have hu := hu_of hr
    have nd := scEa.nd
    have big : 1000 ≤ sizeLine := by decide
    have few := o.few
    refine ⟨_, pss_cons (ps_set (i := 2) nd rfl (.inl rfl) (pe_ifExp (pt_cmpR op_eq (pv 1) (pe_cval (pe_glob (v := .ref CF) (by rfl) Z.gF rfl)) (nomark _)) (pe_lst pa_nil) (pe_lst (pa_cons (pe_dget hu (pe_fld (pv 0) rfl) (pv 1) (fun _ _ => rfl)) pa_nil))))
      (pss_one (ps_ret (pe_op op_cat (pv 2) (pe_lc (own := [("name", 3)]) (g := gName 3) (tt := tTest (tOp rEq (tDGet (tFld K (tVar 0) "above") (tVar 3)) (tVar 1))) (te := tVar 3) rfl nd (pi_list (pe_prop (pv 0) O.cl L1.pr L1.fn hr L1.bn .nil pass0 (by rfl)))
        (blkOk_by (N := NEa) (sc := defScope s_edges_at) (by decide +kernel)) (fun _ _ _ _ _ => pg_name (i := 3) nd rfl (Or.inl rfl))
        (fun _ _ _ _ _ => pts_one (pt_cmpR op_eq (pe_dget hu (pe_fld (pv 0) rfl) (pv 3) (fun _ _ => rfl)) (pv 1) (nomark _))) (fun _ _ _ _ _ => pv 3))))), ?_⟩
    obtain ⟨dx, dq, hx, hd⟩ := id fa
    -- the rest, from the first list on
    have rest : ∀ (l0 : Addr) (H1 : Hp) (up : List Str), Same H H1 → H1 l0 = some (.lst (up.map V.str)) → up.length ≤ 1 → adj ts a = up ++ kids ts a → H l0 = none →
        (tOp rCat (tVar 2) (tLc (iList K (tProp CF (spFFlags CF) [] E0 (tVar 0))) (gName 3) (tTest (tOp rEq (tDGet (tFld K (tVar 0) "above") (tVar 3)) (tVar 1))) (tVar 3) [3])) [some (.ref x), some (.str a), some (.ref l0), none] H1 fun v H' => Q v H' := by
      intro l0 H1 up s1 a1 lu ea nl0
      refine ⟨_, rfl, _, rfl, x, dx, _, rfl, s1 _ _ hx, x, ts, rfl, fa.mono s1, fun pf nf => ⟨pf, rfl, ⟨_, SqL.of upd_same⟩, fun D nD => ?_⟩⟩
      obtain ⟨H2, e2⟩ : ∃ X, X = upd H1 pf (.lst ((ts.map Prod.fst).map V.str)) := ⟨_, rfl⟩
      have s12 : Same H1 H2 := e2 ▸ same_new nf
      have a2 : H2 pf = some (.lst ((ts.map Prod.fst).map V.str)) := by rw [e2]; exact upd_same
      rw [← e2] at nD ⊢
      have s2 := s1.trans s12
      refine lc_it walk_list (fun i H' => Same H2 H' ∧ H' D = some (.lst ((kids (ts.take i) a).map V.str))) ⟨same_new nD, upd_same⟩ (fun i H' _ z => SqL.of (z.1 _ _ a2)) ?_ ?_
      · intro i y Ha Hb hi ⟨q1, q2⟩ ⟨eb, ex⟩
        subst eb
        obtain ⟨b, hb, rfl⟩ := map_of ex
        obtain ⟨⟨b', pb⟩, hp, rfl⟩ := Option.map_eq_some_iff.mp (show (ts[i]?).map Prod.fst = some b by rw [← List.getElem?_map]; exact hb)
        have ep := par_of o.nd (List.mem_of_getElem? hp)
        have s0 := s2.trans q1
        have more := kids_snoc (ts.take i) (b', pb) a
        rw [← take_more hp] at more
        have kl : (kids (ts.take i) a).length ≤ 12 := by
          unfold kids
          rw [List.length_map]
          have := List.length_filter_le (fun q : Str × Str => decide (q.2 = a)) (ts.take i)
          rw [List.length_take] at this
          omega
        refine ⟨rfl, ?_⟩
        refine ⟨_, rfl, x, CF, dx, _, .ref dq, rfl, s0 _ _ hx, O.cl, O.nA, rfl, _, rfl, dq, .str pb, rfl, dget_prs (.inl (s0 _ _ hd)) ep, _, rfl, rfl, _, rfl, ?_⟩
        by_cases e : pb = a
        · rw [decide_eq_true (show V.str pb = V.str a by rw [e])]
          rw [if_pos e] at more
          show if true = true then _ else _
          rw [if_pos rfl]
          exact ⟨_, rfl, _, q2, by rw [List.length_map]; omega, Same.put q1 nD, by rw [upd_same, more, List.map_append] <;> rfl⟩
        · rw [decide_eq_false (show ¬ V.str pb = V.str a from fun z => e (V.str.inj z))]
          rw [if_neg e, List.append_nil] at more
          exact iteF ⟨q1, by rw [more]; exact q2⟩
      · intro H3 ⟨q1, q2⟩
        rw [List.length_map, List.length_map, List.take_length] at q2
        have kl : (kids ts a).length ≤ 12 := by
          unfold kids
          rw [List.length_map]
          have := List.length_filter_le (fun q : Str × Str => decide (q.2 = a)) ts
          omega
        refine ⟨l0, D, _, _, rfl, rfl, q1 _ _ (s12 _ _ a1), q2, by rw [List.length_map, List.length_map]; omega, fun p np => ?_⟩
        exact k p _ ((s2.trans q1).trans (same_new np)) ((s2.trans q1).free np) (by rw [upd_same, ea, List.map_append])
    refine ⟨_, rfl, CF, mc, _, ur, rfl, Z.rd, cr, rfl, _, rfl, ?_⟩
    by_cases e : a = ""
    · rw [decide_eq_true (show V.str a = V.str "" by rw [e])]
      refine iteT ⟨by show 0 ≤ sizeLine; omega, fun l0 nl => ?_⟩
      exact rest l0 _ [] (same_new nl) upd_same (Nat.zero_le _) (by unfold adj; rw [if_pos e]) nl
    · rw [decide_eq_false (show ¬ V.str a = V.str "" from fun z => e (V.str.inj z))]
      obtain ⟨pa, hp⟩ := par_some o.nd (pl.resolve_left e)
      refine iteF ⟨_, rfl, x, CF, dx, _, .ref dq, rfl, hx, O.cl, O.nA, rfl, _, rfl, dq, .str pa, rfl, dget_prs (.inl hd) hp, by show 1 ≤ sizeLine; omega, fun l0 nl => ?_⟩
      exact rest l0 _ [pa] (same_new nl) upd_same (Nat.le_refl _) (by unfold adj; rw [if_neg e, hp] <;> rfl) nl
end
end FT


/-! Own: dict comprehensions whose keys are tuples, and those of two clauses. What a turn does behind its tests is a parameter. -/
namespace L2
open PySem PySem.Spec PyProof.Rows
/-! ### what a turn stores -/
abbrev PutT := Addr → V → V → Hp → (Hp → Prop) → Prop
def putKey : PutT := fun D y z H N => ∃ kvs k, y = kV k ∧ H D = some (.dK kvs) ∧ kvs.length < sizeLine ∧ N (upd H D (.dK (putK kvs k z)))
def putTup : PutT := fun D y z H N => ∃ kvs k b, y = .ref b ∧ H b = some (.tup (k.map kV)) ∧ H D = some (.dT kvs) ∧ kvs.length < sizeLine ∧ N (upd H D (.dT (putK kvs k z)))
structure Puts (pt : PutT) (o0 : HO) : Prop where
  new : ∀ {P : Program} {w : World} {H : Hp} (h : Heap), sysModules < h.objs.size → ObjOk P w H (h.push { cls := .type "dict", data := .dict #[] }) h.objs.size o0
  set : ∀ {X : Cx} {pins : List (Addr × Obj)} {σ : St} {H : Hp} {s : Shared} {E : Value → Shared → Prop} {D : Addr} {y z : V} {u r : Value} {N : Hp → Prop} {Q : Unit → Shared → Prop},
    X.A.units + 1 < cLine → Inv X pins σ H s → RelV y u → RelV z r → pt D y z H N → (∀ H' s', N H' → Inv X pins σ H' s' → Q () s') → wpAny (model X.prog X.w) X.A (dictSet D u r) Q E s
theorem putsKey : Puts putKey (.dK []) := by
  refine ⟨fun h b => dk_empty h b, fun hu I ry rz p hQ => ?_⟩
  obtain ⟨kvs, k, ey, hD, l, n⟩ := p
  subst ey
  exact d_dictSet I hD l ry rz fun s' I' => hQ _ _ n I'
theorem putsTup : Puts putTup (.dT []) := by
  refine ⟨fun h b => dt_empty h b, fun hu I ry rz p hQ => ?_⟩
  obtain ⟨kvs, k, b, ey, eb, e, l, n⟩ := p
  subst ey
  cases (show _ = Value.ref b from ry)
  obtain ⟨z0, hd, xs, rel, dd⟩ := dt_of I.hok e
  have hz : xs.length ≤ sizeLine := Paired.length rel ▸ z0
  refine wpAny_dictSet_heap (hsz := hz) (knd := tupleKind _) (Nat.lt_of_succ_lt hu) (key_of I.hok eb) dd fun h' dd' hs => hQ _ _ n ?_
  obtain ⟨q, es, ep, hq, h2, h3, h4, _, h5⟩ := dd'
  refine d_write I (by rw [e]; exact True.intro) hs ⟨q, hq⟩ ⟨Nat.le_trans (length_putK kvs k _) l, hd, _, (rel.put k eb rz).keeps fun c ys ec => ?_, q, es, ep, hq, h2, h3, h4, h5⟩
  rw [upd_ne (ne_of ec e nofun)]
  exact ec
/-! ### the turns at the library's level -/
/-- one turn of the outer loop; Tl: what stands behind its tests -/
def OutTurn (M : Model) (A : Around) (R : Result → Shared → Prop) (t0 : Expr) (ifs0 : List Expr) (it : Value) (env : Env) (Tl : (Shared → Prop) → Shared → Prop) (I : Nat → Shared → Prop) : Prop := ∀ n s, I n s →
  wpAny M A (pyNext it) (fun r s₁ => match r with
    | none => R (.ok .next) s₁
    | some v => wpAny M A (letOwnedTupleGo t0 it v) (fun _ a => wpAny M A (assign t0 env v) (fun _ b =>
        wpAny M A (forIn ifs0 true fun c r => if r = true then do let ok ← isTrue c env (eval c env); pure (ForInStep.yield ok) else pure (ForInStep.yield r))
          (fun ok c => if ok = true then Tl (fun s' => ∃ m, m < n ∧ I m s') c else ∃ m, m < n ∧ I m c) (fun _ _ => False) b) (fun _ _ => False) a) (fun _ _ => False) s₁) (fun _ _ => False) s
abbrev OutRun (M : Model) (A : Around) (C : Expr) (t0 : Expr) (ifs0 : List Expr) (D : Addr) (Tl : Env → (Shared → Prop) → Shared → Prop) : Prop :=
  ∀ (it : Value) (env : Env) (R : Result → Shared → Prop) (I : Nat → Shared → Prop), OutTurn M A R t0 ifs0 it env (Tl env) I → ∀ n s, I n s → codeAny M A (.compLoop C 0 it (.ref D) env) R s
section
variable {prog : Program} {w : World} {A : Around} {R : Result → Shared → Prop} {kx vx t0 i0 t1 i1 : Expr} {ifs0 ifs1 : List Expr} {scope : Scope} {pos : Pos} {D : Addr}
/-- k: v of one turn -/
def TlKv (M : Model) (A : Around) (kx vx : Expr) (D : Addr) (env : Env) (post : Shared → Prop) (s : Shared) : Prop :=
  wpAny M A (eval kx env) (fun kv s₁ => wpAny M A (eval vx env) (fun vv s₂ => wpAny M A (dictSet D kv vv) (fun _ s₃ => post s₃) (fun _ _ => False) s₂) (fun _ _ => False) s₁) (fun _ _ => False) s
theorem outRun1 : OutRun (model prog w) A (.DictComp kx vx [⟨t0, i0, ifs0, 0⟩] scope pos) t0 ifs0 D (TlKv (model prog w) A kx vx D) := by
  intro it env R I turn n s h
  refine compLoop_anyD I (fun n s hI => thnF (turn n s hI) fun r s1 h1 => ?_) n h
  cases r with
  | none => exact h1
  | some v =>
    refine thnF h1 fun _ s2 h2 => thnF h2 fun _ s3 h3 => thnF h3 fun ok s4 h4 => ?_
    cases ok with
    | false => exact h4
    | true => exact thnF (show TlKv _ _ _ _ _ _ _ _ from h4) fun kv s5 h5 => thnF h5 fun vv s6 h6 => thnF h6 fun _ _ z => z
theorem turnOut (acc it : Value) (env : Env) :
    compTurn (.DictComp kx vx [⟨t0, i0, ifs0, 0⟩, ⟨t1, i1, ifs1, 0⟩] scope pos) 0 it acc env = (do
      standAt i0.pos
      match ← pyNext it with
      | none => pure (.done .next)
      | some u =>
        letOwnedTupleGo t0 it u
        assign t0 env u
        let mut go := true
        for c in ifs0 do
          if go then go ← isTrue c env (eval c env)
        if go then
          let y ← eval i1 env
          standAt i1.pos
          let y ← foldedSetIterable i1 env y
          let _ ← runOwn (.compStart (.DictComp kx vx [⟨t0, i0, ifs0, 0⟩, ⟨t1, i1, ifs1, 0⟩] scope pos) 1 (← holding [y] (pyIter y)) acc env) env
        again (.compLoop (.DictComp kx vx [⟨t0, i0, ifs0, 0⟩, ⟨t1, i1, ifs1, 0⟩] scope pos) 0 it acc env)) := by rfl
theorem turnIn (it : Value) (env : Env) :
    compTurn (.DictComp kx vx [⟨t0, i0, ifs0, 0⟩, ⟨t1, i1, ifs1, 0⟩] scope pos) 1 it (.ref D) env = (do
      standAt i1.pos
      match ← pyNext it with
      | none => pure (.done .next)
      | some u =>
        letOwnedTupleGo t1 it u
        assign t1 env u
        let mut go := true
        for c in ifs1 do
          if go then go ← isTrue c env (eval c env)
        if go then
          (do
            let a ← eval kx env
            let b ← holding [a] (eval vx env)
            standAt { kx.pos with endLine := vx.pos.endLine, endCol := vx.pos.endCol }
            holding [a, b] (dictSet D a b))
        again (.compLoop (.DictComp kx vx [⟨t0, i0, ifs0, 0⟩, ⟨t1, i1, ifs1, 0⟩] scope pos) 1 it (.ref D) env)) := by rfl
/-- the second source's loop -/
def TlIn (M : Model) (A : Around) (C i1 : Expr) (D : Addr) (env : Env) (post : Shared → Prop) (s : Shared) : Prop :=
  wpAny M A (eval i1 env) (fun x s₁ => wpAny M A (pyIter x) (fun it s₂ => codeAny M A (.compStart C 1 it (.ref D) env) (fun r s' => match r with
    | .ok _ => post s'
    | .error _ => False) s₂) (fun _ _ => False) s₁) (fun _ _ => False) s
theorem outRun2 (hs : ∀ env x, foldedSetIterable i1 env x = pure x) : OutRun (model prog w) A (.DictComp kx vx [⟨t0, i0, ifs0, 0⟩, ⟨t1, i1, ifs1, 0⟩] scope pos) t0 ifs0 D (TlIn (model prog w) A (.DictComp kx vx [⟨t0, i0, ifs0, 0⟩, ⟨t1, i1, ifs1, 0⟩] scope pos) i1 D) := by
  intro it env R I turn n s h
  refine codeAny_loop rfl I (fun n s hI => ?_) n h
  show wpAny _ A ((compTurn (.DictComp kx vx [⟨t0, i0, ifs0, 0⟩, ⟨t1, i1, ifs1, 0⟩] scope pos) 0 it (.ref D) env).onRaise _) _ _ s
  refine wpAny_noted ?_
  rw [turnOut]
  refine wpAny_bind (wpAny_standAt (wpAny_bind (thnF (turn n s hI) fun r s1 h1 => ?_)))
  cases r with
  | none => exact wpAny_pure h1
  | some v =>
    refine wpAny_bind (thnF h1 fun _ s2 h2 => wpAny_bind (thnF h2 fun _ s3 h3 => wpAny_bind (thnF h3 fun ok s4 h4 => ?_)))
    cases ok with
    | false => exact wpAny_pure ⟨rfl, h4⟩
    | true =>
      have h4 : TlIn (model prog w) A _ i1 D env _ s4 := h4
      refine wpAny_bind (thnF h4 fun x s5 h5 => wpAny_bind (wpAny_standAt (wpAny_bind (wpAny_of_eq (hs env x) (wpAny_bind (wpAny_holding (thnF h5 fun i2 s6 h6 => ?_)))))))
      refine wpAny_bind (wpAny_runOwn ?_)
      rw [Around.mark_none]
      refine codeAny_mono h6 fun r s' hr => ?_
      cases r with
      | error e => exact hr.elim
      | ok f => first | exact wpAny_pure ⟨rfl, hr⟩ | exact wpAny_bind (wpAny_pure (wpAny_pure ⟨rfl, hr⟩))
theorem inRun (it : Value) (env : Env) (R : Result → Shared → Prop) (I : Nat → Shared → Prop) (turn : OutTurn (model prog w) A R t1 ifs1 it env (TlKv (model prog w) A kx vx D env) I) (n : Nat) (s : Shared) (h : I n s) :
    codeAny (model prog w) A (.compLoop (.DictComp kx vx [⟨t0, i0, ifs0, 0⟩, ⟨t1, i1, ifs1, 0⟩] scope pos) 1 it (.ref D) env) R s := by
  refine codeAny_loop rfl I (fun n s hI => ?_) n h
  show wpAny _ A ((compTurn (.DictComp kx vx [⟨t0, i0, ifs0, 0⟩, ⟨t1, i1, ifs1, 0⟩] scope pos) 1 it (.ref D) env).onRaise _) _ _ s
  refine wpAny_noted ?_
  rw [turnIn]
  refine wpAny_bind (wpAny_standAt (wpAny_bind (thnF (turn n s hI) fun r s1 h1 => ?_)))
  cases r with
  | none => exact wpAny_pure h1
  | some v =>
    refine wpAny_bind (thnF h1 fun _ s2 h2 => wpAny_bind (thnF h2 fun _ s3 h3 => wpAny_bind (thnF h3 fun ok s4 h4 => ?_)))
    cases ok with
    | false => exact wpAny_pure ⟨rfl, h4⟩
    | true =>
      have h4 : TlKv (model prog w) A kx vx D env _ s4 := h4
      exact wpAny_bind (wpAny_bind (thnF h4 fun a s5 h5 => wpAny_bind (wpAny_holding (thnF h5 fun b s6 h6 => wpAny_bind (wpAny_standAt (wpAny_holding (thnF h6 fun _ s7 h7 => wpAny_pure ⟨rfl, h7⟩)))))))
/-- the second clause's start -/
theorem inStart {it : Value} {env : Env} {s : Shared} (h0 : codeAny (model prog w) A (.compLoop (.DictComp kx vx [⟨t0, i0, ifs0, 0⟩, ⟨t1, i1, ifs1, 0⟩] scope pos) 1 it (.ref D) env) R s)
    (h : wpAny (model prog w) A (pyIter it) (fun i2 s' => codeAny (model prog w) A (.compLoop (.DictComp kx vx [⟨t0, i0, ifs0, 0⟩, ⟨t1, i1, ifs1, 0⟩] scope pos) 1 i2 (.ref D) env) R s') (notedBy (model prog w) A env fun x s' => R (.error x) s') s) :
    codeAny (model prog w) A (.compStart (.DictComp kx vx [⟨t0, i0, ifs0, 0⟩, ⟨t1, i1, ifs1, 0⟩] scope pos) 1 it (.ref D) env) R s := by
  refine codeAny_of_tree ?_
  show wpAny _ _ ((compStart (.DictComp kx vx [⟨t0, i0, ifs0, 0⟩, ⟨t1, i1, ifs1, 0⟩] scope pos) 1 it (.ref D) env).onRaise _) _ _ s
  refine wpAny_notedAt ?_
  unfold compStart
  show wpAny _ _ (ask >>= _) _ _ s
  refine wpAny_bind (wpAny_askSetting (wpAny_ite ?_))
  split
  · first | exact wpAny_bind (wpAny_pure (wpAny_pure (And.intro rfl h0))) | exact wpAny_pure (And.intro rfl h0)
  · refine wpAny_bind (wpAny_rule ?_)
    first
      | exact wpAny_bind (wpAny_standAt (wpAny_bind (wpAny_mono h (fun i2 s' z => wpAny_pure (And.intro rfl z)) fun _ _ x => x)))
      | (show wpAny _ _ (standAt i1.pos >>= _) _ _ s; exact wpAny_bind (wpAny_standAt (wpAny_bind (wpAny_mono h (fun i2 s' z => wpAny_pure (And.intro rfl z)) fun _ _ x => x))))
end
/-! ### over the layer -/
section
variable {X : Cx}
/-- {.. for target in iter if ..}, D the new dict; tl: what a turn asks behind its tests, Nx what is wanted of it -/
def tDcG (o0 : HO) (wi : TI) (g : TG) (tt : TT) (tl : Addr → St → Hp → (Hp → Prop) → Prop) (vs : List Nat) : TE := fun σ H Q => wi σ H fun J H1 => ∀ D, H1 D = none → ∃ W : Nat → Nat → Hp → Prop, (∃ m, W 0 m (upd H1 D o0)) ∧
  ∀ i m H, W i m H → (J.stop i H ∧ Q (.ref D) H) ∨ (J.go i H ∧ ∃ Nx : Hp → Prop, (∀ H', Nx H' → ∃ m', m' < m ∧ W (i + 1) m' H') ∧ ∀ x H', J.yld i H x H' → g x (wipe σ vs) H' fun σ2 H2 => wipe σ2 vs = wipe σ vs ∧ tt σ2 H2 fun b H3 => if b = true then tl D σ2 H3 Nx else Nx H3)
/-- behind the tests: k: v -/
def tlKv (pt : PutT) (tk tv : TE) : Addr → St → Hp → (Hp → Prop) → Prop := fun D σ H N => tk σ H fun y H1 => tv σ H1 fun z H2 => pt D y z H2 N
/-- behind the tests: a second source -/
def tlIn (pt : PutT) (wi1 : TI) (g1 : TG) (tt1 : TT) (tk tv : TE) (vs1 : List Nat) : Addr → St → Hp → (Hp → Prop) → Prop := fun D σ H N => wi1 σ H fun J1 H4 => ∃ W1 : Nat → Nat → Hp → Prop, (∃ m, W1 0 m H4) ∧
  ∀ j k H, W1 j k H → (J1.stop j H ∧ N H) ∨ (J1.go j H ∧ ∃ Nx1 : Hp → Prop, (∀ H', Nx1 H' → ∃ k', k' < k ∧ W1 (j + 1) k' H') ∧ ∀ x H', J1.yld j H x H' → g1 x (wipe σ vs1) H' fun σ3 H5 => wipe σ3 vs1 = wipe σ vs1 ∧ tt1 σ3 H5 fun b H6 => if b = true then tlKv pt tk tv D σ3 H6 Nx1 else Nx1 H6)
/-- a turn's end, in a block of X -/
def TailOk (X : Cx) (scope : Scope) (own : List (Str × Nat)) (Tl : Addr → Env → (Shared → Prop) → Shared → Prop) (tl : Addr → St → Hp → (Hp → Prop) → Prop) : Prop :=
  ∀ (s0 : Shared) (H0 : Hp) (C : Addr) (cl : List (Str × Addr)) (fp : List Addr) (D : Addr) (pins : List (Addr × Obj)) (s : Shared) (σ : St) (H : Hp) (N : Hp → Prop) (post : Shared → Prop), Inv (X.blk s0 H0 scope (compEnvC scope cl C X.env) fp) pins σ H s → tl D σ H N →
    (∀ (σ' : St) (s' : Shared) (H' : Hp), Inv (X.blk s0 H0 scope (compEnvC scope cl C X.env) fp) pins σ' H' s' → σ'.length = σ.length → (∀ (j : Nat) v, j ∉ own.map (·.2) → σ[j]? = some (some v) → σ'[j]? = some (some v)) → N H' → post s') → Tl D (compEnvC scope cl C X.env) post s
theorem dcG_core {pt : PutT} {o0 : HO} {pins : List (Addr × Obj)} {s : Shared} {σ : St} {H : Hp} {Q : VK} {kx vx tg iter : Expr} {ifs : List Expr} {rest : List Comprehension} {scope : Scope} {own : List (Str × Nat)} {pos pos' : Pos} {wi : TI} {g : TG} {tt : TT}
    {tl : Addr → St → Hp → (Hp → Prop) → Prop} {Tl : Addr → Env → (Shared → Prop) → Shared → Prop} {use : Option (Value → Sem Unit)} {Qf : Value → Shared → Prop} (pu : Puts pt o0) (hc : X.calm = true) (hN : X.N.Nodup) (I : Inv X pins σ H s) (hi : PI X tg iter wi) (ok : BlkOk X.N X.env.scope scope own)
    (hg : ∀ s H C cl fp, PG (X.blk s H scope (compEnvC scope cl C X.env) fp) tg g) (ht : ∀ s H C cl fp, PTs (X.blk s H scope (compEnvC scope cl C X.env) fp) ifs tt) (hs : ∀ x, foldedSetIterable iter X.env x = pure x)
    (hR : ∀ D, OutRun (model X.prog X.w) X.A (.DictComp kx vx (⟨tg, iter, ifs, 0⟩ :: rest) scope pos) tg ifs D (Tl D)) (hT : TailOk X scope own Tl tl) (h : tDcG o0 wi g tt tl (own.map (·.2)) σ H Q)
    (fin : ∀ D C s' m H', Inv X pins σ H' s' → Q (.ref D) H' → s'.heap.Ns C m → FpOk X pins H' C → compPost (model X.prog X.w) X.A X.xe use Qf (.ref D) C (.ok .next) s') :
    wpAny (model X.prog X.w) X.A (comprehension (.DictComp kx vx (⟨tg, iter, ifs, 0⟩ :: rest) scope pos) scope X.env pos' newDict false (eval iter X.env) use) Qf X.xe s := by
  have cells : ∀ y ∈ scope.names, y.2 = .free → ∃ c, X.env.cells.lookup y.1 = some c := fun y hy e => (ok.free y hy e).elim (fun k => I.ok.has _ (.inl k)) fun k => I.ok.has _ (.inr k)
  refine wpAny_comprehension_free (use := use) rfl hs (closure_ok cells) ok.kind (fun y hy e => by rw [ok.uniq y hy, e]) (thn (hi.run pins s σ H _ I h) fun xv s1 hx => thn hx fun itv s2 ⟨it, fp, tn, J, H2, e, I2, T, st2, f2, q⟩ => ?_)
  subst e
  refine wpAny_newObj_type (newEnv_comp ?_)
  generalize hD : s2.heap.objs.size = D
  obtain ⟨W, ⟨m0, w0⟩, turn⟩ := q D (I2.hok.fresh (Nat.le_of_eq hD))
  obtain ⟨s3, e3⟩ : ∃ z : Shared, z = { s2 with heap := s2.heap.push { cls := .type "dict", data := .dict #[] } } := ⟨_, rfl⟩
  have h3 : s3.heap = s2.heap.push { cls := .type "dict", data := .dict #[] } := by rw [e3]
  rw [← e3]
  obtain ⟨H3, eH3⟩ : ∃ z, z = upd H2 D o0 := ⟨_, rfl⟩
  rw [← eH3] at w0
  have I3 : Inv X pins σ H3 s3 := by
    rw [e3, eH3]
    refine I2.laid (t' := s2.toks) (fun b o e => Heap.get?_push_of_some _ e) (Nat.le_of_eq hD) ?_
    rw [← hD]
    exact pu.new s2.heap I2.big
  have f3 : ∀ b ∈ fp, FpOk X pins H3 b ∧ b < s3.heap.objs.size := fun b hb => by
    obtain ⟨o, eo, _⟩ := T.obj _ _ st2 b hb
    have lt := Heap.lt_size eo
    refine ⟨⟨?_, (f2 b hb).2⟩, by rw [h3, Heap.size_push]; exact Nat.lt_succ_of_lt lt⟩
    rw [eH3, upd_ne (by rw [← hD]; exact Nat.ne_of_lt lt)]
    exact (f2 b hb).1
  have st3 : tn 0 s3.heap := T.keep _ _ _ st2 fun b _ o e => by rw [h3]; exact Heap.get?_push_of_some _ e
  have I4 := block_start I3 ok hN f3
  have pg := hg s3 H3 s3.heap.objs.size (cellsFrom (s3.heap.objs.size + 1) scope.names (cloFrom X.env.cells scope.names [])) fp
  have pts := ht s3 H3 s3.heap.objs.size (cellsFrom (s3.heap.objs.size + 1) scope.names (cloFrom X.env.cells scope.names [])) fp
  have ptl := hT s3 H3 s3.heap.objs.size (cellsFrom (s3.heap.objs.size + 1) scope.names (cloFrom X.env.cells scope.names [])) fp D
  show codeAny _ _ (.compStart (.DictComp kx vx (⟨tg, iter, ifs, 0⟩ :: rest) scope pos) 0 (.ref it) (.ref D) (compEnvC scope (cellsFrom (s3.heap.objs.size + 1) scope.names (cloFrom X.env.cells scope.names [])) s3.heap.objs.size X.env)) (compPost (model X.prog X.w) X.A X.xe use Qf (.ref D) s3.heap.objs.size) { s3 with heap := pushCells (s3.heap.push { cls := .type "dict", data := .dict #[] }) scope.names }
  generalize hce : compEnvC scope (cellsFrom (s3.heap.objs.size + 1) scope.names (cloFrom X.env.cells scope.names [])) s3.heap.objs.size X.env = ce at I4 pg pts ptl ⊢
  have cL : ce.locals = s3.heap.objs.size := by rw [← hce] <;> rfl
  generalize hs4 : ({ s3 with heap := pushCells (s3.heap.push { cls := .type "dict", data := .dict #[] }) scope.names } : Shared) = s4 at I4 ⊢
  have st4 : tn 0 s4.heap := T.keep _ _ _ st3 fun b _ o e => by rw [← hs4]; exact pushCells_keeps _ _ _ _ (Heap.get?_push_of_some _ e)
  have off : ∀ {σ' : St} {H' : Hp} {s' : Shared}, Inv (X.blk s3 H3 scope ce fp) [] σ' H' s' → (∀ b ∈ fp, H' b = none) → ∀ b ∈ fp, FpOk (X.blk s3 H3 scope ce fp) [] H' b := fun {σ' H' s'} I' hn b hb =>
    ⟨hn b hb, (I'.ok.exf b hb).1, I'.ok.exfs b hb, .inl hb, fun x c e => (I'.ok.exf b hb).2 x c e, fun p hp => absurd (show p ∈ ([] : List (Addr × Obj)) ++ [] from hp) (by simp)⟩
  have loop : codeAny (model X.prog X.w) X.A (.compLoop (.DictComp kx vx (⟨tg, iter, ifs, 0⟩ :: rest) scope pos) 0 (.ref it) (.ref D) ce) (compPost (model X.prog X.w) X.A X.xe use Qf (.ref D) s3.heap.objs.size) s4 := by
    refine hR D (.ref it) ce _ (fun n s' => ∃ i H', Inv (X.blk s3 H3 scope ce fp) [] (wipe σ (own.map (·.2))) H' s' ∧ tn i s'.heap ∧ (∀ b ∈ fp, H' b = none) ∧ W i n H') ?_ m0 s4 ⟨0, H3, I4, st4, fun b hb => (f3 b hb).1.1, w0⟩
    rintro n s5 ⟨i, H5, I5, st5, n5, w5⟩
    rcases turn i n H5 w5 with ⟨stop, qq⟩ | ⟨go, Nx, hNx, step⟩
    · refine thnF (T.done (X.blk s3 H3 scope ce fp) rfl rfl rfl hc i [] s5 _ H5 (fun _ _ => False) I5 (off I5 n5) st5 stop) fun r s6 ⟨hr, I6⟩ => ?_
      subst hr
      have I7 : Inv X pins σ H5 s6 := I3.call' (ch := fp) I6.os I6.base I6.hok I6.bare fun b hb => ⟨(f3 b hb).1.2.2.2.1, (f3 b hb).1.2.1, (f3 b hb).1.2.2.2.2.1, (f3 b hb).1.2.2.2.2.2⟩
      have nC : H5 s3.heap.objs.size = none := cL ▸ (show H5 ce.locals = none from I6.free)
      obtain ⟨m, hn, _⟩ := I6.loc
      exact fin D s3.heap.objs.size s6 m H5 I7 qq (cL ▸ (show s6.heap.Ns ce.locals m from hn)) (I3.fpOk (Nat.le_refl _) nC)
    · refine thnF (T.item (X.blk s3 H3 scope ce fp) rfl rfl rfl hc i [] s5 _ H5 (fun _ _ => False) I5 (off I5 n5) st5 go) fun r s6 ⟨u, hr, h6⟩ => ?_
      subst hr
      refine thnF h6 fun _ s7 ⟨x, H7, I7, r7, y7, st7, n7⟩ => thnF (pg.run _ s7 _ H7 x u _ (I7.pinned (off I7 n7) (T.obj _ _ st7)) r7 (step x H7 y7)) fun _ s8 ⟨σ8, H8, I8, hw8, q8⟩ => thnF (pts.run _ s8 σ8 H8 _ I8 q8) fun b s9 ⟨H9, I9, q9⟩ => ?_
      -- the next turn, from what a turn's end leaves
      have on : ∀ (σ' : St) (s' : Shared) (H' : Hp), Inv (X.blk s3 H3 scope ce fp) ([] ++ pinsAt fp s7.heap) σ' H' s' → σ'.length = σ8.length → (∀ (j : Nat) v, j ∉ own.map (·.2) → σ8[j]? = some (some v) → σ'[j]? = some (some v)) → Nx H' →
          ∃ m, m < n ∧ ∃ i H', Inv (X.blk s3 H3 scope ce fp) [] (wipe σ (own.map (·.2))) H' s' ∧ tn i s'.heap ∧ (∀ b ∈ fp, H' b = none) ∧ W i m H' := fun σ' s' H' I' hl hk nx => by
        obtain ⟨m', hm, w'⟩ := hNx H' nx
        have pin' : ∀ b ∈ fp, ∀ o, s7.heap.get? b = some o → s'.heap.get? b = some o ∧ H' b = none := fun b hb o e =>
          have z := I'.pin (b, o) (List.mem_append_right _ (List.mem_append_right _ (mem_pinsAt hb e)))
          ⟨z.1, z.2.1⟩
        refine ⟨m', hm, i + 1, H', (I'.unpinned (pins := [])).weak (by rw [← hw8, wipe_length, hl]) (fun j v e => ?_), T.keep _ _ _ st7 fun b hb o e => (pin' b hb o e).1, fun b hb => ?_, w'⟩
        · rw [← hw8] at e
          obtain ⟨e1, e2⟩ := wipe_some e
          exact hk j v e2 e1
        · obtain ⟨o, e, _⟩ := T.obj _ _ st7 b hb
          exact (pin' b hb o e).2
      cases b with
      | false =>
        simp only [Bool.false_eq_true, if_false] at q9 ⊢
        exact on σ8 s9 H9 I9 rfl (fun _ _ _ z => z) q9
      | true =>
        simp only [if_true] at q9 ⊢
        exact ptl _ s9 σ8 H9 Nx _ I9 q9 on
  exact codeAny_compStart_dict loop (T.self X.A 0 _ _ _ st4 loop)
section
variable {pt : PutT} {o0 : HO} {kx vx tg iter tg1 iter1 : Expr} {ifs ifs1 : List Expr} {scope : Scope} {own : List (Str × Nat)} {vs1 : List Nat} {pos : Pos} {wi wi1 : TI} {g g1 : TG} {tt tt1 : TT} {tk tv : TE}
theorem tailKv (pu : Puts pt o0) (hu : X.A.units + 1 < cLine) (hk : ∀ s H C cl fp, PE (X.blk s H scope (compEnvC scope cl C X.env) fp) kx tk) (he : ∀ s H C cl fp, PE (X.blk s H scope (compEnvC scope cl C X.env) fp) vx tv) :
    TailOk X scope own (TlKv (model X.prog X.w) X.A kx vx) (tlKv pt tk tv) := by
  intro s0 H0 C cl fp D pins s σ H N post I h on
  refine thnF ((hk s0 H0 C cl fp).run pins s σ H _ I h) fun a s1 ⟨y, H1, I1, r1, q1⟩ => ?_
  refine thnF ((he s0 H0 C cl fp).run pins s1 σ H1 _ I1 q1) fun b s2 ⟨z, H2, I2, r2, q2⟩ => ?_
  exact pu.set (X := X.blk s0 H0 scope (compEnvC scope cl C X.env) fp) hu I2 r1 r2 q2 fun H' s' n I' => on σ s' H' I' rfl (fun _ _ _ z => z) n
theorem tailIn (pu : Puts pt o0) (hc : X.calm = true) (hu : X.A.units + 1 < cLine) (hv : ∀ i ∈ vs1, i ∈ own.map (·.2)) (hi1 : ∀ s H C cl fp, PI (X.blk s H scope (compEnvC scope cl C X.env) fp) tg1 iter1 wi1) (hg1 : ∀ s H C cl fp, PG (X.blk s H scope (compEnvC scope cl C X.env) fp) tg1 g1)
    (ht1 : ∀ s H C cl fp, PTs (X.blk s H scope (compEnvC scope cl C X.env) fp) ifs1 tt1) (hk : ∀ s H C cl fp, PE (X.blk s H scope (compEnvC scope cl C X.env) fp) kx tk) (he : ∀ s H C cl fp, PE (X.blk s H scope (compEnvC scope cl C X.env) fp) vx tv) :
    TailOk X scope own (TlIn (model X.prog X.w) X.A (.DictComp kx vx [⟨tg, iter, ifs, 0⟩, ⟨tg1, iter1, ifs1, 0⟩] scope pos) iter1) (tlIn pt wi1 g1 tt1 tk tv vs1) := by
  intro s0 H0 C cl fp D pins s σ H N post I h on
  have pi1 := hi1 s0 H0 C cl fp
  have pg1 := hg1 s0 H0 C cl fp
  have pt1 := ht1 s0 H0 C cl fp
  have pk := hk s0 H0 C cl fp
  have pv := he s0 H0 C cl fp
  generalize hce : compEnvC scope cl C X.env = ce at *
  refine thnF (pi1.run pins s σ H _ I h) fun xv s1 hx => thnF hx fun itv s2 ⟨it1, fp1, tn1, J1, H2, e1, I2, T1, st2, f2, W1, ⟨m1, w1⟩, turn1⟩ => ?_
  subst e1
  have off1 : ∀ {H' : Hp}, (∀ b ∈ fp1, H' b = none) → ∀ b ∈ fp1, FpOk (X.blk s0 H0 scope ce fp) pins H' b := fun hn b hb => ⟨hn b hb, (f2 b hb).2⟩
  have loop1 : codeAny (model X.prog X.w) X.A (.compLoop (.DictComp kx vx [⟨tg, iter, ifs, 0⟩, ⟨tg1, iter1, ifs1, 0⟩] scope pos) 1 (.ref it1) (.ref D) ce) (fun r s' => match r with
      | .ok _ => post s'
      | .error _ => False) s2 := by
    refine inRun (.ref it1) ce _ (fun k s' => ∃ j H', Inv (X.blk s0 H0 scope ce fp) pins (wipe σ vs1) H' s' ∧ tn1 j s'.heap ∧ (∀ b ∈ fp1, H' b = none) ∧ W1 j k H') ?_ m1 s2 ⟨0, H2, I2.weak (wipe_length _ _) (fun j v e => (wipe_some e).1), st2, fun b hb => (f2 b hb).1, w1⟩
    rintro k s3 ⟨j, H3, I3, st3, n3, w3⟩
    rcases turn1 j k H3 w3 with ⟨stop, nx⟩ | ⟨go, Nx1, hN1, step1⟩
    · refine thnF (T1.done (X.blk s0 H0 scope ce fp) rfl rfl rfl hc j _ s3 (wipe σ vs1) H3 (fun _ _ => False) I3 (off1 n3) st3 stop) fun r s4 ⟨hr, I4⟩ => ?_
      subst hr
      exact on (wipe σ vs1) s4 H3 I4 (wipe_length _ _) (fun j v nj e => (wipe_out fun z => nj (hv j z)).trans e) nx
    · refine thnF (T1.item (X.blk s0 H0 scope ce fp) rfl rfl rfl hc j _ s3 (wipe σ vs1) H3 (fun _ _ => False) I3 (off1 n3) st3 go) fun r s4 ⟨u1, hr, h4⟩ => ?_
      subst hr
      refine thnF h4 fun _ s5 ⟨x1, H5, I5, r5, y5, st5, n5⟩ => thnF (pg1.run _ s5 (wipe σ vs1) H5 x1 u1 _ (I5.pinned (off1 n5) (T1.obj _ _ st5)) r5 (step1 x1 H5 y5)) fun _ s6 ⟨σ6, H6, I6, hw6, q6⟩ => thnF (pt1.run _ s6 σ6 H6 _ I6 q6) fun b s7 ⟨H7, I7, q7⟩ => ?_
      have on1 : ∀ {s' : Shared} {H' : Hp}, Inv (X.blk s0 H0 scope ce fp) (pins ++ pinsAt fp1 s5.heap) σ6 H' s' → Nx1 H' → ∃ m, m < k ∧ ∃ j H', Inv (X.blk s0 H0 scope ce fp) pins (wipe σ vs1) H' s' ∧ tn1 j s'.heap ∧ (∀ b ∈ fp1, H' b = none) ∧ W1 j m H' := fun {s' H'} I' nx => by
        obtain ⟨m', hm, w'⟩ := hN1 H' nx
        have pin' : ∀ b ∈ fp1, ∀ o, s5.heap.get? b = some o → s'.heap.get? b = some o ∧ H' b = none := fun b hb o e =>
          have z := I'.pin (b, o) (List.mem_append_right _ (List.mem_append_right _ (mem_pinsAt hb e)))
          ⟨z.1, z.2.1⟩
        refine ⟨m', hm, j + 1, H', I'.unpinned.weak (by rw [← hw6, wipe_length]) (fun j v e => (wipe_some (hw6.symm ▸ e)).1), T1.keep _ _ _ st5 fun b hb o e => (pin' b hb o e).1, fun b hb => ?_, w'⟩
        obtain ⟨o, e, _⟩ := T1.obj _ _ st5 b hb
        exact (pin' b hb o e).2
      cases b with
      | false =>
        simp only [Bool.false_eq_true, if_false] at q7 ⊢
        exact on1 I7 q7
      | true =>
        simp only [if_true] at q7 ⊢
        exact thnF (pk.run _ s7 σ6 H7 _ I7 q7) fun a s8 ⟨y, H8, I8, r8, q8⟩ => thnF (pv.run _ s8 σ6 H8 _ I8 q8) fun b s9 ⟨z, H9, I9, r9, q9⟩ => pu.set (X := X.blk s0 H0 scope ce fp) hu I9 r8 r9 q9 fun H' s' n I' => on1 I' n
  exact inStart loop1 (T1.self X.A 0 _ _ _ st2 loop1)
/-- {k: v for target in iter if .. for target2 in iter2 if ..} -/
theorem pe_dc2 (hc : X.calm = true) (hN : X.N.Nodup) (hu : X.A.units + 1 < cLine) (hi : PI X tg iter wi) (ok : BlkOk X.N X.env.scope scope own) (hv : ∀ i ∈ vs1, i ∈ own.map (·.2)) (hg : ∀ s H C cl fp, PG (X.blk s H scope (compEnvC scope cl C X.env) fp) tg g) (ht : ∀ s H C cl fp, PTs (X.blk s H scope (compEnvC scope cl C X.env) fp) ifs tt)
    (hi1 : ∀ s H C cl fp, PI (X.blk s H scope (compEnvC scope cl C X.env) fp) tg1 iter1 wi1) (hg1 : ∀ s H C cl fp, PG (X.blk s H scope (compEnvC scope cl C X.env) fp) tg1 g1) (ht1 : ∀ s H C cl fp, PTs (X.blk s H scope (compEnvC scope cl C X.env) fp) ifs1 tt1)
    (hk : ∀ s H C cl fp, PE (X.blk s H scope (compEnvC scope cl C X.env) fp) kx tk) (he : ∀ s H C cl fp, PE (X.blk s H scope (compEnvC scope cl C X.env) fp) vx tv) (hs : ∀ x, foldedSetIterable iter X.env x = pure x := by intro _; rfl) (hs1 : ∀ env x, foldedSetIterable iter1 env x = pure x := by intro _ _; rfl) :
    PE X (.DictComp kx vx [⟨tg, iter, ifs, 0⟩, ⟨tg1, iter1, ifs1, 0⟩] scope pos) (tDcG (.dK []) wi g tt (tlIn putKey wi1 g1 tt1 tk tv vs1) (own.map (·.2))) := by
  refine ⟨fun pins s σ H Q I h => ?_⟩
  rw [arm_eval_DictComp]
  exact dcG_core putsKey hc hN I hi ok hg ht hs (fun D => outRun2 hs1) (tailIn putsKey hc hu hv hi1 hg1 ht1 hk he) h fun D C s' m H' I' q hn ⟨f0, f1, f2, f3, f4, f5⟩ => ⟨m, hn, fun h2 sb => ⟨.ref D, H', I'.turned (t' := s'.toks) (fun b o hb e => (sb.2 b hb).trans e) f0 f1 f3 f4 f5, rfl, q⟩⟩
/-- y = {(..): v for ..}, y a local -/
theorem ps_setDcT {i : Nat} {y : Str} {py spos : Pos} (hc : X.calm = true) (nd : X.N.Nodup) (hu : X.A.units + 1 < cLine) (hy : X.N[i]? = some y) (loc : X.env.scope.names.lookup y = some .local) (sw : swapsWith (.DictComp kx vx [⟨tg, iter, ifs, 0⟩] scope pos) (some (.Name y py)) spos.line X.env = pure true) (hi : PI X tg iter wi) (ok : BlkOk X.N X.env.scope scope own)
    (hg : ∀ s H C cl fp, PG (X.blk s H scope (compEnvC scope cl C X.env) fp) tg g) (ht : ∀ s H C cl fp, PTs (X.blk s H scope (compEnvC scope cl C X.env) fp) ifs tt)
    (hk : ∀ s H C cl fp, PE (X.blk s H scope (compEnvC scope cl C X.env) fp) kx tk) (he : ∀ s H C cl fp, PE (X.blk s H scope (compEnvC scope cl C X.env) fp) vx tv) (hs : ∀ x, foldedSetIterable iter X.env x = pure x := by intro _; rfl) :
    PS X (.Assign [.Name y py] (.DictComp kx vx [⟨tg, iter, ifs, 0⟩] scope pos) spos) (tAsg (tDcG (.dT []) wi g tt (tlKv putTup tk tv) (own.map (·.2))) (gName i)) := by
  constructor
  intro pins s σ H D I h
  have want : tDcG (.dT []) wi g tt (tlKv putTup tk tv) (own.map (·.2)) σ H (fun x H1 => gName i x σ H1 D.nx) := h
  rw [exec_Assign_Name_used _ _ _ _ sw]
  refine wpAny_bind (wpAny_standAt (wpAny_bind ?_))
  show wpAny _ X.A (do let _ ← comprehension (.DictComp kx vx [⟨tg, iter, ifs, 0⟩] scope pos) scope X.env (firstIterPos [⟨tg, iter, ifs, 0⟩] pos) newDict false (eval iter X.env) (some (assign (.Name y py) X.env))) _ _ s
  refine wpAny_bind (thn (dcG_core (Qf := fun _ s' => SP X pins D .next s') putsTup hc nd I hi ok hg ht hs (fun D => outRun1) (tailKv putsTup hu hk he) want fun L C s' m H' J q hn f => ?_) fun _ _ z => wpAny_pure (wpAny_pure z))
  show wpAny _ _ (assign (.Name y py) X.env (.ref L)) _ _ _
  refine wpAny_assign_Name (store_ok2 (v := V.ref L) J nd hy (.inl loc) rfl (fun s2 J2 ⟨a, sb, ha⟩ => ?_) (.inr loc))
  obtain ⟨z0, z1, z2, z3, z4, z5⟩ := f
  have off : C ≠ a := ha.elim (fun e => e ▸ z1) fun e => (z4 y a e).symm
  exact ⟨m, hn.sameBut sb off, fun h3 sb3 => ⟨_, H', J2.turned (t' := s2.toks) (fun b o hb e => (sb3.2 b hb).trans e) z0 z1 z3 z4 z5, q⟩⟩
end
end
end L2


/-! changed_lists -/
namespace FT
open PySem L2 TL ClX LiI
theorem dcG_it {J : It} {n : Nat} {G : Hp → Prop} {Y : Nat → Hp → V → Hp → Prop} (w : Walk J n G Y) {g : TG} {tt : TT} {tl : Addr → St → Hp → (Hp → Prop) → Prop} {vs : List Nat} {σ : St} {H1 : Hp} {D : Addr} {o0 : HO} {Qd : Hp → Prop} (Pv : Nat → Hp → Prop) (h0 : Pv 0 (upd H1 D o0)) (hG : ∀ i H, i ≤ n → Pv i H → G H)
    (hs : ∀ i x H H', i < n → Pv i H → Y i H x H' → g x (wipe σ vs) H' fun σ2 H2 => wipe σ2 vs = wipe σ vs ∧ tt σ2 H2 fun b H3 => if b = true then tl D σ2 H3 (Pv (i + 1)) else Pv (i + 1) H3) (hd : ∀ H, Pv n H → Qd H) :
    ∃ W : Nat → Nat → Hp → Prop, (∃ m, W 0 m (upd H1 D o0)) ∧ ∀ i m H, W i m H → (J.stop i H ∧ Qd H) ∨ (J.go i H ∧ ∃ Nx : Hp → Prop, (∀ H', Nx H' → ∃ m', m' < m ∧ W (i + 1) m' H') ∧
      ∀ x H', J.yld i H x H' → g x (wipe σ vs) H' fun σ2 H2 => wipe σ2 vs = wipe σ vs ∧ tt σ2 H2 fun b H3 => if b = true then tl D σ2 H3 Nx else Nx H3) := by
  refine ⟨fun i m H => m = n - i ∧ i ≤ n ∧ Pv i H, ⟨n, by simp, Nat.zero_le _, h0⟩, fun i m H ⟨em, hi, p⟩ => ?_⟩
  have gh := hG i H hi p
  rcases Nat.lt_or_ge i n with lt | ge
  · exact .inr ⟨w.goes i H lt gh, Pv (i + 1), fun H' p' => ⟨n - (i + 1), by omega, rfl, lt, p'⟩, fun x H' y => hs i x H H' lt p (w.yields i H x H' lt gh y)⟩
  · have ei : i = n := by omega
    subst ei
    exact .inl ⟨w.stops H gh, hd H p⟩
theorem cut_drop {xs : List V} {j : Nat} (h : j ≤ xs.length) : cutV xs (some (j : Int)) none = xs.drop j := by
  have e : HT.sIx xs.length 0 (some (j : Int)) = min j xs.length := HT.sIx_nat _ _ j
  show (xs.drop (HT.sIx xs.length 0 (some (j : Int)))).take (xs.length - HT.sIx xs.length 0 (some (j : Int))) = xs.drop j
  rw [e, Nat.min_eq_left h, List.take_of_length_le (by rw [List.length_drop]; exact Nat.le_refl _)]
/-- all but a is as it was -/
def Kp (a : Addr) (H H' : Hp) : Prop := ∀ b u, b ≠ a → H b = some u → H' b = some u
theorem Kp.of_same {a : Addr} {H H' : Hp} (s : Same H H') : Kp a H H' := fun b u _ e => s b u e
theorem Kp.trans {a : Addr} {H H1 H2 : Hp} (x : Kp a H H1) (y : Kp a H1 H2) : Kp a H H2 := fun b u n e => y b u n (x b u n e)
theorem Kp.put {a : Addr} {H H' : Hp} {o : HO} (x : Kp a H H') : Kp a H (upd H' a o) := fun b u n e => by rw [upd_ne n]; exact x b u n e
/-- the users that leave, in the dict at d -/
def LvAt (H : Hp) (d : Addr) (ts : List (Str × Str)) (c : Str → Int) : Prop := ∃ kl, H d = some (.dT kl) ∧ ∀ s g, (valV kl [Sum.inr s, Sum.inr g]).getD (.int 0) = .int (lv ts c s g : Int)
/-- the groups, in the dict at gr -/
def GrAt (H : Hp) (gr : Addr) (G : Str → Str → List Int) (m : Nat) : Prop := ∃ kvs, H gr = some (.dT kvs) ∧ kvs.length ≤ m ∧ ∀ a b, (valV kvs [Sum.inr a, Sum.inr b] = none ∧ G a b = []) ∨ ∃ r, valV kvs [Sum.inr a, Sum.inr b] = some (.ref r) ∧ H r = some (.lst ((G a b).map V.int))
theorem GrAt.mono {H H' : Hp} {gr : Addr} {G : Str → Str → List Int} {m : Nat} (s : Same H H') (x : GrAt H gr G m) : GrAt H' gr G m := by
  obtain ⟨kvs, h1, h2, h3⟩ := x
  exact ⟨kvs, s _ _ h1, h2, fun a b => (h3 a b).imp id fun ⟨r, e1, e2⟩ => ⟨r, e1, s _ _ e2⟩⟩
theorem GrAt.off {H : Hp} {gr fd : Addr} {o : HO} {kd : List (Key × V)} {G : Str → Str → List Int} {m : Nat} (e : H fd = some (.dK kd)) (x : GrAt H gr G m) : GrAt (upd H fd o) gr G m := by
  obtain ⟨kvs, h1, h2, h3⟩ := x
  refine ⟨kvs, by rw [upd_ne (ne_of h1 e (by intro z; cases z))]; exact h1, h2, fun a b => (h3 a b).imp id fun ⟨r, e1, e2⟩ => ⟨r, e1, ?_⟩⟩
  rw [upd_ne (ne_of e2 e (by intro z; cases z))]
  exact e2
theorem two_keys {a b a0 b0 : Str} : ([Sum.inr a, Sum.inr b] : List Key) = [Sum.inr a0, Sum.inr b0] ↔ a = a0 ∧ b = b0 := by
  constructor
  · intro h
    injection h with h1 h2
    injection h2 with h2 _
    exact ⟨Sum.inr.inj h1, Sum.inr.inj h2⟩
  · rintro ⟨rfl, rfl⟩
    rfl
def setG (G : Str → Str → List Int) (a0 b0 : Str) (z : List Int) : Str → Str → List Int := fun a b => if a = a0 ∧ b = b0 then z else G a b
theorem GrAt.put {H : Hp} {gr r0 t : Addr} {G : Str → Str → List Int} {m : Nat} {a0 b0 : Str} {z : List Int} (x : GrAt H gr G m) (h0 : H r0 = some (.lst (z.map V.int))) (few : m < sizeLine) (ht : H t = some (.tup [.str a0, .str b0])) : ∃ H4, DPut H gr (.ref t) (.ref r0) H4 ∧ GrAt H4 gr (setG G a0 b0 z) (m + 1) ∧ Kp gr H H4 := by
  obtain ⟨kvs, h1, h2, h3⟩ := x
  refine ⟨upd H gr (.dT (putK kvs [Sum.inr a0, Sum.inr b0] (.ref r0))), DPut.t (k := [Sum.inr a0, Sum.inr b0]) h1 ht (by omega), ⟨_, upd_same, Nat.le_trans (length_putK _ _ _) (by omega), fun a b => ?_⟩, Kp.put (Kp.of_same fun _ _ e => e)⟩
  rw [valV_put]
  by_cases e : a = a0 ∧ b = b0
  · rw [if_pos (two_keys.mpr e)]
    refine .inr ⟨r0, rfl, ?_⟩
    rw [upd_ne (ne_of h0 h1 (by intro z; cases z))]
    unfold setG
    rw [if_pos e]
    exact h0
  · rw [if_neg fun q => e (two_keys.mp q)]
    unfold setG
    rw [if_neg e]
    refine (h3 a b).imp id fun ⟨r, e1, e2⟩ => ⟨r, e1, ?_⟩
    rw [upd_ne (ne_of e2 h1 (by intro z; cases z))]
    exact e2
theorem GrAt.more {H : Hp} {gr : Addr} {G : Str → Str → List Int} {m m' : Nat} (x : GrAt H gr G m) (h : m ≤ m') : GrAt H gr G m' := let ⟨kvs, h1, h2, h3⟩ := x; ⟨kvs, h1, Nat.le_trans h2 h, h3⟩
theorem GrAt.congr {H : Hp} {gr : Addr} {G G' : Str → Str → List Int} {m : Nat} (x : GrAt H gr G m) (e : ∀ a b, G a b = G' a b) : GrAt H gr G' m := by
  have : G = G' := funext fun a => funext fun b => e a b
  rw [← this]
  exact x
def spChanged (CF : Addr) : Sp := fun vs H Q _ => ∃ (x q qc : Addr) (ts : List (Str × Str)) (c : Str → Int) (r : Str → Addr) (L : Str → List Int), vs = [.ref x, .ref q, .ref qc] ∧ FAt CF H x ts ∧ TreeOk ts ∧ LsAt H q (pls ts) r L ∧ H qc = some (.dK (tblI (ts.map Prod.fst) c)) ∧
  (∀ p, Pl ts p → (L p).length ≤ 1000 ∧ ∀ o, lv ts c p o ≤ 1000) ∧ (∀ p, Pl ts p → ((adj ts p).map fun o => (lv ts c p o : Int)).sum ≤ ((L p).length : Int) + ((adj ts p).map fun o => (lv ts c o p : Int)).sum) ∧
  ∀ (p : Addr) (r' : Str → Addr) (L' : Str → List Int) (H' : Hp), Same H H' → H p = none → (∀ a ∈ pls ts, H (r' a) = none) → Moved ts c L L' → LsAt H' p (pls ts) r' L' → Q (.ref p) H'
theorem kids_len (ts : List (Str × Str)) (p : Str) : (kids ts p).length ≤ ts.length := by
  unfold kids
  rw [List.length_map]
  exact List.length_filter_le _ _
theorem adj_len (ts : List (Str × Str)) (p : Str) : (adj ts p).length ≤ ts.length + 1 := by
  unfold adj
  rw [List.length_append]
  have := kids_len ts p
  split <;> simp <;> omega
theorem flat_more {α : Type} (f : α → List Int) {l : List α} {j : Nat} {a : α} (h : l[j]? = some a) : ((l.take (j + 1)).map f).flatten = ((l.take j).map f).flatten ++ f a := by
  rw [take_more h, List.map_append, List.flatten_append]
  show _ ++ (f a ++ []) = _
  rw [List.append_nil]
theorem rev_more {α : Type} (f : α → List Int) {l : List α} {j : Nat} {a : α} (h : l[j]? = some a) : ((l.take (j + 1)).reverse.map f).flatten = f a ++ ((l.take j).reverse.map f).flatten := by
  rw [take_more h, List.reverse_append]
  rfl
theorem sum_take_le {f : Str → Nat} : ∀ {l : List Str} {j : Nat} {a : Str}, l[j]? = some a → ((l.take j).map fun x => (f x : Int)).sum + (f a : Int) ≤ (l.map fun x => (f x : Int)).sum
  | [], j, a, h => by simp at h
  | b :: l, 0, a, h => by
    have e : b = a := Option.some.inj h
    subst e
    have nn : ∀ l : List Str, 0 ≤ (l.map fun x => (f x : Int)).sum := fun l => by
      induction l with
      | nil => exact Int.le_refl _
      | cons c l ih =>
        rw [List.map_cons, List.sum_cons]
        omega
    have := nn l
    rw [List.map_cons, List.sum_cons]
    show 0 + _ ≤ _
    omega
  | b :: l, j + 1, a, h => by
    have := sum_take_le (f := f) (l := l) (j := j) (a := a) h
    rw [List.take_succ_cons, List.map_cons, List.map_cons, List.sum_cons, List.sum_cons]
    omega
theorem flat_le {f : Str → List Int} {b : Nat} : ∀ {l : List Str}, (∀ x ∈ l, (f x).length ≤ b) → ((l.map f).flatten).length ≤ l.length * b
  | [], _ => Nat.zero_le _
  | a :: l, h => by
    have i := flat_le (l := l) fun x hx => h x (List.mem_cons_of_mem _ hx)
    have := h a (List.mem_cons_self ..)
    rw [List.map_cons, List.flatten_cons, List.length_append, List.length_cons, Nat.succ_mul]
    omega
end FT


namespace FT
open PySem L2 TL ClX LiI
theorem adj_irr {ts : List (Str × Str)} (o : TreeOk ts) {p : Str} (h : Pl ts p) : p ∉ adj ts p := fun m => by
  rcases (mem_adj o h).mp m with z | z <;> exact par_once o z z
/-- one more place is done -/
theorem moved_turn {ts : List (Str × Str)} (o : TreeOk ts) {c : Str → Int} {ds : List Str} (pm : ds.Perm (pls ts)) (tp : Topo ts c ds) {j : Nat} {p : Str} (hp : ds[j]? = some p) {L F : Str → List Int} {G G' : Str → Str → List Int} {row : List Int}
    (h1 : ∀ q ∈ ds.take j, (∀ o ∈ adj ts q, (G q o).length = lv ts c q o) ∧ L q ++ ins ts G q = F q ++ outs ts G q) (h2 : ∀ q, q ∉ ds.take j → ∀ b, G q b = [])
    (e : L p ++ ins ts G p = row ++ ((adj ts p).reverse.map (G' p)).flatten) (l : ∀ o ∈ adj ts p, (G' p o).length = lv ts c p o) (s : ∀ a b, a ≠ p → G' a b = G a b) (z : ∀ b, b ∉ adj ts p → G' p b = []) :
    (∀ q ∈ ds.take (j + 1), (∀ o ∈ adj ts q, (G' q o).length = lv ts c q o) ∧ L q ++ ins ts G' q = (if q = p then row else F q) ++ outs ts G' q) ∧ ∀ q, q ∉ ds.take (j + 1) → ∀ b, G' q b = [] := by
  have nd : ds.Nodup := pm.nodup_iff.mpr (pls_nd o)
  have pp : Pl ts p := mem_pls.mp (pm.mem_iff.mp (List.mem_of_getElem? hp))
  have fresh := nat_fresh nd hp
  have insp : ins ts G' p = ins ts G p := flat_congr fun x hx => s x p fun e => adj_irr o pp (by have w := List.mem_reverse.mp hx; rw [e] at w; exact w)
  refine ⟨fun q hq => ?_, fun q hq b => ?_⟩
  · rw [take_more hp] at hq
    by_cases eq : q = p
    · subst eq
      rw [if_pos rfl]
      exact ⟨l, by rw [insp]; exact e⟩
    · rw [if_neg eq]
      have hq2 := (List.mem_append.mp hq).resolve_right fun w => eq (List.mem_singleton.mp w)
      obtain ⟨a1, a2⟩ := h1 q hq2
      have pq : Pl ts q := mem_pls.mp (pm.mem_iff.mp (List.mem_of_mem_take hq2))
      have eo : outs ts G' q = outs ts G q := flat_congr fun x _ => s q x eq
      have ei : ins ts G' q = ins ts G q := flat_congr fun x hx => by
        by_cases ex : x = p
        · subst ex
          have hx := List.mem_reverse.mp hx
          rw [h2 x fresh q]
          have len := l q (adj_sym o pq hx)
          have lz : lv ts c x q = 0 := by
            rcases Nat.eq_zero_or_pos (lv ts c x q) with w | pos
            · exact w
            · obtain ⟨i, hi⟩ := List.mem_iff_getElem?.mp hq2
              have il := (List.getElem?_eq_some_iff.mp hi).1
              rw [List.length_take] at il
              rw [List.getElem?_take, if_pos (by omega)] at hi
              have := tp i q hi x pos
              exact absurd (List.take_subset_take_left ds (by omega : i ≤ j) this) fresh
          rw [lz] at len
          exact List.length_eq_zero_iff.mp len
        · exact s x q ex
      exact ⟨fun x hx => by rw [s q x eq]; exact a1 x hx, by rw [ei, eo]; exact a2⟩
  · rw [take_more hp] at hq
    have n1 : q ∉ ds.take j := fun w => hq (List.mem_append_left _ w)
    have n2 : q ≠ p := fun w => hq (List.mem_append_right _ (List.mem_singleton.mpr w))
    rw [s q b n2]
    exact h2 q n1 b
section
variable {P : Program} {w : World} {K : PySem.W.Frag} {mg : Str → Option Value} {base : Heap}
abbrev NCh : List Str := ["forest", "lists", "changed", "place", "leaving", "groups", "found", "row", "other", "left", "goal", "amount"]
theorem scCh : FnScope NCh ["forest", "lists", "changed"] (defScope s_changed_lists) := ⟨rfl, rfl, rfl, by decide +kernel, rfl, by decide +kernel, by decide +kernel⟩
theorem ok_changed {f fC fE fA fP CF : Addr} {fd fdC fdE fdA fdP : FuncData} (F : Fun K "changed_lists" "changed_lists" s_changed_lists f fd) (T : Nm mg) (DC : Dn P w K mg base CX0 3 "crossings" ["forest", "changed"] (spCross CF) fC fdC) (DE : Dn P w K mg base CX0 4 "edge_order" ["forest", "changed"] (spEdgeOrder CF) fE fdE)
    (DA : Dn P w K mg base CX0 3 "edges_at" ["forest", "place"] (spEdgesAt CF) fA fdA) (DP : Dn P w K mg base CX0 3 "places_of" ["forest"] (spPlacesOf CF) fP fdP) : FnOk P w K mg base CX0 5 f fd ["forest", "lists", "changed"] (spChanged CF) := by
  refine F.ok scCh (fun vs H Q E h => ?_) (fun cdv A outer s H vs Q E hr h => ?_)
  · obtain ⟨x, q, qc, ts, c, r, L, rfl, _⟩ := h
    rfl
  · obtain ⟨x, q, qc, ts, c, r, L, rfl, fa, o, hL, hqc, sm, fe, k⟩ := h
    have hu := hu_of hr
    have nd := scCh.nd
    have hr3 : Room 3 _ := hr.mono (by decide)
    have big : 100000 ≤ sizeLine := by decide
    have few := o.few
    refine ⟨_, pss_cons (ps_setDcT (i := 4) (own := [("place", 3), ("goal", 10), ("amount", 11)]) (g := gTup K 3 (gCons (gName 3) (gCons (gName 10) (gCons (gName 11) gNil)))) (tt := tYes) (tk := tTup (tCons (tVar 3) (tCons (tVar 10) tNil))) (tv := tVar 11) rfl nd hu rfl rfl (swd_true rfl rfl rfl (by decide +kernel))
        (pi_list (pe_call DC.ok hr3 rfl DC.mgn DC.kp DC.bn .nil pass0 (pa_cons (pv 0) (pa_cons (pv 2) pa_nil)))) (blkOk_by (N := NCh) (sc := defScope s_changed_lists) (by decide +kernel))
        (fun _ _ _ _ _ => pg_tup rfl (pgs_cons (pg_name (i := 3) nd rfl (Or.inl rfl)) (pgs_cons (pg_name (i := 10) nd rfl (Or.inl rfl)) (pgs_cons (pg_name (i := 11) nd rfl (Or.inl rfl)) pgs_nil)))) (fun _ _ _ _ _ => pts_nil) (fun _ _ _ _ _ => pe_tup (pa_cons (pv 3) (pa_cons (pv 10) pa_nil))) (fun _ _ _ _ _ => pv 11))
      (pss_cons (ps_asg (pe_tup (pa_cons pe_dnewT (pa_cons pe_dnewK pa_nil))) (pg_tup rfl (pgs_cons (pg_name (i := 5) nd rfl (.inl rfl)) (pgs_cons (pg_name (i := 6) nd rfl (.inr rfl)) pgs_nil))))
      (pss_cons (ps_for PassesOwn.never rfl (pi_list (pe_call DE.ok hr rfl DE.mgn DE.kp DE.bn .nil pass0 (pa_cons (pv 0) (pa_cons (pv 2) pa_nil)))) (pg_name (i := 3) nd rfl (.inl rfl))
        (pss_cons (ps_set (i := 7) nd rfl (.inl rfl) (pe_callTy call_list_of (by rfl) T.lst (by decide +kernel) (pa_cons (pe_dget hu (pv 1) (pv 3) (fun _ _ => rfl)) pa_nil)))
        (pss_cons (ps_for PassesOwn.never rfl (pi_list (pe_revL (pe_call DA.ok hr3 rfl DA.mgn DA.kp DA.bn .nil pass0 (pa_cons (pv 0) (pa_cons (pv 3) pa_nil))))) (pg_name (i := 8) nd rfl (.inl rfl))
          (pss_one (ps_expr (pe_bm PySem.F.plainAttrs_list PySem.F.slot_list_extend PySem.F.type_list_extend mt_extend (pv 7) (pa_cons (pe_dget2 hu (pv 5) (pe_tup (pa_cons (pv 8) (pa_cons (pv 3) pa_nil))) (pe_lst pa_nil) ⟨rfl, rfl, rfl, rfl⟩) pa_nil)))))
        (pss_cons (ps_for PassesOwn.never rfl (pi_list (pe_call DA.ok hr3 rfl DA.mgn DA.kp DA.bn .nil pass0 (pa_cons (pv 0) (pa_cons (pv 3) pa_nil)))) (pg_name (i := 8) nd rfl (.inl rfl))
          (pss_cons (ps_set (i := 9) nd rfl (.inl rfl) (pe_op op_sub (pe_callB call_len_seq (by rfl) T.len PySem.boot_len (pa_cons (pv 7) pa_nil)) (pe_dget2 hu (pv 4) (pe_tup (pa_cons (pv 3) (pa_cons (pv 8) pa_nil))) pe_int ⟨rfl, rfl, rfl, rfl⟩)))
          (pss_cons (ps_dput hu (pv 5) (pe_tup (pa_cons (pv 3) (pa_cons (pv 8) pa_nil))) (pe_slice sl_list (pv 7) (po_some (pv 9)) po_none) rfl)
          (pss_one (ps_set (i := 7) nd rfl (.inl rfl) (pe_slice sl_list (pv 7) po_none (po_some (pv 9))))))))
        (pss_one (ps_dput hu (pv 6) (pv 3) (pv 7) rfl))))))
      (pss_one (ps_ret (pe_dc (own := [("place", 3)]) (g := gName 3) (tt := tYes) rfl nd (pi_list (pe_call DP.ok hr3 rfl DP.mgn DP.kp DP.bn .nil pass0 (pa_cons (pv 0) pa_nil))) (blkOk_by (N := NCh) (sc := defScope s_changed_lists) (by decide +kernel))
        (fun _ _ _ _ _ => pg_name (i := 3) nd rfl (Or.inl rfl)) (fun _ _ _ _ _ => pts_nil) (fun _ _ _ _ _ => pv 3) (fun _ _ _ _ _ => pe_dget hu (pv 6) (pv 3) (fun _ _ => rfl))))))), ?_⟩
    obtain ⟨dx, dq, hx, hd⟩ := id fa
    have pnd := pls_nd o
    have pln := pls_len ts
    have cl := crs_len c ts
    -- who leaves
    refine ⟨_, rfl, _, rfl, x, qc, ts, c, rfl, fa, o, hqc, fun e rs H1 s1 ne he ed => ⟨e, rfl, ⟨_, SqL.of he⟩, fun D nD => ?_⟩⟩
    have lr := ed.len
    refine dcG_it walk_list (fun i H' => Same H1 H' ∧ ∃ kl : List (List Key × V), H' D = some (.dT kl) ∧ kl.length ≤ i ∧ (∀ s g a, (s, g, a) ∈ (crs c ts).take i → valV kl [Sum.inr s, Sum.inr g] = some (.int (lv ts c s g : Int))) ∧ ∀ s g v, valV kl [Sum.inr s, Sum.inr g] = some v → v = .int (lv ts c s g : Int))
      ⟨same_new nD, [], upd_same, Nat.le_refl _, fun s g a h => by simp at h, fun s g v h => by cases h⟩ (fun i H' _ z => SqL.of (z.1 _ _ he)) ?_ ?_
    · intro i y Ha Hb hi ⟨q1, kl, q2, q3, q4, q5⟩ ⟨eb, ey⟩
      subst eb
      rw [List.length_map] at hi
      obtain ⟨r0, hr0, rfl⟩ := map_of ey
      obtain ⟨e1, he1, hrb⟩ := ed.at_ hr0
      have e1lv := crs_lv o (show (e1.1, e1.2.1, e1.2.2) ∈ crs c ts from List.mem_of_getElem? he1)
      refine ⟨r0, [.str e1.1, .str e1.2.1, .int e1.2.2], rfl, .inl (.inl (q1 _ _ hrb)), rfl, _, _, rfl, _, _, rfl, _, _, rfl, rfl, rfl, ?_⟩
      refine ⟨_, rfl, _, rfl, by show 2 ≤ sizeLine; omega, fun t nt => ⟨_, rfl, kl, [Sum.inr e1.1, Sum.inr e1.2.1], t, rfl, upd_same, ?_, by omega, ?_⟩⟩
      · rw [upd_ne (ne_of_none q2 nt)]
        exact q2
      · refine ⟨(q1.trans (same_new nt)).put nD, _, upd_same, Nat.le_trans (length_putK _ _ _) (by omega), fun s g a h => ?_, fun s g v h => ?_⟩
        · rw [valV_put]
          rw [take_more he1] at h
          rcases List.mem_append.mp h with h | h
          · by_cases ek : ([Sum.inr s, Sum.inr g] : List Key) = [Sum.inr e1.1, Sum.inr e1.2.1]
            · obtain ⟨es, eg⟩ := two_keys.mp ek
              rw [if_pos ek, es, eg, e1lv.1]
            · rw [if_neg ek]
              exact q4 s g a h
          · have eh := List.mem_singleton.mp h
            rw [← eh, if_pos rfl]
            rw [← eh] at e1lv
            rw [e1lv.1]
        · rw [valV_put] at h
          by_cases ek : ([Sum.inr s, Sum.inr g] : List Key) = [Sum.inr e1.1, Sum.inr e1.2.1]
          · obtain ⟨es, eg⟩ := two_keys.mp ek
            rw [if_pos ek] at h
            rw [← Option.some.inj h, es, eg, e1lv.1]
          · rw [if_neg ek] at h
            exact q5 s g v h
    intro H2 ⟨s12, kl, hD2, _, kl1, kl2⟩
    rw [List.length_map, lr, List.take_length] at kl1
    have lvA : ∀ s g, (valV kl [Sum.inr s, Sum.inr g]).getD (.int 0) = .int (lv ts c s g : Int) := fun s g => by
      cases ev : valV kl [Sum.inr s, Sum.inr g] with
      | some v => exact kl2 s g v ev
      | none =>
        rcases Nat.eq_zero_or_pos (lv ts c s g) with z | pos
        · rw [z] <;> rfl
        · rw [kl1 s g _ (lv_crs o pos)] at ev
          cases ev
    have s02 : Same H H2 := s1.trans s12
    -- groups, found
    refine fun gr ngr => fun fd nfd => ⟨by show 2 ≤ sizeLine; omega, fun tp ntp => ⟨tp, _, rfl, .inl (.inl upd_same), rfl, ?_⟩⟩
    obtain ⟨H3, e3⟩ : ∃ X, X = upd (upd (upd H2 gr (.dT [])) fd (.dK [])) tp (.tup [.ref gr, .ref fd]) := ⟨_, rfl⟩
    have sfd : Same (upd H2 gr (.dT [])) (upd (upd H2 gr (.dT [])) fd (.dK [])) := same_new nfd
    have stp := same_new (o := .tup [.ref gr, .ref fd]) ntp
    have s23 : Same H2 H3 := e3 ▸ ((same_new ngr).trans sfd).trans stp
    have hgr3 : H3 gr = some (.dT []) := by rw [e3]; exact stp _ _ (sfd _ _ upd_same)
    have hfd3 : H3 fd = some (.dK []) := by rw [e3]; exact stp _ _ upd_same
    rw [← e3]
    have s03 := s02.trans s23
    have gr0 : H gr = none := s02.free ngr
    have fd0 : H fd = none := (s02.trans (same_new ngr)).free nfd
    refine ⟨_, _, rfl, _, _, rfl, rfl, ?_⟩
    refine ⟨_, rfl, _, rfl, x, qc, ts, c, rfl, fa.mono s03, o, s03 _ _ hqc, fun eo ds H4 s34 neo pm tpo heo => ⟨eo, rfl, ⟨_, SqL.of heo⟩, ?_⟩⟩
    have s04 := s03.trans s34
    have hgr4 := s34 _ _ hgr3
    have hfd4 := s34 _ _ hfd3
    have hD4 := s34 _ _ (s23 _ _ hD2)
    have grfd : gr ≠ fd := ne_of hgr4 hfd4 (by intro z; cases z)
    have ldn := pm.length_eq
    have ndd : ds.Nodup := pm.nodup_iff.mpr pnd
    refine for_it walk_list (fun i σ' H' => (∃ u3 u7 u8 u9, σ' = [some (.ref x), some (.ref q), some (.ref qc), u3, some (.ref D), some (.ref gr), some (.ref fd), u7, u8, u9, none, none]) ∧ (∀ b u, b ≠ gr → b ≠ fd → H4 b = some u → H' b = some u) ∧
        ∃ (G : Str → Str → List Int) (F : Str → List Int) (rF : Str → Addr), GrAt H' gr G (13 * i) ∧ H' fd = some (.dK (tblV (ds.take i) fun p => .ref (rF p))) ∧ (∀ p ∈ ds.take i, H' (rF p) = some (.lst ((F p).map V.int)) ∧ H (rF p) = none) ∧
          (∀ p ∈ ds.take i, (∀ o ∈ adj ts p, (G p o).length = lv ts c p o) ∧ L p ++ ins ts G p = F p ++ outs ts G p) ∧ ∀ p, p ∉ ds.take i → ∀ b, G p b = [])
      ⟨⟨_, _, _, _, rfl⟩, fun _ _ _ _ z => z, fun _ _ => [], fun _ => [], fun _ => 0, ⟨[], hgr4, Nat.le_refl _, fun _ _ => .inl ⟨rfl, rfl⟩⟩, hfd4, fun p h => by simp at h, fun p h => by simp at h, fun _ _ _ => rfl⟩
      (fun i σ' H' _ z => SqL.of (z.2.1 _ _ (ne_of heo hgr4 (by intro z; cases z)) (ne_of heo hfd4 (by intro z; cases z)) heo)) ?_ ?_
    · intro j y σ' Hz Ha hj ⟨⟨u3, u7, u8, u9, eσ⟩, kp, G, F0, rF, hG, hfd, hrF, hdone, hrest⟩ ⟨eb, ey⟩
      subst eσ
      subst eb
      obtain ⟨p, hp, rfl⟩ := map_of ey
      have mp := pm.mem_iff.mp (List.mem_of_getElem? hp)
      have pp := mem_pls.mp mp
      have jl := (List.getElem?_eq_some_iff.mp hp).1
      have fresh := nat_fresh ndd hp
      obtain ⟨Lp, lvp⟩ := sm p pp
      have off : ∀ {b u}, H b = some u → Ha b = some u := fun {b u} eb => kp b u (ne_of_none eb gr0) (ne_of_none eb fd0) (s04 _ _ eb)
      have hDa : Ha D = some (.dT kl) := kp D _ (fun z => by rw [z, ngr] at hD2; cases hD2) (ne_of hD4 hfd4 (by intro z; cases z)) hD4
      -- the list of the place
      refine ⟨_, rfl, _, rfl, q, .ref (r p), rfl, LsAt.get (LsAt.mono (fun b u => off) hL) mp, r p, _, rfl, .inl (SqL.of (off (hL.2 p mp))), fun ro nro => ?_⟩
      have sro : Same Ha (upd Ha ro (.lst ((L p).map V.int))) := same_new nro
      have ro0 : H ro = none := by
        cases z : H ro with
        | none => rfl
        | some u => rw [off z] at nro; cases nro
      refine ⟨_, rfl, _, rfl, x, ts, p, rfl, (fa.mono (fun b u => off)).mono sro, o, pp, fun la H6 s6 nla hla => ⟨la, _, rfl, SqL.of hla, fun lb nlb => ⟨lb, rfl, ⟨_, SqL.of upd_same⟩, ?_⟩⟩⟩
      obtain ⟨H7, e7⟩ : ∃ X, X = upd H6 lb (.lst ((adj ts p).map V.str).reverse) := ⟨_, rfl⟩
      have s67 : Same H6 H7 := e7 ▸ same_new nlb
      have hlb : H7 lb = some (.lst ((adj ts p).reverse.map V.str)) := by rw [e7, upd_same, List.map_reverse]
      rw [← e7]
      have sa7 : Same Ha H7 := (sro.trans s6).trans s67
      have hro7 : H7 ro = some (.lst ((L p).map V.int)) := s67 _ _ (s6 _ _ upd_same)
      have lbro : lb ≠ ro := (ne_of_none (s6 _ _ upd_same) nlb).symm
      have al := adj_len ts p
      have gl : ∀ a ∈ adj ts p, (G a p).length ≤ 1000 := fun a ha => by
        by_cases da : a ∈ ds.take j
        · rw [(hdone a da).1 p (adj_sym o pp ha)]
          exact (sm a (adj_pl o pp ha)).2 p
        · rw [hrest a da p]
          exact Nat.zero_le _
      refine for_it walk_list (fun i σ' H' => (∃ u8, σ' = [some (.ref x), some (.ref q), some (.ref qc), some (.str p), some (.ref D), some (.ref gr), some (.ref fd), some (.ref ro), u8, u9, none, none]) ∧ Same Ha H' ∧ H' lb = some (.lst ((adj ts p).reverse.map V.str)) ∧ H' ro = some (.lst ((L p ++ (((adj ts p).reverse.take i).map fun a => G a p).flatten).map V.int)))
        ⟨⟨_, rfl⟩, sa7, hlb, by rw [hro7, List.take_zero, List.map_nil, List.flatten_nil, List.append_nil]⟩ (fun i σ' H' _ z => SqL.of z.2.2.1) ?_ ?_
      · intro i y2 σ2 Hz Hc hi ⟨⟨u8', eσ⟩, sc, hlbc, hroc⟩ ⟨eb2, ey2⟩
        subst eσ
        subst eb2
        obtain ⟨a, ha, rfl⟩ := map_of ey2
        have ma := List.mem_reverse.mp (List.mem_of_getElem? ha)
        have more := flat_more (fun a => G a p) ha
        have lf : ((((adj ts p).reverse.take i).map fun a => G a p).flatten).length ≤ 13 * 1000 := by
          refine Nat.le_trans (flat_le (b := 1000) fun z hz => gl z (List.mem_reverse.mp (List.mem_of_mem_take hz))) (Nat.mul_le_mul_right _ ?_)
          rw [List.length_take, List.length_reverse]
          omega
        have lga := gl a ma
        refine ⟨_, rfl, .inl ⟨rfl, _, SqL.of hroc⟩, _, rfl, gr, rfl, .inr ?_, _, rfl, _, rfl, by show 2 ≤ sizeLine; omega, fun t nt => ⟨by show 0 ≤ sizeLine; omega, fun ex nex => ?_⟩⟩
        · obtain ⟨kvs, h1, _⟩ := hG
          exact ⟨kvs, .inl (sc _ _ h1)⟩
        obtain ⟨He, ee⟩ : ∃ X, X = upd (upd Hc t (.tup [.str a, .str p])) ex (.lst []) := ⟨_, rfl⟩
        have st : Same Hc (upd Hc t (.tup [.str a, .str p])) := same_new nt
        have sce : Same Hc He := ee ▸ st.trans (same_new nex)
        have hte : He t = some (.tup [.str a, .str p]) := by rw [ee]; exact same_new nex _ _ upd_same
        have hex : He ex = some (.lst []) := by rw [ee]; exact upd_same
        rw [← ee]
        obtain ⟨kvs, h1, h2, h3⟩ := GrAt.mono (sc.trans sce) hG
        have hroe := sce _ _ hroc
        have fin : ∀ (b : Addr) (v : Option V), v = valV kvs [Sum.inr a, Sum.inr p] → He b = some (.lst ((G a p).map V.int)) → v.getD (.ref ex) = .ref b →
            ∃ o, DGet He gr (.ref t) o ∧ ∃ l b xs zs, V.ref ro = .ref l ∧ [o.getD (.ref ex)] = [.ref b] ∧ He l = some (.lst xs) ∧ He b = some (.lst zs) ∧ xs.length + zs.length ≤ sizeLine ∧
              ((∃ u8, [some (.ref x), some (.ref q), some (.ref qc), some (.str p), some (.ref D), some (.ref gr), some (.ref fd), some (.ref ro), some (.str a), u9, none, none] = [some (.ref x), some (.ref q), some (.ref qc), some (.str p), some (.ref D), some (.ref gr), some (.ref fd), some (.ref ro), u8, u9, none, none]) ∧ Same Ha (upd He l (.lst (xs ++ zs))) ∧
                (upd He l (.lst (xs ++ zs))) lb = some (.lst ((adj ts p).reverse.map V.str)) ∧ (upd He l (.lst (xs ++ zs))) ro = some (.lst ((L p ++ (((adj ts p).reverse.take (i + 1)).map fun a => G a p).flatten).map V.int))) := fun b v ev hb gv => by
          refine ⟨v, ev ▸ DGet.t (k := [Sum.inr a, Sum.inr p]) h1 hte, ro, b, _, _, rfl, by rw [gv], hroe, hb, ?_, ⟨_, rfl⟩, (sc.trans sce).put nro, by rw [upd_ne lbro]; exact sce _ _ hlbc, ?_⟩
          · rw [List.length_map, List.length_map, List.length_append]
            omega
          · rw [upd_same, more, ← List.map_append, List.append_assoc]
        rcases h3 a p with ⟨n1, n2⟩ | ⟨r1, n1, n2⟩
        · exact fin ex none n1.symm (by rw [n2]; exact hex) rfl
        · exact fin r1 (some (.ref r1)) n1.symm n2 rfl
      intro σ2 H8 ⟨⟨u8', eσ⟩, sa8, hlb8, hro8⟩
      subst eσ
      rw [List.length_map, List.take_length, show L p ++ ((adj ts p).reverse.map fun a => G a p).flatten = L p ++ ins ts G p from rfl] at hro8
      obtain ⟨T0, eT⟩ : ∃ T0, T0 = L p ++ ins ts G p := ⟨_, rfl⟩
      rw [← eT] at hro8
      have Tlen : ((adj ts p).map fun o => (lv ts c p o : Int)).sum ≤ (T0.length : Int) := by
        have e1 := ins_len (ts := ts) G p
        have e2 : ((adj ts p).map fun o => ((G o p).length : Int)) = (adj ts p).map fun o => (lv ts c o p : Int) := List.map_congr_left fun a ha => by
          by_cases da : a ∈ ds.take j
          · rw [(hdone a da).1 p (adj_sym o pp ha)]
          · rw [hrest a da p]
            rcases Nat.eq_zero_or_pos (lv ts c a p) with z | pos
            · rw [z] <;> rfl
            · exact absurd (tpo j p hp a pos) da
        rw [e2] at e1
        have := fe p pp
        rw [eT, List.length_append, Int.natCast_add, e1]
        exact this
      have Tle : T0.length ≤ 20000 := by
        rw [eT, List.length_append]
        have : (ins ts G p).length ≤ 13 * 1000 := by
          refine Nat.le_trans (flat_le (b := 1000) fun z hz => gl z (List.mem_reverse.mp hz)) (Nat.mul_le_mul_right _ ?_)
          rw [List.length_reverse]
          omega
        omega
      -- cut into groups
      refine ⟨_, rfl, _, rfl, x, ts, p, rfl, (fa.mono (fun b u => off)).mono sa8, o, pp, fun lc H9 s9 nlc hlc => ⟨lc, rfl, ⟨_, SqL.of hlc⟩, ?_⟩⟩
      have sa9 := sa8.trans s9
      have hG9 := GrAt.mono sa9 hG
      obtain ⟨kv9, hgr9, _⟩ := id hG9
      have hD9 := sa9 _ _ hDa
      have hfd9 := sa9 _ _ hfd
      have lcgr : lc ≠ gr := ne_of hlc hgr9 (by intro z; cases z)
      have Dgr : D ≠ gr := fun z => by rw [z, ngr] at hD2; cases hD2
      refine for_it walk_list (fun i σ' H' => (∃ u8 u9 rw', σ' = [some (.ref x), some (.ref q), some (.ref qc), some (.str p), some (.ref D), some (.ref gr), some (.ref fd), some (.ref rw'), u8, u9, none, none] ∧ H rw' = none ∧ Kp gr H9 H' ∧
          ∃ (row : List Int) (G' : Str → Str → List Int), H' rw' = some (.lst (row.map V.int)) ∧ GrAt H' gr G' (13 * j + i) ∧ T0 = row ++ (((adj ts p).take i).reverse.map (G' p)).flatten ∧ (∀ o ∈ (adj ts p).take i, (G' p o).length = lv ts c p o) ∧ (∀ a b, a ≠ p → G' a b = G a b) ∧ ∀ b, b ∉ (adj ts p).take i → G' p b = []))
        ⟨_, _, ro, rfl, ro0, Kp.of_same fun _ _ e => e, T0, G, s9 _ _ hro8, hG9, by simp, fun a h => by simp at h, fun _ _ _ => rfl, fun b _ => hrest p fresh b⟩ (fun i σ' H' _ ⟨_, _, _, _, _, z, _⟩ => SqL.of (z _ _ lcgr hlc)) ?_ ?_
      · intro i y2 σ2 Hz Hc hi ⟨u8', u9', rw', eσ, rw0, kc, row, G', hrw, hG', eT', len', oth', nil'⟩ ⟨eb2, ey2⟩
        subst eσ
        subst eb2
        obtain ⟨a, ha, rfl⟩ := map_of ey2
        have ma := List.mem_of_getElem? ha
        have il := (List.getElem?_eq_some_iff.mp ha).1
        have fa' := nat_fresh (adj_nd o pp) ha
        have hDc := kc _ _ Dgr hD9
        -- how many are left
        have rl : T0.length = row.length + ((((adj ts p).take i).reverse.map (G' p)).flatten).length := by rw [← List.length_append, ← eT']
        have gsum : ((((((adj ts p).take i).reverse.map (G' p)).flatten).length : Nat) : Int) = (((adj ts p).take i).map fun o => (lv ts c p o : Int)).sum := by
          rw [flat_len, int_sum, List.map_map, List.map_reverse, sum_rev]
          congr 1
          exact List.map_congr_left fun z hz => by show ((G' p z).length : Int) = _; rw [len' z hz]
        have stl := sum_take_le (f := fun o => lv ts c p o) ha
        have room : lv ts c p a ≤ row.length := by omega
        obtain ⟨lf, elf⟩ : ∃ lf, lf = row.length - lv ts c p a := ⟨_, rfl⟩
        have ilf : (((row.map V.int).length : Nat) : Int) - (lv ts c p a : Int) = (lf : Int) := by
          rw [List.length_map]
          omega
        refine ⟨_, rfl, rw', _, rfl, .inl (SqL.of hrw), _, rfl, D, rfl, .inr ⟨kl, .inl hDc⟩, _, rfl, _, rfl, by show 2 ≤ sizeLine; omega, fun t nt => ⟨_, DGet.t (k := [Sum.inr p, Sum.inr a]) (by rw [upd_ne (ne_of_none hDc nt)]; exact hDc) upd_same, _, _, rfl, lvA p a, ?_⟩⟩
        show gName 9 (V.int ((((row.map V.int).length : Nat) : Int) - (lv ts c p a : Int))) _ _ _
        rw [ilf]
        have st : Same Hc (upd Hc t (.tup [.str p, .str a])) := same_new nt
        obtain ⟨He, ee⟩ : ∃ X, X = upd Hc t (.tup [.str p, .str a]) := ⟨_, rfl⟩
        rw [← ee] at st ⊢
        -- the group
        refine ⟨_, rfl, _, rfl, _, rfl, rw', _, rfl, SqL.of (st _ _ hrw), fun p1 n1 => ⟨_, rfl, _, rfl, _, rfl, by show 2 ≤ sizeLine; omega, fun t2 nt2 => ?_⟩⟩
        rw [cut_drop (by rw [List.length_map]; omega), ← List.map_drop] at nt2 ⊢
        obtain ⟨Hf, ef⟩ : ∃ X, X = upd (upd He p1 (.lst ((row.drop lf).map V.int))) t2 (.tup [.str p, .str a]) := ⟨_, rfl⟩
        have sp1 : Same He (upd He p1 (.lst ((row.drop lf).map V.int))) := same_new n1
        have sef : Same He Hf := ef ▸ sp1.trans (same_new nt2)
        have hp1 : Hf p1 = some (.lst ((row.drop lf).map V.int)) := by rw [ef]; exact same_new nt2 _ _ upd_same
        have ht2 : Hf t2 = some (.tup [.str p, .str a]) := by rw [ef]; exact upd_same
        rw [← ef]
        have scf : Same Hc Hf := st.trans sef
        obtain ⟨Hg, put, hGg, kg⟩ := GrAt.put (z := row.drop lf) (GrAt.mono scf hG') hp1 (by omega) ht2
        refine ⟨gr, Hg, rfl, put, ?_⟩
        have rwgr : rw' ≠ gr := fun z => by
          obtain ⟨kvs, h1, _⟩ := hG'
          rw [z, h1] at hrw
          cases hrw
        have hrwg := kg _ _ rwgr (scf _ _ hrw)
        refine ⟨_, rfl, _, rfl, _, rfl, rw', _, rfl, SqL.of hrwg, fun rw2 nrw2 => ?_⟩
        rw [cut_take (by rw [List.length_map]; omega), ← List.map_take]
        have sw2 : Same Hg (upd Hg rw2 (.lst ((row.take lf).map V.int))) := same_new nrw2
        have rw20 : H rw2 = none := by
          cases z : H rw2 with
          | none => rfl
          | some u =>
            rw [kg _ _ (ne_of_none z gr0) (scf _ _ (kc _ _ (ne_of_none z gr0) (sa9 _ _ (off z))))] at nrw2
            cases nrw2
        refine ⟨_, _, rw2, rfl, rw20, ((kc.trans (Kp.of_same scf)).trans kg).trans (Kp.of_same sw2), row.take lf, setG G' p a (row.drop lf), upd_same, GrAt.mono sw2 hGg, ?_, fun b hb => ?_, fun a' b' na => ?_, fun b hb => ?_⟩
        · rw [rev_more _ ha]
          have e1 : setG G' p a (row.drop lf) p a = row.drop lf := by unfold setG; rw [if_pos ⟨rfl, rfl⟩]
          have e2 : ((((adj ts p).take i).reverse.map (setG G' p a (row.drop lf) p)).flatten) = (((adj ts p).take i).reverse.map (G' p)).flatten := flat_congr fun b hb => by
            unfold setG
            rw [if_neg fun z => fa' (by rw [← z.2]; exact List.mem_reverse.mp hb)]
          rw [e1, e2, ← List.append_assoc, List.take_append_drop]
          exact eT'
        · rw [take_more ha] at hb
          rcases List.mem_append.mp hb with hb | hb
          · unfold setG
            rw [if_neg fun z => fa' (by rw [← z.2]; exact hb)]
            exact len' b hb
          · rw [List.mem_singleton.mp hb]
            unfold setG
            rw [if_pos ⟨rfl, rfl⟩, List.length_drop]
            omega
        · unfold setG
          rw [if_neg fun z => na z.1]
          exact oth' a' b' na
        · rw [take_more ha] at hb
          unfold setG
          rw [if_neg fun z => hb (List.mem_append_right _ (List.mem_singleton.mpr z.2))]
          exact nil' b fun z => hb (List.mem_append_left _ z)
      intro σ2 H10 ⟨u8', u9', rw', eσ, rw0, kc, row, G', hrw, hG', eT', len', oth', nil'⟩
      subst eσ
      rw [List.length_map] at hG'
      rw [List.length_map, List.take_length] at eT' len' nil'
      obtain ⟨kv10, hgr10, _⟩ := id hG'
      have hfd10 := kc _ _ (Ne.symm grfd) hfd9
      -- found
      refine ⟨_, rfl, _, rfl, _, rfl, fd, _, rfl, DPut.k (k := Sum.inr p) hfd10 (by rw [tblV_len, List.length_take]; omega), ?_⟩
      obtain ⟨d1, d2⟩ := moved_turn o pm tpo hp hdone hrest (by rw [← eT]; exact eT') len' oth' nil'
      have rwfd : rw' ≠ fd := ne_of hrw hfd10 (by intro z; cases z)
      refine ⟨⟨_, _, _, _, rfl⟩, fun b u b1 b2 eb => ?_, G', fun a => if a = p then row else F0 a, fun a => if a = p then rw' else rF a, (GrAt.off hfd10 hG').more (by omega), ?_, fun a ha => ?_, d1, d2⟩
      · rw [upd_ne b2]
        exact kc _ _ b1 (sa9 _ _ (kp b u b1 b2 eb))
      · rw [upd_same, tblV_congr (g' := fun a => V.ref (if a = p then rw' else rF a)) fun a ha => by rw [if_neg fun z => fresh (by rw [← z]; exact ha)], tblV_snoc fresh (by rw [if_pos rfl]), take_more hp]
      · rw [take_more hp] at ha
        show (upd H10 fd _) (if a = p then rw' else rF a) = some (.lst ((if a = p then row else F0 a).map V.int)) ∧ H (if a = p then rw' else rF a) = none
        by_cases e : a = p
        · rw [if_pos e, if_pos e]
          exact ⟨by rw [upd_ne rwfd]; exact hrw, rw0⟩
        · rw [if_neg e, if_neg e]
          have ha := (List.mem_append.mp ha).resolve_right fun z => e (List.mem_singleton.mp z)
          obtain ⟨z1, z2⟩ := hrF a ha
          have n1 : rF a ≠ gr := fun z => by
            obtain ⟨kvs, h1, _⟩ := hG
            rw [z, h1] at z1
            cases z1
          have n2 : rF a ≠ fd := ne_of z1 hfd (by intro z; cases z)
          exact ⟨by rw [upd_ne n2]; exact kc _ _ n1 (sa9 _ _ z1), z2⟩
    · intro σ' H11 ⟨⟨u3, u7, u8, u9, eσ⟩, kp, G, F0, rF, hG, hfd, hrF, hdone, hrest⟩
      subst eσ
      rw [List.length_map, List.take_length] at hfd hrF hdone hrest
      have mv : Moved ts c L F0 := ⟨G, fun p hp => (hdone p (pm.mem_iff.mpr (mem_pls.mpr hp))).1, fun p hp => (hdone p (pm.mem_iff.mpr (mem_pls.mpr hp))).2⟩
      have off : Same H H11 := fun b u eb => kp b u (ne_of_none eb gr0) (ne_of_none eb fd0) (s04 _ _ eb)
      refine ⟨_, rfl, x, ts, rfl, fa.mono off, few, fun pl H12 s12' npl hpl => ⟨pl, rfl, ⟨_, SqL.of hpl⟩, fun R nR => ?_⟩⟩
      refine dc_it walk_list (fun i H' => Same H12 H' ∧ H' R = some (.dK (tblV ((pls ts).take i) fun p => .ref (rF p)))) ⟨same_new nR, upd_same⟩ (fun i H' _ z => SqL.of (z.1 _ _ hpl)) ?_ ?_
      · intro i y Hc Hd hi ⟨z1, z2⟩ ⟨eb, ex⟩
        subst eb
        obtain ⟨a, ha, rfl⟩ := map_of (f := V.str) (l := pls ts) ex
        have ma := List.mem_of_getElem? ha
        refine ⟨rfl, ?_⟩
        refine ⟨_, rfl, _, rfl, _, rfl, fd, .ref (rF a), rfl, ?_, _, Sum.inr a, rfl, z2, ?_, Same.put z1 nR, ?_⟩
        · have z := DGet.k (k := Sum.inr a) (z1 _ _ (s12' _ _ hfd))
          rw [tblV_val (pm.mem_iff.mpr ma)] at z
          exact z
        · rw [tblV_len, List.length_take]
          omega
        · rw [upd_same, tblV_snoc (nat_fresh pnd ha) rfl, take_more ha]
      · intro H13 ⟨z1, z2⟩
        have e : (((("" : Str) :: ts.map Prod.fst).map V.str).length) = (pls ts).length := List.length_map _
        rw [e, List.take_length] at z2
        have s := off.trans (s12'.trans z1)
        refine k R rF F0 H13 s ((off.trans s12').free nR) (fun a ha => (hrF a (pm.mem_iff.mpr ha)).2) mv ⟨z2, fun a ha => z1 _ _ (s12' _ _ (hrF a (pm.mem_iff.mpr ha)).1)⟩
end
end FT


/-! methods and properties, as a whole -/
namespace FT
open PySem L2 TL ClX
/-- a method of a class, as a whole -/
structure Mt (P : Program) (w : World) (K : PySem.W.Frag) (mg : Str → Option Value) (base : Heap) (CX : CXT) (k : Nat) (C : Addr) (m : Str) (ps : List Str) (sp : Sp) (f : Addr) (fd : FuncData) : Prop where
  mt : Meth K C m f
  fn : FnOk P w K mg base CX k f fd ps sp
  bn : Binds K fd ps []
/-- a property, at any level -/
structure PrN (P : Program) (w : World) (K : PySem.W.Frag) (mg : Str → Option Value) (base : Heap) (k : Nat) (C : Addr) (x : Str) (sp : Sp) (p g : Addr) (fd : FuncData) : Prop where
  pr : PropOf K C x p g
  fn : FnOk P w K mg base CX0 k g fd ["self"] sp
  bn : Binds K fd ["self"] []
end FT


/-! Forest.under -/
namespace FT
open PySem L2 TL ClX LiI
def spUnder (CF : Addr) : Sp := fun vs H Q _ => ∃ (x : Addr) (ts : List (Str × Str)) (a : Str), vs = [.ref x, .str a] ∧ FAt CF H x ts ∧ TreeOk ts ∧ a ∈ ts.map Prod.fst ∧ ∀ p H', Same H H' → H p = none → H' p = some (.lst ((under ts a).map V.str)) → Q (.ref p) H'
section
variable {P : Program} {w : World} {K : PySem.W.Frag} {mg : Str → Option Value} {base : Heap}
abbrev NUn : List Str := ["self", "place", "name"]
theorem scUn : FnScope NUn ["self", "place"] (defScope s_Forest_under) := ⟨rfl, rfl, rfl, by decide +kernel, rfl, by decide +kernel, by decide +kernel⟩
theorem ok_under {f fN fP CF : Addr} {mc : Value} {fd fdN fdP : FuncData} (F : Fun K "under" "Forest.under" s_Forest_under f fd) (T : Nm mg) (O : FoC K CF) (Z : Fc K mg CF mc) (DN : Dn P w K mg base CX0 1 "need_place" ["forest", "place"] (spNeedPl CF) fN fdN) (DP : Dn P w K mg base CX0 1 "path_in" ["above", "place"] spPathIn fP fdP) :
    FnOk P w K mg base CX0 2 f fd ["self", "place"] (spUnder CF) := by
  obtain ⟨ur, cr⟩ := Z.root
  refine F.ok scUn (fun vs H Q E h => ?_) (fun cdv A outer s H vs Q E hr h => ?_)
  · obtain ⟨x, ts, a, rfl, _⟩ := h
    rfl
  · obtain ⟨x, ts, a, rfl, fa, o, ma, k⟩ := h
    have hu := hu_of hr
    have nd := scUn.nd
    have big : 1000 ≤ sizeLine := by decide
    have few := o.few
    refine ⟨_, pss_cons (ps_expr (pe_call DN.ok hr rfl DN.mgn DN.kp DN.bn .nil pass0 (pa_cons (pv 0) (pa_cons (pv 1) pa_nil))))
      (pss_cons (ps_if (pt_cmpR op_eq (pv 1) (pe_cval (pe_glob (v := .ref CF) (by rfl) Z.gF rfl)) (nomark _)) pss_never pss_nil)
      (pss_one (ps_ret (pe_lock (pe_lc (own := [("name", 2)]) (g := gName 2) (tt := tTest (tOp (rIn K false) (tVar 1) (tCall spPathIn [] E0 (tCons (tFld K (tVar 0) "above") (tCons (tVar 2) tNil))))) (te := tVar 2) rfl nd (pi_keys (pe_fld (pv 0) rfl))
        (blkOk_by (N := NUn) (sc := defScope s_Forest_under) (by decide +kernel)) (fun _ _ _ _ _ => pg_name (i := 2) nd rfl (Or.inl rfl))
        (fun _ _ _ _ _ => pts_one (pt_cmpR op_in_seq (pv 1) (pe_call DP.ok hr rfl DP.mgn DP.kp DP.bn .nil pass0 (pa_cons (pe_fld (pv 0) rfl) (pa_cons (pv 2) pa_nil))) rfl)) (fun _ _ _ _ _ => pv 2)))))), ?_⟩
    obtain ⟨dx, dq, hx, hd⟩ := id fa
    refine ⟨_, rfl, _, rfl, x, ts, a, rfl, fa, o, .inr ma, ?_⟩
    have na : ¬ V.str a = V.str "" := fun z => o.root (by rw [← V.str.inj z]; exact ma)
    refine ⟨_, rfl, CF, mc, _, ur, rfl, Z.rd, cr, rfl, _, rfl, ?_⟩
    rw [decide_eq_false na]
    refine iteF ?_
    refine ⟨dq, .dK (prs ts), hd, trivial, fun od => ⟨_, rfl, x, CF, dx, _, .ref dq, rfl, by rw [upd_ne (ne_of hx hd (by intro z; cases z))]; exact hx, O.cl, O.nA, rfl, dq, od, rfl, .inl ⟨prs ts, upd_same, fun D nD => ?_⟩⟩⟩
    have hx1 : (upd H dq (.frz od (.dK (prs ts)))) x = some (.ins CF dx [("above", .ref dq)]) := by rw [upd_ne (ne_of hx hd (by intro z; cases z))]; exact hx
    have Dq : D ≠ dq := (ne_of_none upd_same nD).symm
    refine lc_it walk_keys (fun i H' => Same (upd H dq (.frz od (.dK (prs ts)))) H' ∧ H' D = some (.lst ((((ts.map Prod.fst).take i).filter fun b => decide (a ∈ pathOf ts b)).map V.str))) ⟨same_new nD, upd_same⟩ (fun i H' _ z => z.1 _ _ upd_same) ?_ ?_
    · intro i y Ha Hb hi ⟨q1, q2⟩ ⟨eb, kk, vv, hk, ey⟩
      subst eb
      subst ey
      obtain ⟨⟨b, pb⟩, hp, ee⟩ : ∃ z : Str × Str, ts[i]? = some z ∧ (kk, vv) = (Sum.inr z.1, V.str z.2) := by
        unfold prs kvT at hk
        rw [List.map_map, List.getElem?_map] at hk
        obtain ⟨z, hz, e⟩ := Option.map_eq_some_iff.mp hk
        exact ⟨z, hz, e.symm⟩
      cases ee
      rw [show kV (Sum.inr b) = V.str b from rfl]
      have hb : (ts.map Prod.fst)[i]? = some b := by rw [List.getElem?_map, hp] <;> rfl
      have mb := List.mem_of_getElem? hb
      have il := (List.getElem?_eq_some_iff.mp hp).1
      refine ⟨rfl, ?_⟩
      refine ⟨_, rfl, _, rfl, x, CF, dx, _, .ref dq, rfl, q1 _ _ hx1, O.cl, O.nA, rfl, _, rfl, dq, ts, b, rfl, .inr ⟨od, q1 _ _ upd_same⟩, o, .inr mb, fun p H' s' np hp' => ?_⟩
      refine ⟨p, _, rfl, .inr (.inl (.inl hp')), rfl, flat_strs _, _, rfl, ?_⟩
      rw [show (if false = true then !inV (V.str a) ((pathOf ts b).map V.str) else inV (V.str a) ((pathOf ts b).map V.str)) = decide (a ∈ pathOf ts b) from inV_strs a _]
      have more := filter_more (c := fun b => decide (a ∈ pathOf ts b)) hb
      have lf := List.length_filter_le (fun b => decide (a ∈ pathOf ts b)) ((ts.map Prod.fst).take i)
      rw [List.length_take] at lf
      refine ite2 (fun yes => ?_) (fun no => ?_)
      · have yes : decide (a ∈ pathOf ts b) = true := yes
        rw [if_pos yes] at more
        refine ⟨_, rfl, _, s' _ _ q2, by rw [List.length_map]; omega, (q1.trans s').put nD, by rw [upd_same, more, List.map_append] <;> rfl⟩
      · have no : ¬ decide (a ∈ pathOf ts b) = true := no
        rw [if_neg no, List.append_nil] at more
        exact ⟨q1.trans s', by rw [more]; exact s' _ _ q2⟩
    · intro H' ⟨q1, q2⟩
      rw [prs_len, ← List.length_map (f := Prod.fst) (as := ts), List.take_length] at q2
      exact ⟨q1 _ _ upd_same, k D _ (unlock_same hd q1) (by rw [upd_ne Dq] at nD; exact nD) (by rw [upd_ne Dq]; exact q2)⟩
end
end FT


/-! listed_sizes, listed_places -/
namespace FT
open PySem L2 TL ClX LiI
/-- the scope of the comprehension that a def hands back -/
def retScope (st : Stmt) : Scope := match defBody st with
  | [.Return (some (.DictComp _ _ _ sc _)) _] => sc
  | _ => defScope st
def spLSizes (CF : Addr) : Sp := fun vs H Q _ => ∃ (x q : Addr) (ts : List (Str × Str)) (r : Str → Addr) (L : Str → List Int), vs = [.ref x, .ref q] ∧ FAt CF H x ts ∧ TreeOk ts ∧ LsAt H q (pls ts) r L ∧
  ∀ p H', Same H H' → H p = none → H' p = some (.dK (tblI (ts.map Prod.fst) (lsz ts L))) → Q (.ref p) H'
def spLPlaces : Sp := fun vs H Q _ => ∃ (q : Addr) (ts : List (Str × Str)) (r : Str → Addr) (L : Str → List Int) (n : Nat), vs = [.ref q] ∧ TreeOk ts ∧ LsAt H q (pls ts) r L ∧ Val ts n L ∧ n ≤ 60 ∧
  ∀ p H', Same H H' → H p = none → H' p = some (.lst (((usr n).map (plOf ts L)).map V.str)) → Q (.ref p) H'
def kvU (ts : List (Str × Str)) (L : Str → List Int) (X : List Int) : List (Key × V) := X.map fun u => (Sum.inl u, V.str (plOf ts L u))
theorem kvU_keys (ts : List (Str × Str)) (L : Str → List Int) (X : List Int) : (kvU ts L X).map (·.1) = X.map Sum.inl := by unfold kvU; rw [List.map_map] <;> rfl
theorem kvU_any {ts : List (Str × Str)} {L : Str → List Int} {u : Int} : ∀ {X : List Int}, u ∉ X → ((kvU ts L X).any fun kv => decide (kv.1 = Sum.inl u)) = false
  | [], _ => rfl
  | v :: X, h => by
    show (decide ((Sum.inl v : Key) = Sum.inl u) || (kvU ts L X).any fun kv => decide (kv.1 = Sum.inl u)) = false
    rw [kvU_any fun z => h (List.mem_cons_of_mem _ z), decide_eq_false fun z => h (by rw [← Sum.inl.inj z]; exact List.mem_cons_self ..)] <;> rfl
theorem kvU_put {ts : List (Str × Str)} {L : Str → List Int} {X : List Int} {u : Int} {z : Str} (h : u ∉ X) (e : z = plOf ts L u) : putK (kvU ts L X) (Sum.inl u) (V.str z) = kvU ts L (X ++ [u]) := by
  unfold putK
  rw [kvU_any h, if_neg (by decide)]
  unfold kvU
  rw [List.map_append, e] <;> rfl
theorem kvU_val {ts : List (Str × Str)} {L : Str → List Int} {u : Int} : ∀ {X : List Int}, u ∈ X → valV (kvU ts L X) (Sum.inl u) = some (.str (plOf ts L u))
  | v :: X, h => by
    by_cases e : v = u
    · subst e
      exact valV_pos rfl
    · exact (valV_neg (p := (Sum.inl v, V.str (plOf ts L v))) fun z => e (Sum.inl.inj z)).trans (kvU_val ((List.mem_cons.mp h).resolve_left fun z => e z.symm))
theorem nat_fresh2 {l : List Int} {i : Nat} {a : Int} (nd : l.Nodup) (h : l[i]? = some a) : a ∉ l.take i := fun hm => by
  obtain ⟨j, hj⟩ := List.mem_iff_getElem?.mp hm
  have jl := (List.getElem?_eq_some_iff.mp hj).1
  rw [List.length_take] at jl
  rw [List.getElem?_take, if_pos (by omega)] at hj
  have := (List.getElem?_inj (by omega) nd).mp (hj.trans h.symm)
  omega
theorem sorted_usr {n : Nat} {ys : List Int} (p : ys.Perm (usr n)) (s : ys.Pairwise (· ≤ ·)) : ys = usr n := by
  refine List.Perm.eq_of_pairwise (le := (· ≤ ·)) (fun a b _ _ h1 h2 => by omega) s ?_ p
  unfold usr
  refine List.pairwise_map.mpr ((List.pairwise_lt_range (n := n)).imp fun h => ?_)
  omega
section
variable {P : Program} {w : World} {K : PySem.W.Frag} {mg : Str → Option Value} {base : Heap}
abbrev NLz : List Str := ["forest", "lists", "name", "other"]
theorem scLz : FnScope NLz ["forest", "lists"] (defScope s_listed_sizes) := ⟨rfl, rfl, rfl, by decide +kernel, rfl, by decide +kernel, by decide +kernel⟩
/-- len of a list or tuple -/
abbrev rLenS (K : PySem.W.Frag) : List V → Hp → VK → Prop := fun xs H Q => ∃ p ys, xs = [.ref p] ∧ (SqL K H p ys ∨ SqT K H p ys) ∧ Q (.int ys.length) H
theorem ok_listedSizes {f CF p1 g1 fU : Addr} {fd fd1 fdU : FuncData} (F : Fun K "listed_sizes" "listed_sizes" s_listed_sizes f fd) (T : Nm mg) (O : FoC K CF) (L1 : Pr1 P w K mg base CF "flags" (spFFlags CF) p1 g1 fd1) (U : Mt P w K mg base CX0 2 CF "under" ["self", "place"] (spUnder CF) fU fdU) :
    FnOk P w K mg base CX0 3 f fd ["forest", "lists"] (spLSizes CF) := by
  refine F.ok scLz (fun vs H Q E h => ?_) (fun cdv A outer s H vs Q E hr h => ?_)
  · obtain ⟨x, q, ts, r, L, rfl, _⟩ := h
    rfl
  · obtain ⟨x, q, ts, r, L, rfl, fa, o, hL, k⟩ := h
    have hu := hu_of hr
    have nd := scLz.nd
    have big : 1000 ≤ sizeLine := by decide
    have few := o.few
    refine ⟨_, pss_one (ps_ret (pe_dc (own := [("name", 2)]) (g := gName 2) (tt := tYes) (tk := tVar 2) (tv := tCB (rSum K) (tCons (tLc (iList K (tMeth CF "under" (spUnder CF) [] E0 (tVar 0) (tCons (tVar 2) tNil))) (gName 3) tYes (tCB (rLenS K) (tCons (tDGet (tVar 1) (tVar 3)) tNil)) [3]) tNil)) rfl nd (pi_list (pe_prop (pv 0) O.cl L1.pr L1.fn hr L1.bn .nil pass0 (by rfl)))
        (blkOk_by (N := NLz) (sc := defScope s_listed_sizes) (by decide +kernel)) (fun _ _ _ _ _ => pg_name (i := 2) nd rfl (Or.inl rfl)) (fun _ _ _ _ _ => pts_nil) (fun _ _ _ _ _ => pv 2)
        (fun _ _ _ _ _ => pe_callB (cr_sum rfl) (by rfl) T.sum (by decide +kernel) (pa_cons (pe_lc (own := [("other", 3)]) (g := gName 3) (tt := tYes) rfl nd (pi_list (pe_meth (pv 0) O.cl U.mt U.fn hr U.bn .nil pass0 (pa_cons (pv 2) pa_nil)))
          (blkOk_by (N := NLz) (sc := relS (retScope s_listed_sizes) (defScope s_listed_sizes)) (by decide +kernel)) (fun _ _ _ _ _ => pg_name (i := 3) nd rfl (Or.inl rfl)) (fun _ _ _ _ _ => pts_nil)
          (fun _ _ _ _ _ => pe_callB call_len_seq (by rfl) T.len PySem.boot_len (pa_cons (pe_dget hu (pv 1) (pv 3) (fun _ _ => rfl)) pa_nil))) pa_nil)))), ?_⟩
    obtain ⟨dx, dq, hx, hd⟩ := id fa
    refine ⟨_, rfl, x, dx, _, rfl, hx, x, ts, rfl, fa, fun pf nf => ⟨pf, rfl, ⟨_, SqL.of upd_same⟩, fun D nD => ?_⟩⟩
    obtain ⟨H1, e1⟩ : ∃ X, X = upd H pf (.lst ((ts.map Prod.fst).map V.str)) := ⟨_, rfl⟩
    have s1 : Same H H1 := e1 ▸ same_new nf
    have a1 : H1 pf = some (.lst ((ts.map Prod.fst).map V.str)) := by rw [e1]; exact upd_same
    rw [← e1] at nD ⊢
    refine dc_it walk_list (fun i H' => Same H1 H' ∧ H' D = some (.dK (tblI ((ts.map Prod.fst).take i) (lsz ts L)))) ⟨same_new nD, upd_same⟩ (fun i H' _ z => SqL.of (z.1 _ _ a1)) ?_ ?_
    · intro i y Ha Hb hi ⟨q1, q2⟩ ⟨eb, ex⟩
      subst eb
      obtain ⟨a, ha, rfl⟩ := map_of ex
      have ma := List.mem_of_getElem? ha
      have s0 := s1.trans q1
      refine ⟨rfl, ?_⟩
      refine ⟨_, rfl, ?_⟩
      refine ⟨_, rfl, x, dx, _, rfl, s0 _ _ hx, rfl, _, rfl, x, ts, a, rfl, fa.mono s0, o, ma, fun pu Hu su npu hpu => ⟨pu, rfl, ⟨_, SqL.of hpu⟩, fun D2 nD2 => ?_⟩⟩
      refine lc_it walk_list (fun j H' => Same Hu H' ∧ H' D2 = some (.lst ((((under ts a).take j).map fun b => ((L b).length : Int)).map V.int))) ⟨same_new nD2, upd_same⟩ (fun j H' _ z => SqL.of (z.1 _ _ hpu)) ?_ ?_
      · intro j y2 Hc Hd hj ⟨z1, z2⟩ ⟨eb2, ex2⟩
        subst eb2
        obtain ⟨b, hb, rfl⟩ := map_of ex2
        have mb : b ∈ pls ts := List.mem_cons_of_mem _ (List.mem_filter.mp (show b ∈ (ts.map Prod.fst).filter _ from List.mem_of_getElem? hb)).1
        have sL := LsAt.mono ((s0.trans su).trans z1) hL
        have ul := List.length_filter_le (fun b => decide (a ∈ pathOf ts b)) (ts.map Prod.fst)
        rw [List.length_map] at ul
        have ul2 : (under ts a).length ≤ 12 := Nat.le_trans ul few
        refine ⟨rfl, ?_⟩
        refine ⟨_, rfl, _, rfl, q, .ref (r b), rfl, sL.get mb, r b, _, rfl, .inl (SqL.of (sL.2 b mb)), _, z2, ?_, Same.put z1 nD2, ?_⟩
        · rw [List.length_map, List.length_map, List.length_take]
          omega
        · rw [upd_same, take_more hb, List.map_append, List.map_append, List.length_map] <;> rfl
      · intro H3 ⟨z1, z2⟩
        rw [List.length_map, List.take_length] at z2
        refine ⟨D2, _, rfl, SqL.of z2, _, Sum.inr a, rfl, z1 _ _ (su _ _ q2), ?_, ((q1.trans su).trans z1).put nD, ?_⟩
        · rw [tblI_len, List.length_take, List.length_map]
          omega
        · rw [upd_same]
          show some (HO.dK (putK (tblI _ (lsz ts L)) (Sum.inr a) (V.int (lsz ts L a)))) = _
          rw [tblI_snoc (nat_fresh o.nd ha) rfl, take_more ha]
    · intro H3 ⟨z1, z2⟩
      rw [List.length_map, List.take_length] at z2
      exact k D H3 (s1.trans z1) (s1.free nD) z2
end
end FT


/-! Assignment: made of valid places; its places -/
namespace FT
open PySem L2 TL ClX
/-- the class Assignment -/
structure Ac (K : PySem.W.Frag) (mg : Str → Option Value) (CA : Addr) (mc : Value) : Prop where
  gA : mg "Assignment" = some (.ref CA)
  rd : CRead K CA mc
  most : ∃ u, CVal K CA mc "MOST" (.int 60) u
  cl : Cls K CA
  nF : NoAttr K CA "own_forest"
  nP : NoAttr K CA "own_places"
/-- an assignment at y: its forest, its places -/
def AAt (CA : Addr) (H : Hp) (y x : Addr) (zs : List Str) : Prop := ∃ dy p, H y = some (.ins CA dy [("own_forest", .ref x), ("own_places", .ref p)]) ∧ H p = some (.lst (zs.map V.str))
theorem AAt.mono {CA y x : Addr} {H H' : Hp} {zs : List Str} (s : Same H H') (h : AAt CA H y x zs) : AAt CA H' y x zs := let ⟨dy, p, e1, e2⟩ := h; ⟨dy, p, s _ _ e1, s _ _ e2⟩
theorem put2a {u v : V} : putF "own_places" v [(("own_forest" : Str), u)] = [(("own_forest" : Str), u), (("own_places" : Str), v)] := by
  unfold putF
  rw [if_neg (by decide +kernel)] <;> rfl
def spAInit (CF CA : Addr) : Sp := fun vs H Q _ => ∃ (y x l dy : Addr) (ts : List (Str × Str)) (zs : List Str), vs = [.ref y, .ref x, .ref l] ∧ H y = some (.ins CA dy []) ∧ FAt CF H x ts ∧ TreeOk ts ∧ H l = some (.lst (zs.map V.str)) ∧ 1 ≤ zs.length ∧ zs.length ≤ 60 ∧ (∀ z ∈ zs, Pl ts z) ∧
  ∀ H', AAt CA H' y x zs → (∀ b o, b ≠ y → H b = some o → H' b = some o) → Q .non H'
def spAPlaces (CA : Addr) : Sp := fun vs H Q _ => ∃ (y x : Addr) (zs : List Str), vs = [.ref y] ∧ AAt CA H y x zs ∧ ∀ p, H p = none → Q (.ref p) (upd H p (.lst (zs.map V.str)))
section
variable {P : Program} {w : World} {K : PySem.W.Frag} {mg : Str → Option Value} {base : Heap}
theorem scAInit : FnScope ["self", "forest", "places", "user", "place"] ["self", "forest", "places"] (defScope s_Assignment___init__) := ⟨rfl, rfl, rfl, by decide +kernel, rfl, by decide +kernel, by decide +kernel⟩
theorem ok_ainit {f CF CA : Addr} {mc mcA : Value} {fd : FuncData} (F : Fun K "__init__" "Assignment.__init__" s_Assignment___init__ f fd) (T : Nm mg) (O : FoC K CF) (Z : Fc K mg CF mc) (B : Ac K mg CA mcA) : FnOk P w K mg base CX0 1 f fd ["self", "forest", "places"] (spAInit CF CA) := by
  obtain ⟨um, cm⟩ := B.most
  obtain ⟨ur, cr⟩ := Z.root
  refine F.ok scAInit (fun vs H Q E h => ?_) (fun cdv A outer s H vs Q E hr h => ?_)
  · obtain ⟨y, x, l, dy, ts, zs, rfl, _⟩ := h
    rfl
  · obtain ⟨y, x, l, dy, ts, zs, rfl, hy, fa, o, hl, one, few, mem, k⟩ := h
    have hu := hu_of hr
    refine ⟨_, pss_cons (ps_if (PW.pt (pw_or (pt_not (pt_val (pe_callB call_isiT (by rfl) T.isi (by decide +kernel) (pa_cons (pv 2) (pa_cons (pe_tup (pa_cons (pe_bltn (v := .ty "list") (u := .type "list") (by rfl) T.lst (by decide +kernel) rfl) (pa_cons (pe_bltn (v := .ty "tuple") (u := .type "tuple") (by rfl) T.tup (by decide +kernel) rfl) pa_nil))) pa_nil)))))
        (pw_or1 (pt_not (pt_chain op_le op_le pe_int (pe_callB call_len_seq (by rfl) T.len PySem.boot_len (pa_cons (pv 2) pa_nil)) (pe_cval (pe_glob (v := .ref CA) (by rfl) B.gA rfl))))))) pss_never pss_nil)
      (pss_cons (ps_for PassesOwn.never rfl (pi_enum rfl T.enu (pa_cons (pv 2) pa_nil)) (pg_tup rfl (pgs_cons (pg_name (i := 3) scAInit.nd rfl (.inl rfl)) (pgs_cons (pg_name (i := 4) scAInit.nd rfl (.inl rfl)) pgs_nil)))
        (pss_one (ps_if (PW.pt (pw_or (pt_not (pt_val (pe_callB call_isi (by rfl) T.isi (by decide +kernel) (pa_cons (pv 4) (pa_cons (pe_bltn (v := .ty "str") (u := .type "str") (by rfl) T.str (by decide +kernel) rfl) pa_nil)))))
          (pw_or1 (PW.pt (pw_and (pt_cmpR op_ne (pv 4) (pe_cval (pe_glob (v := .ref CF) (by rfl) Z.gF rfl)) (nomark _)) (pw_and1 (pt_cmp (pc_dnotin hu (pv 4) (pe_fld (pv 1) rfl))))))))) pss_never pss_nil)))
      (pss_cons (ps_fld (pv 0) (pv 1) rfl)
      (pss_one (ps_fld (pv 0) (pe_callTy call_list_of (by rfl) T.lst (by decide +kernel) (pa_cons (pv 2) pa_nil)) rfl)))), ?_⟩
    have big : 1000 ≤ sizeLine := by decide
    obtain ⟨dx, dq, hx, hd⟩ := fa
    refine ⟨_, rfl, by show 2 ≤ sizeLine; omega, fun tp ntp => ?_⟩
    have s1 := same_new (o := .tup [.ty "list", .ty "tuple"]) ntp
    refine ⟨.ref l, tp, [.ty "list", .ty "tuple"], _, [.type "list", .type "tuple"], true, rfl, upd_same, .cons (.ty _) (.cons (.ty _) .nil), .base (.lst (s1 _ _ hl)), kitAny_cons (b := true) (kit_ty (by decide +kernel)) (fun z => nomatch z) (fun _ => rfl), true, rfl, ?_⟩
    refine iteF ?_
    obtain ⟨H1, e1⟩ : ∃ X, X = upd H tp (.tup [.ty "list", .ty "tuple"]) := ⟨_, rfl⟩
    rw [← e1] at s1 ⊢
    have hl1 := s1 _ _ hl
    refine ⟨_, rfl, l, _, rfl, .inl (SqL.of hl1), _, _, rfl, rfl, _, rfl, ?_⟩
    have ll : (zs.map V.str).length = zs.length := List.length_map ..
    rw [if_pos (decide_eq_true (by omega))]
    refine ⟨CA, mcA, _, um, rfl, B.rd, cm, _, _, rfl, rfl, _, rfl, ?_⟩
    rw [decide_eq_true (show ((zs.map V.str).length : Int) ≤ 60 by omega)]
    refine iteF ?_
    refine ⟨_, rfl, l, _, rfl, SqL.of hl1, ?_⟩
    refine for_it walk_enum (fun j σ' H' => (∃ u3 u4, σ' = [some (.ref y), some (.ref x), some (.ref l), u3, u4]) ∧ Same H1 H') ⟨⟨_, _, rfl⟩, fun _ _ e => e⟩ (fun j σ' H' _ z => SqL.of (z.2 _ _ hl1)) ?_ ?_
    · intro j T' σ' Ha Hb hj ⟨⟨u3, u4, e⟩, sa⟩ ⟨Tp, i, z, eT, nT, eH, ey, ez⟩
      subst e
      subst eT
      subst eH
      cases ey
      obtain ⟨a, ha, rfl⟩ := map_of (show (zs.map V.str)[j]? = some z from ez)
      have ma := mem a (List.mem_of_getElem? ha)
      have sT := same_new (o := .tup [.int (j : Int), .str a]) nT
      have hx2 := sT _ _ (sa _ _ (s1 _ _ hx))
      have hd2 := sT _ _ (sa _ _ (s1 _ _ hd))
      refine ⟨Tp, _, rfl, .inl (.inl upd_same), rfl, ?_⟩
      refine ⟨_, _, rfl, _, _, rfl, rfl, ?_⟩
      refine ⟨_, rfl, .str a, _, _, _, true, rfl, .ty _, .base (.str a), kit_ty (by decide +kernel), true, rfl, ?_⟩
      refine iteF ?_
      refine ⟨_, rfl, CF, mc, _, ur, rfl, Z.rd, cr, rfl, _, rfl, ?_⟩
      by_cases e0 : a = ""
      · rw [decide_eq_true (show V.str a = V.str "" by rw [e0])]
        refine iteF ?_
        exact iteF ⟨⟨_, _, rfl⟩, sa.trans sT⟩
      · rw [decide_eq_false (show ¬ V.str a = V.str "" from fun z => e0 (V.str.inj z))]
        show if true = true then _ else _
        rw [if_pos rfl]
        obtain ⟨pa, hp⟩ := par_some o.nd (ma.resolve_left e0)
        refine ⟨_, rfl, _, rfl, x, CF, dx, _, .ref dq, rfl, hx2, O.cl, O.nA, rfl, dq, _, rfl, dget_prs (.inl hd2) hp, _, rfl, ?_⟩
        exact iteF ⟨⟨_, _, rfl⟩, sa.trans sT⟩
    · intro σ' H2 ⟨⟨u3, u4, e⟩, sa⟩
      subst e
      have s2 : Same H H2 := s1.trans sa
      have hy2 := s2 _ _ hy
      have hl2 := s2 _ _ hl
      have yl : l ≠ y := ne_of hl2 hy2 (by intro z; cases z)
      refine ⟨_, rfl, _, rfl, y, CA, dy, [], rfl, hy2, B.cl, B.nF, by show 0 < 1000; decide, ?_⟩
      refine ⟨_, rfl, l, _, rfl, .inl (SqL.of (by rw [upd_ne yl]; exact hl2)), fun p np => ?_⟩
      have yp : y ≠ p := ne_of_none upd_same np
      refine ⟨_, rfl, y, CA, dy, [("own_forest", .ref x)], rfl, by rw [upd_ne yp, upd_same] <;> rfl, B.cl, B.nP, by show 1 < 1000; decide, ?_⟩
      rw [put2a]
      refine k _ ⟨dy, p, upd_same, by rw [upd_ne yp.symm, upd_same]⟩ fun b o by_ e => ?_
      have np2 : H2 p = none := by
        rw [upd_ne yp.symm] at np
        exact np
      rw [upd_ne by_, upd_ne (ne_of_none (s2 _ _ e) np2), upd_ne by_]
      exact s2 _ _ e
theorem scAPlaces : FnScope ["self"] ["self"] (defScope s_Assignment_places) := ⟨rfl, rfl, rfl, by decide +kernel, rfl, by decide +kernel, by decide +kernel⟩
theorem ok_aplaces {f CA : Addr} {mcA : Value} {fd : FuncData} (F : Fun K "places" "Assignment.places" s_Assignment_places f fd) (T : Nm mg) (B : Ac K mg CA mcA) : FnOk P w K mg base CX0 1 f fd ["self"] (spAPlaces CA) := by
  refine F.ok scAPlaces (fun vs H Q E h => ?_) (fun cdv A outer s H vs Q E hr h => ?_)
  · obtain ⟨y, x, zs, rfl, _⟩ := h
    rfl
  · obtain ⟨y, x, zs, rfl, ⟨dy, p, hy, hp⟩, k⟩ := h
    refine ⟨_, pss_one (ps_ret (pe_callTy call_list_of (by rfl) T.lst (by decide +kernel) (pa_cons (pe_fld (pv 0) rfl) pa_nil))), ?_⟩
    exact ⟨_, rfl, y, CA, dy, _, .ref p, rfl, hy, B.cl, B.nP, rfl, p, _, rfl, .inl (SqL.of hp), fun q nq => k q nq⟩
end
end FT


/-! is_integer -/
namespace FT
open PySem L2 TL ClX
section
variable {P : Program} {w : World} {K : PySem.W.Frag} {mg : Str → Option Value} {base : Heap}
theorem scIsInt : FnScope ["value", "least"] ["value", "least"] (defScope s_is_integer) := ⟨rfl, rfl, rfl, by decide +kernel, rfl, by decide +kernel, by decide +kernel⟩
theorem ok_isInt {f : Addr} {fd : FuncData} (F : Fun K "is_integer" "is_integer" s_is_integer f fd) (T : Nm mg) : FnOk P w K mg base CX0 1 f fd ["value", "least"] (spIsInt K) := by
  refine F.ok scIsInt (fun vs H Q E h => ?_) (fun cdv A outer s H vs Q E hr h => ?_)
  · obtain ⟨v, l, rfl, _⟩ := h
    rfl
  · obtain ⟨v, l, rfl, ⟨t, d⟩, k⟩ := h
    refine ⟨_, pss_one (ps_ret (pe_and (pe_callB call_isi (by rfl) T.isi (by decide +kernel) (pa_cons (pv 0) (pa_cons (pe_bltn (v := .ty "int") (u := .type "int") (by rfl) T.int (by decide +kernel) rfl) pa_nil)))
      (pe_and (pe_not (pe_callB call_isi (by rfl) T.isi (by decide +kernel) (pa_cons (pv 0) (pa_cons (pe_bltn (v := .ty "bool") (u := .type "bool") (by rfl) T.bool (by decide +kernel) rfl) pa_nil)))) (pe_one (pe_cmpR op_ge (pv 0) (pv 1) (nomark _)))))), ?_⟩
    refine ⟨_, rfl, v, _, _, _, _, rfl, .ty _, d.ty, d.int_, _, rfl, ?_⟩
    refine ite2 (fun yes => ⟨_, rfl, v, _, _, _, _, rfl, .ty _, d.ty, d.bool_, _, rfl, _, rfl, ?_⟩) (fun no => ?_)
    · refine ite2 (fun yes2 => ?_) (fun no2 => ?_)
      · cases v with
        | int i => exact ⟨_, rfl, _, rfl, i, l, rfl, rfl, k⟩
        | bl b => cases yes2
        | _ => cases yes
      · cases v with
        | int i => exact absurd rfl no2
        | bl b => exact k
        | _ => cases yes
    · cases v with
      | int i => exact absurd rfl no
      | bl b => exact absurd rfl no
      | _ => exact k
end
end FT


namespace FT
open PySem L2 TL ClX
section
variable {P : Program} {w : World} {K : PySem.W.Frag} {mg : Str → Option Value} {base : Heap}
abbrev NRes : List Str := ["forest", "users", "sizes", "found", "parents", "name", "place"]
theorem scRes : FnScope NRes ["forest", "users", "sizes"] (defScope s_residents_of) := ⟨rfl, rfl, rfl, by decide +kernel, rfl, by decide +kernel, by decide +kernel⟩
theorem ok_resid {f fP CF p1 g1 p2 g2 : Addr} {mc : Value} {fd fdP fd1 fd2 : FuncData} (F : Fun K "residents_of" "residents_of" s_residents_of f fd) (T : Nm mg) (O : FoC K CF) (Z : Fc K mg CF mc)
    (G : Dn P w K mg base CX0 3 "places_of" ["forest"] (spPlacesOf CF) fP fdP) (L1 : Pr1 P w K mg base CF "flags" (spFFlags CF) p1 g1 fd1) (L2 : Pr1 P w K mg base CF "parents" (spFParents CF) p2 g2 fd2) :
    FnOk P w K mg base CX0 4 f fd ["forest", "users", "sizes"] (spResid CF) := by
  obtain ⟨ur, cr⟩ := Z.root
  refine F.ok scRes (fun vs H Q E h => ?_) (fun cdv A outer s H vs Q E hr h => ?_)
  · obtain ⟨x, q, n, ts, kvs, rfl, _⟩ := h
    rfl
  · obtain ⟨x, q, n, ts, kvs, rfl, fa, o, hq, hv, k⟩ := h
    have hu := hu_of hr
    have hr2 : Room 2 _ := hr.mono (by decide)
    have big : 1000 ≤ sizeLine := by decide
    have few := o.few
    refine ⟨_, pss_cons (ps_setDc (i := 3) (own := [("place", 6)]) (g := gName 6) (tt := tYes) (tv := tIf (tTest (tOp rEq (tVar 6) (tCVal K (tC (.ref CF)) "ROOT"))) (tVar 1) (tDGet (tVar 2) (tVar 6))) rfl scRes.nd rfl rfl (swd_true rfl rfl rfl (by decide +kernel)) (pi_list (pe_call G.ok (hr.mono (by decide)) rfl G.mgn G.kp G.bn .nil pass0 (pa_cons (pv 0) pa_nil)))
        (blkOk_by (N := NRes) (sc := defScope s_residents_of) (by decide +kernel))
        (fun _ _ _ _ _ => pg_name (i := 6) scRes.nd rfl (Or.inl rfl)) (fun _ _ _ _ _ => pts_nil) (fun _ _ _ _ _ => pv 6)
        (fun _ _ _ _ _ => pe_ifExp (pt_cmpR op_eq (pv 6) (pe_cval (pe_glob (v := .ref CF) (by rfl) Z.gF rfl)) (nomark _)) (pv 1) (pe_dget hu (pv 2) (pv 6) (fun _ _ => rfl))))
      (pss_cons (ps_set (i := 4) scRes.nd rfl (.inl rfl) (pe_prop (pv 0) O.cl L2.pr L2.fn hr2 L2.bn .nil pass0 (by rfl)))
      (pss_cons (ps_for PassesOwn.never rfl (pi_list (pe_prop (pv 0) O.cl L1.pr L1.fn hr2 L1.bn .nil pass0 (by rfl))) (pg_name (i := 5) scRes.nd rfl (.inl rfl))
        (pss_one (ps_dput hu (pv 3) (pe_dget hu (pv 4) (pv 5) (fun _ _ => rfl)) (pe_op op_sub (pe_dget hu (pv 3) (pe_dget hu (pv 4) (pv 5) (fun _ _ => rfl)) (fun _ _ => rfl)) (pe_dget hu (pv 2) (pv 5) (fun _ _ => rfl))) rfl)))
      (pss_one (ps_ret (pv 3))))), ?_⟩
    obtain ⟨pls, epl⟩ : ∃ l, l = (("" : Str) :: ts.map Prod.fst) := ⟨_, rfl⟩
    have ndp : pls.Nodup := by rw [epl]; exact List.nodup_cons.mpr ⟨o.root, o.nd⟩
    have lpl : pls.length = ts.length + 1 := by rw [epl, List.length_cons, List.length_map]
    rw [← epl] at k
    refine ⟨_, rfl, x, ts, rfl, fa, few, fun p0 H0 s0 n0 a0 => ⟨p0, rfl, ⟨_, SqL.of a0⟩, fun D nD => ?_⟩⟩
    rw [← epl] at a0
    refine dc_it walk_list (fun i H' => Same H0 H' ∧ H' D = some (.dK (tblI (pls.take i) (resid [] n (szOf kvs))))) ⟨same_new nD, upd_same⟩ (fun i H' _ z => SqL.of (z.1 _ _ a0)) ?_ ?_
    · intro i y Ha Hb hi ⟨q1, q2⟩ ⟨eb, ex⟩
      subst eb
      obtain ⟨a, ha, rfl⟩ := map_of ex
      have ma : a ∈ pls := List.mem_of_getElem? ha
      have fresh : a ∉ pls.take i := fun hm => by
        obtain ⟨j, hj⟩ := List.mem_iff_getElem?.mp hm
        have jl := (List.getElem?_eq_some_iff.mp hj).1
        rw [List.length_take] at jl
        rw [List.getElem?_take, if_pos (by omega)] at hj
        have := (List.getElem?_inj (by omega) ndp).mp (hj.trans ha.symm)
        omega
      have fin : ∀ z, z = resid [] n (szOf kvs) a → ∃ kvs1 k1, V.str a = kV k1 ∧ Hb D = some (.dK kvs1) ∧ kvs1.length < sizeLine ∧ (Same H0 (upd Hb D (.dK (putK kvs1 k1 (.int z)))) ∧ (upd Hb D (.dK (putK kvs1 k1 (.int z)))) D = some (.dK (tblI (pls.take (i + 1)) (resid [] n (szOf kvs))))) := fun z ez =>
        ⟨_, Sum.inr a, rfl, q2, by rw [tblI_len, List.length_take]; omega, Same.put q1 nD, by rw [upd_same, tblI_snoc fresh ez, take_more ha]⟩
      refine ⟨rfl, ?_⟩
      refine ⟨_, rfl, ?_⟩
      refine ⟨_, rfl, CF, mc, _, ur, rfl, Z.rd, cr, rfl, _, rfl, ?_⟩
      by_cases e : a = ""
      · rw [decide_eq_true (show V.str a = V.str "" by rw [e])]
        refine iteT ⟨_, rfl, fin n ?_⟩
        rw [e]
        show n = n - 0
        omega
      · rw [decide_eq_false (show ¬ V.str a = V.str "" from fun z => e (V.str.inj z))]
        have mk : a ∈ ts.map Prod.fst := by
          rw [epl] at ma
          exact (List.mem_cons.mp ma).resolve_left e
        refine iteF ⟨_, rfl, _, rfl, q, .int (szOf kvs a), rfl, ?_, fin _ ?_⟩
        · have z := DGet.k (k := Sum.inr a) (q1 _ _ (s0 _ _ hq))
          rw [hv a mk] at z
          exact z
        · show szOf kvs a = (if a = "" then n else szOf kvs a) - 0
          rw [if_neg e]
          omega
    · intro H1 ⟨q1, q2⟩
      have lp2 : (pls.map V.str).length = pls.length := List.length_map _
      rw [lp2, List.take_length] at q2
      have s1 : Same H H1 := s0.trans q1
      have nD0 : H D = none := s0.free nD
      obtain ⟨dx, dq, hx, hd⟩ := id fa
      refine ⟨_, rfl, x, dx, _, rfl, s1 _ _ hx, x, ts, rfl, fa.mono s1, fun pp npp => ?_⟩
      have pD : D ≠ pp := ne_of_none q2 npp
      obtain ⟨H2, e2⟩ : ∃ X, X = upd H1 pp (.dK (prs ts)) := ⟨_, rfl⟩
      have s12 : Same H1 H2 := e2 ▸ same_new npp
      have a2 : H2 pp = some (.dK (prs ts)) := by rw [e2]; exact upd_same
      rw [← e2]
      have s2 := s1.trans s12
      refine ⟨_, rfl, x, dx, _, rfl, s2 _ _ hx, x, ts, rfl, fa.mono s2, fun pf npf => ⟨pf, rfl, ⟨_, SqL.of upd_same⟩, ?_⟩⟩
      obtain ⟨H3, e3⟩ : ∃ X, X = upd H2 pf (.lst ((ts.map Prod.fst).map V.str)) := ⟨_, rfl⟩
      have s23 : Same H2 H3 := e3 ▸ same_new npf
      have a3 : H3 pf = some (.lst ((ts.map Prod.fst).map V.str)) := by rw [e3]; exact upd_same
      rw [← e3]
      have s3 := s2.trans s23
      have pfD : pf ≠ D := fun z => by rw [z, s23 _ _ (s12 _ _ q2)] at a3; cases a3
      refine for_it walk_list (fun j σ' H' => (∃ u5, σ' = [some (.ref x), some (.int n), some (.ref q), some (.ref D), some (.ref pp), u5, none]) ∧ Same H H' ∧ H' pp = some (.dK (prs ts)) ∧ H' pf = some (.lst ((ts.map Prod.fst).map V.str)) ∧ H' D = some (.dK (tblI pls (resid (ts.take j) n (szOf kvs)))))
        ⟨⟨none, rfl⟩, s3, s23 _ _ a2, a3, s23 _ _ (s12 _ _ q2)⟩ (fun j σ' H' _ z => SqL.of z.2.2.2.1) ?_ ?_
      · intro j y σ' Ha Hb hj ⟨⟨u5, e⟩, sa, app, apf, aD⟩ ⟨eb, ex⟩
        subst e
        subst eb
        obtain ⟨a, ha, rfl⟩ := map_of ex
        obtain ⟨⟨a', pa⟩, hp, rfl⟩ := Option.map_eq_some_iff.mp (show (ts[j]?).map Prod.fst = some a by rw [← List.getElem?_map]; exact ha)
        have mp := List.mem_of_getElem? hp
        have mk : a' ∈ ts.map Prod.fst := List.mem_map.mpr ⟨_, mp, rfl⟩
        have ep := par_of o.nd mp
        obtain ⟨rk, r⟩ := o.up
        have mpa : pa ∈ pls := by
          rw [epl]
          exact List.mem_cons.mpr ((r _ mp).2.imp id And.left)
        have dg : DGet Hb pp (.str a') (some (.str pa)) := by
          have z := DGet.k (k := Sum.inr a') app
          rw [val_prs, ep] at z
          exact z
        refine ⟨_, rfl, _, rfl, _, rfl, pp, _, rfl, dg, D, .int (resid (ts.take j) n (szOf kvs) pa), rfl, ?_, ?_⟩
        · have z := DGet.k (k := Sum.inr pa) aD
          rw [tblI_val mpa] at z
          exact z
        · refine ⟨_, rfl, _, rfl, q, .int (szOf kvs a'), rfl, ?_, _, _, rfl, rfl, ?_⟩
          · have z := DGet.k (k := Sum.inr a') (sa _ _ hq)
            rw [hv a' mk] at z
            exact z
          · refine ⟨_, rfl, _, rfl, _, rfl, pp, _, rfl, dg, D, _, rfl, DPut.k (k := Sum.inr pa) aD (by rw [tblI_len]; omega), ?_⟩
            refine ⟨⟨_, rfl⟩, fun b u e => ?_, ?_, ?_, ?_⟩
            · rw [upd_ne (ne_of_none e nD0)]
              exact sa b u e
            · rw [upd_ne pD.symm]
              exact app
            · rw [upd_ne pfD]
              exact apf
            · rw [upd_same, tblI_put mpa]
              congr 2
              refine tblI_congr fun b _ => ?_
              rw [take_more hp, resid_snoc]
              by_cases e : b = pa
              · rw [if_pos e, if_pos e.symm, e]
              · rw [if_neg e, if_neg fun z => e z.symm]
      · intro σ' H4 ⟨⟨u5, e⟩, sa, app, apf, aD⟩
        subst e
        rw [List.length_map, List.length_map, List.take_length] at aD
        exact ⟨_, rfl, k D H4 sa nD0 aD⟩
end
end FT


namespace FT
open PySem L2 TL ClX
section
variable {P : Program} {w : World} {K : PySem.W.Frag} {mg : Str → Option Value} {base : Heap}
abbrev NFe : List Str := ["forest", "users", "sizes", "name", "left", "place"]
theorem scFe : FnScope NFe ["forest", "users", "sizes"] (defScope s_need_feasible) := ⟨rfl, rfl, rfl, by decide +kernel, rfl, by decide +kernel, by decide +kernel⟩
theorem ok_feas {f fR fI CF CS IS p1 g1 : Addr} {fd fdR fdI dS fd1 : FuncData} (F : Fun K "need_feasible" "need_feasible" s_need_feasible f fd) (T : Nm mg) (O : FoC K CF) (S : Er1 P w K mg base "InvalidSizes" "place" CS IS dS)
    (R : Dn P w K mg base CX0 4 "residents_of" ["forest", "users", "sizes"] (spResid CF) fR fdR) (I : Dn P w K mg base CX0 1 "is_integer" ["value", "least"] (spIsInt K) fI fdI) (L1 : Pr1 P w K mg base CF "flags" (spFFlags CF) p1 g1 fd1) :
    FnOk P w K mg base (L2.CX P w) 5 f fd ["forest", "users", "sizes"] (spFeas K CF CS) := by
  refine F.okX scFe (fun vs H Q E h => ?_) (fun cdv A outer s H vs Q E hr h => ?_)
  · obtain ⟨x, n, sv, ts, o, rfl, _⟩ := h
    rfl
  · obtain ⟨x, n, sv, ts, so, rfl, fa, o, hz, k⟩ := h
    have hu := hu_of hr
    have hr2 : Room 2 _ := hr.mono (by decide)
    have big : 1000 ≤ sizeLine := by decide
    have few := o.few
    have flags : PE (cxOf (L2.CX P w) P w K mg base NFe "need_feasible" (defScope s_need_feasible) f cdv A outer s H E) (.Name "forest" ⟨0, 0, 0, 0⟩) (tVar 0) := pv 0
    refine ⟨_, pss_cons (ps_if (PW.pt (pw_or (pt_not (pt_val (pe_callB call_isi (by rfl) T.isi (by decide +kernel) (pa_cons (pv 2) (pa_cons (pe_bltn (v := .ty "dict") (u := .type "dict") (by rfl) T.dct (by decide +kernel) rfl) pa_nil)))))
        (pw_or1 (pt_cmpR op_ne (pe_callB call_lenD (by rfl) T.len PySem.boot_len (pa_cons (pv 2) pa_nil)) (pe_callB call_len_seq (by rfl) T.len PySem.boot_len (pa_cons (pe_prop (pv 0) O.cl L1.pr L1.fn hr2 L1.bn .nil pass0 (by rfl)) pa_nil)) (nomark _)))))
        (pss_one (ps_err1 S rfl (takes_of rfl rfl rfl rfl) hr2 rfl pe_non)) pss_nil)
      (pss_cons (ps_if (pt_not (pt_val (pe_callB (cr_all rfl) (by rfl) T.all (by decide +kernel) (pa_cons (pe_lc (own := [("name", 3)]) (g := gName 3) (tt := tYes) rfl scFe.nd (pi_list (pe_prop (pv 0) O.cl L1.pr L1.fn hr2 L1.bn .nil pass0 (by rfl)))
          (blkOk_by (N := NFe) (sc := defScope s_need_feasible) (by decide +kernel))
          (fun _ _ _ _ _ => pg_name (i := 3) scFe.nd rfl (Or.inl rfl)) (fun _ _ _ _ _ => pts_nil) (fun _ _ _ _ _ => pe_cmp (pc_din hu (pv 3) (pv 2)) rfl)) pa_nil))))
        (pss_one (ps_err1 S rfl (takes_of rfl rfl rfl rfl) hr2 rfl pe_non)) pss_nil)
      (pss_cons (ps_for (passes_of rfl) rfl (pi_list (pe_prop (pv 0) O.cl L1.pr L1.fn hr2 L1.bn .nil pass0 (by rfl))) (pg_name (i := 3) scFe.nd rfl (.inl rfl))
        (pss_one (ps_if (pt_not (pt_val (pe_call I.ok (hr.mono (by decide)) rfl I.mgn I.kp I.bn .nil pass0 (pa_cons (pe_dget hu (pv 2) (pv 3) (fun _ _ => rfl)) (pa_cons pe_int pa_nil))))) (pss_one (ps_err1 S rfl (takes_of rfl rfl rfl rfl) hr2 rfl (pv 3))) pss_nil)))
      (pss_cons (ps_set (i := 4) scFe.nd rfl (.inl rfl) (pe_call R.ok hr rfl R.mgn R.kp R.bn .nil pass0 (pa_cons (pv 0) (pa_cons (pv 1) (pa_cons (pv 2) pa_nil)))))
      (pss_one (ps_lock (ps_for (passes_of rfl) rfl (pi_keys (pv 4)) (pg_name (i := 5) scFe.nd rfl (.inl rfl))
        (pss_one (ps_if (pt_cmpR op_lt (pe_dget hu (pv 4) (pv 5) (fun _ _ => rfl)) pe_int (nomark _)) (pss_one (ps_err1 S rfl (takes_of rfl rfl rfl rfl) hr2 rfl (pv 5))) pss_nil)))))))), ?_⟩
    obtain ⟨dx, dq, hx, hd⟩ := id fa
    cases so with
    | none =>
      obtain ⟨t, d, nd⟩ := hz
      refine ⟨_, rfl, sv, _, _, _, _, rfl, .ty _, d.ty, d.dict_, _, rfl, ?_⟩
      rw [decide_eq_false nd]
      show if true = true then _ else _
      rw [if_pos rfl]
      exact iteT (out1 k Same.refl)
    | some kvs =>
      obtain ⟨q, rfl, hq, dat⟩ := hz
      refine ⟨_, rfl, .ref q, _, _, _, _, rfl, .ty _, (Dat.dct (K := K) hq).ty, (Dat.dct (K := K) hq).dict_, _, rfl, ?_⟩
      rw [decide_eq_true rfl]
      refine iteF ?_
      refine ⟨_, rfl, q, kvs, rfl, hq, ?_⟩
      refine ⟨_, rfl, x, dx, _, rfl, hx, x, ts, rfl, fa, fun pf nf => ⟨pf, _, rfl, .inl (SqL.of upd_same), rfl, _, rfl, ?_⟩⟩
      rw [List.length_map, List.length_map, len_int]
      have s1 := same_new (o := .lst ((ts.map Prod.fst).map V.str)) nf
      obtain ⟨H1, e1⟩ : ∃ X, X = upd H pf (.lst ((ts.map Prod.fst).map V.str)) := ⟨_, rfl⟩
      rw [← e1] at s1 ⊢
      by_cases el : kvs.length = ts.length
      · rw [decide_eq_true el]
        refine iteF ?_
        -- all there?
        refine ⟨_, rfl, x, dx, _, rfl, s1 _ _ hx, x, ts, rfl, fa.mono s1, fun pg ng => ⟨pg, rfl, ⟨_, SqL.of upd_same⟩, fun D nD => ?_⟩⟩
        obtain ⟨H2, e2⟩ : ∃ X, X = upd H1 pg (.lst ((ts.map Prod.fst).map V.str)) := ⟨_, rfl⟩
        have s12 : Same H1 H2 := e2 ▸ same_new ng
        have a2 : H2 pg = some (.lst ((ts.map Prod.fst).map V.str)) := by rw [e2]; exact upd_same
        have s2 := s1.trans s12
        rw [← e2] at nD ⊢
        refine lc_it walk_list (fun i H' => Same H2 H' ∧ H' D = some (.lst ((((ts.map Prod.fst).take i).map fun a => (valV kvs (Sum.inr a)).isSome).map V.bl))) ⟨same_new nD, upd_same⟩ (fun i H' _ z => SqL.of (z.1 _ _ a2)) ?_ ?_
        · intro i y Ha Hb hi ⟨q1, q2⟩ ⟨eb, ex⟩
          subst eb
          obtain ⟨a, ha, rfl⟩ := map_of ex
          refine ⟨rfl, ?_⟩
          refine ⟨_, rfl, _, rfl, q, _, rfl, DGet.k (k := Sum.inr a) (q1 _ _ (s2 _ _ hq)), _, q2, ?_, Same.put q1 nD, ?_⟩
          · rw [List.length_map, List.length_map, List.length_take, List.length_map]
            omega
          · rw [upd_same, take_more ha, List.map_append, List.map_append] <;> rfl
        · intro H3 ⟨q1, q2⟩
          have s3 := s2.trans q1
          rw [List.length_map, List.take_length] at q2
          refine ⟨D, _, rfl, SqL.of q2, _, rfl, ?_⟩
          have eall : (((ts.map Prod.fst).map fun a => (valV kvs (Sum.inr a)).isSome)).all id = (ts.map Prod.fst).all fun a => (valV kvs (Sum.inr a)).isSome := by rw [List.all_map] <;> rfl
          rw [eall]
          cases ea : (ts.map Prod.fst).all fun a => (valV kvs (Sum.inr a)).isSome with
          | false =>
            refine iteT (out1 (H := H) ?_ s3)
            have e : feE CS ts n (some kvs) = some (.e1 CS "place" .non) := by
              unfold feE
              rw [feas_some, if_neg (fun z => z el), if_pos ea] <;> rfl
            rw [e] at k
            exact k
          | true =>
            refine iteF ?_
            have there : ∀ a ∈ ts.map Prod.fst, ∃ v, valV kvs (Sum.inr a) = some v := fun a ha => Option.isSome_iff_exists.mp (List.all_eq_true.mp ea a ha)
            -- one by one
            refine ⟨_, rfl, x, dx, _, rfl, s3 _ _ hx, x, ts, rfl, fa.mono s3, fun ph nh => ⟨ph, rfl, ⟨_, SqL.of upd_same⟩, ?_⟩⟩
            obtain ⟨H4, e4⟩ : ∃ X, X = upd H3 ph (.lst ((ts.map Prod.fst).map V.str)) := ⟨_, rfl⟩
            have s4 : Same H H4 := s3.trans (e4 ▸ same_new nh)
            have a4 : H4 ph = some (.lst ((ts.map Prod.fst).map V.str)) := by rw [e4]; exact upd_same
            rw [← e4]
            refine for_it walk_list (fun j σ' H' => (∃ u3, σ' = [some (.ref x), some (.int n), some (.ref q), u3, none, none]) ∧ Same H4 H' ∧ ((ts.map Prod.fst).take j).find? (badKey kvs) = none)
              ⟨⟨none, rfl⟩, Same.refl, rfl⟩ (fun j σ' H' _ z => SqL.of (z.2.1 _ _ a4)) ?_ ?_
            · intro j y σ' Ha Hb hj ⟨⟨u3, e⟩, sa, good⟩ ⟨eb, ex⟩
              subst e
              subst eb
              obtain ⟨a, ha, rfl⟩ := map_of ex
              obtain ⟨v, hv⟩ := there a (List.mem_of_getElem? ha)
              have s0 := s4.trans sa
              refine ⟨_, rfl, _, rfl, q, v, rfl, by have z := DGet.k (k := Sum.inr a) (s0 _ _ hq); rw [hv] at z; exact z, v, 0, rfl, (dat _ (valV_mem hv)).mono s0, _, rfl, ?_⟩
              cases eg : isGe v 0 with
              | true => exact iteF ⟨⟨_, rfl⟩, sa, find_more ha good (by unfold badKey; rw [hv]; show (!isGe v 0) = false; rw [eg] <;> rfl)⟩
              | false =>
                refine iteT ⟨_, rfl, out1 (H := H) ?_ s0⟩
                have e : feE CS ts n (some kvs) = some (.e1 CS "place" (.str a)) := by
                  unfold feE
                  rw [feas_some, if_neg (fun z => z el), if_neg (by rw [ea]; decide), find_at ha good (by unfold badKey; rw [hv]; show (!isGe v 0) = true; rw [eg] <;> rfl)] <;> rfl
                rw [e] at k
                exact k
            · intro σ' H5 ⟨⟨u3, e⟩, sa, good⟩
              subst e
              rw [List.length_map, List.take_length] at good
              have s5 := s4.trans sa
              have nums : ∀ a ∈ ts.map Prod.fst, valV kvs (Sum.inr a) = some (.int (szOf kvs a)) := fun a ha => by
                obtain ⟨v, hv⟩ := there a ha
                have g := List.find?_eq_none.mp good a ha
                unfold badKey at g
                rw [hv] at g
                unfold szOf
                rw [hv]
                cases v with
                | int i => rfl
                | _ => exact absurd rfl g
              refine ⟨_, rfl, _, rfl, _, rfl, x, q, n, ts, kvs, rfl, fa.mono s5, o, s5 _ _ hq, nums, fun F H6 s56 nF aF => ?_⟩
              have s6 := s5.trans s56
              have nF0 := s5.free nF
              refine ⟨F, _, aF, trivial, fun od => ⟨_, rfl, F, od, rfl, .inl ⟨_, upd_same, ?_⟩⟩⟩
              obtain ⟨pls, epl⟩ : ∃ l, l = (("" : Str) :: ts.map Prod.fst) := ⟨_, rfl⟩
              rw [← epl] at aF ⊢
              have ek : feE CS ts n (some kvs) = ((pls.find? fun p => decide (resid ts n (szOf kvs) p < 0)).map V.str).map fun v => .e1 CS "place" v := by
                unfold feE
                rw [feas_some, if_neg (fun z => z el), if_neg (by rw [ea]; decide), good, epl]
              rw [ek] at k
              refine for_it walk_keys (fun j σ' H' => (∃ u5, σ' = [some (.ref x), some (.int n), some (.ref q), u3, some (.ref F), u5]) ∧ Same H H' ∧ H' F = some (.frz od (.dK (tblI pls (resid ts n (szOf kvs))))) ∧ (pls.take j).find? (fun p => decide (resid ts n (szOf kvs) p < 0)) = none)
                ⟨⟨none, rfl⟩, Same.put s6 nF0, upd_same, rfl⟩ (fun j σ' H' _ z => z.2.2.1) ?_ ?_
              · intro j y σ' Ha Hb hj ⟨⟨u5, e⟩, sa, aF', good'⟩ ⟨eb, kk, vv, hk, ey⟩
                subst e
                subst eb
                subst ey
                obtain ⟨a, ha, rfl, rfl⟩ := tblI_at hk
                refine ⟨_, rfl, _, rfl, F, .int (resid ts n (szOf kvs) a), rfl, .inl ⟨_, Sum.inr a, .inr ⟨od, aF'⟩, rfl, (tblI_val (List.mem_of_getElem? ha)).symm⟩, _, _, rfl, rfl, _, rfl, ?_⟩
                by_cases neg : resid ts n (szOf kvs) a < 0
                · rw [decide_eq_true neg]
                  refine iteT ⟨_, rfl, out1 (H := H) ?_ sa⟩
                  rw [find_at ha good' (decide_eq_true neg)] at k
                  exact k
                · rw [decide_eq_false neg]
                  exact iteF ⟨⟨_, rfl⟩, sa, aF', find_more ha good' (decide_eq_false neg)⟩
              · intro σ' H7 ⟨⟨u5, e⟩, sa, aF', good'⟩
                rw [tblI_len, List.take_length] at good'
                rw [good'] at k
                exact ⟨aF', k _ (Same.put sa nF0)⟩
      · rw [decide_eq_false el]
        show if true = true then _ else _
        rw [if_pos rfl]
        refine out1 (H := H) ?_ s1
        have e : feE CS ts n (some kvs) = some (.e1 CS "place" .non) := by
          unfold feE
          rw [feas_some, if_pos el] <;> rfl
        rw [e] at k
        exact k
end
end FT


namespace FT
open PySem L2 TL ClX
section
variable {P : Program} {w : World} {K : PySem.W.Frag} {mg : Str → Option Value} {base : Heap}
theorem scAmtOf : FnScope ["forest", "sizes", "new", "name"] ["forest", "sizes", "new"] (defScope s_amounts_of) := ⟨rfl, rfl, rfl, by decide +kernel, rfl, by decide +kernel, by decide +kernel⟩
theorem ok_amtOf {f CF p1 g1 : Addr} {fd fd1 : FuncData} (F : Fun K "amounts_of" "amounts_of" s_amounts_of f fd) (O : FoC K CF) (L1 : Pr1 P w K mg base CF "flags" (spFFlags CF) p1 g1 fd1) :
    FnOk P w K mg base CX0 3 f fd ["forest", "sizes", "new"] (spAmtOf CF) := by
  refine F.ok scAmtOf (fun vs H Q E h => ?_) (fun cdv A outer s H vs Q E hr h => ?_)
  · obtain ⟨x, q1, q2, ts, k1, k2, rfl, _⟩ := h
    rfl
  · obtain ⟨x, q1, q2, ts, k1, k2, rfl, fa, o, h1, h2, n1, n2, k⟩ := h
    have hu := hu_of hr
    have big : 1000 ≤ sizeLine := by decide
    have few := o.few
    refine ⟨_, pss_one (ps_ret (pe_dc (own := [("name", 3)]) (g := gName 3) (tt := tYes) rfl scAmtOf.nd (pi_list (pe_prop (pv 0) O.cl L1.pr L1.fn hr L1.bn .nil pass0 (by rfl)))
        (blkOk_by (N := ["forest", "sizes", "new", "name"]) (sc := defScope s_amounts_of) (by decide +kernel))
        (fun _ _ _ _ _ => pg_name (i := 3) scAmtOf.nd rfl (Or.inl rfl)) (fun _ _ _ _ _ => pts_nil) (fun _ _ _ _ _ => pv 3)
        (fun _ _ _ _ _ => pe_op op_sub (pe_dget hu (pv 2) (pv 3) (fun _ _ => rfl)) (pe_dget hu (pv 1) (pv 3) (fun _ _ => rfl))))), ?_⟩
    obtain ⟨dx, dq, hx, hd⟩ := id fa
    refine ⟨_, rfl, x, dx, _, rfl, hx, x, ts, rfl, fa, fun pf nf => ⟨pf, rfl, ⟨_, SqL.of upd_same⟩, fun D nD => ?_⟩⟩
    obtain ⟨H1, e1⟩ : ∃ X, X = upd H pf (.lst ((ts.map Prod.fst).map V.str)) := ⟨_, rfl⟩
    have s1 : Same H H1 := e1 ▸ same_new nf
    have a1 : H1 pf = some (.lst ((ts.map Prod.fst).map V.str)) := by rw [e1]; exact upd_same
    rw [← e1] at nD ⊢
    refine dc_it walk_list (fun i H' => Same H1 H' ∧ H' D = some (.dK (tblI ((ts.map Prod.fst).take i) fun a => szOf k2 a - szOf k1 a))) ⟨same_new nD, upd_same⟩ (fun i H' _ z => SqL.of (z.1 _ _ a1)) ?_ ?_
    · intro i y Ha Hb hi ⟨z1, z2⟩ ⟨eb, ex⟩
      subst eb
      obtain ⟨a, ha, rfl⟩ := map_of ex
      have ma := List.mem_of_getElem? ha
      have fresh : a ∉ (ts.map Prod.fst).take i := fun hm => by
        obtain ⟨j, hj⟩ := List.mem_iff_getElem?.mp hm
        have jl := (List.getElem?_eq_some_iff.mp hj).1
        rw [List.length_take] at jl
        rw [List.getElem?_take, if_pos (by omega)] at hj
        have := (List.getElem?_inj (by omega) o.nd).mp (hj.trans ha.symm)
        omega
      refine ⟨rfl, ?_⟩
      refine ⟨_, rfl, _, rfl, _, rfl, q2, .int (szOf k2 a), rfl, ?_, _, rfl, _, rfl, q1, .int (szOf k1 a), rfl, ?_, _, _, rfl, rfl, _, Sum.inr a, rfl, z2, ?_, Same.put z1 nD, ?_⟩
      · have z := DGet.k (k := Sum.inr a) (z1 _ _ (s1 _ _ h2))
        rw [n2 a ma] at z
        exact z
      · have z := DGet.k (k := Sum.inr a) (z1 _ _ (s1 _ _ h1))
        rw [n1 a ma] at z
        exact z
      · rw [tblI_len, List.length_take, List.length_map]
        omega
      · rw [upd_same, tblI_snoc fresh rfl, take_more ha]
    · intro H3 ⟨z1, z2⟩
      rw [List.length_map, List.take_length] at z2
      exact k D H3 (s1.trans z1) (s1.free nD) z2
end
end FT


/-! lists of numbers as data -/
namespace FT
open PySem L2 TL ClX LiI
theorem dp_ints {K : PySem.W.Frag} {H : Hp} : ∀ ns : List Int, DpAll K H (ns.map V.int) (ns.map PyData.int)
  | [] => .nil
  | n :: ns => .cons (.int n) (dp_ints ns)
theorem lay_ints : ∀ ns : List Int, PyData.canLayAll0 (ns.map PyData.int) = true ∧ PyData.depthAll (ns.map PyData.int) ≤ 0
  | [] => ⟨rfl, Nat.le_refl _⟩
  | n :: ns => by
    obtain ⟨h1, h2⟩ := lay_ints ns
    constructor
    · show (true && PyData.canLayAll0 (ns.map PyData.int)) = true
      rw [h1] <;> rfl
    · show max 0 (PyData.depthAll (ns.map PyData.int)) ≤ 0
      omega
theorem ints_shaped (ns : List Int) : (PyData.list (ns.map PyData.int)).canLay0 = true ∧ SeqAt.shaped (.list (ns.map PyData.int)) = true := by
  obtain ⟨h1, h2⟩ := lay_ints ns
  have c : (PyData.list (ns.map PyData.int)).canLay0 = true := h1
  refine ⟨c, ?_⟩
  unfold SeqAt.shaped
  rw [c]
  have d : (PyData.list (ns.map PyData.int)).depth ≤ 64 := by
    show PyData.depthAll (ns.map PyData.int) + 1 ≤ 64
    omega
  rw [decide_eq_true d] <;> rfl
end FT


/-! are_lists of valid lists; Rollout: __init__, load -/
namespace FT
open PySem L2 TL ClX LiI
def tlLst (wi1 : TI) (g1 : TG) (tt1 : TT) (te : TE) (vs1 : List Nat) : Addr → St → Hp → (Hp → Prop) → Prop := fun D σ H N => wi1 σ H fun J1 H4 => ∃ W1 : Nat → Nat → Hp → Prop, (∃ m, W1 0 m H4) ∧ ∀ j k H, W1 j k H →
  (J1.stop j H ∧ N H) ∨ (J1.go j H ∧ ∃ Nx1 : Hp → Prop, (∀ H', Nx1 H' → ∃ k', k' < k ∧ W1 (j + 1) k' H') ∧ ∀ x H', J1.yld j H x H' → g1 x (wipe σ vs1) H' fun σ3 H5 => wipe σ3 vs1 = wipe σ vs1 ∧ tt1 σ3 H5 fun b H6 =>
    if b = true then te σ3 H6 fun y H7 => ∃ acc, H7 D = some (.lst acc) ∧ acc.length < sizeLine ∧ Nx1 (upd H7 D (.lst (acc ++ [y]))) else Nx1 H6)
theorem rgV_usr (n : Nat) : rgV 0 (n : Int) = (usr n).map V.int := by
  unfold rgV usr
  rw [List.map_map, show ((n : Int) - 0).toNat = n by omega]
  refine List.map_congr_left fun k _ => ?_
  show V.int (0 + (k : Int)) = V.int (k : Int)
  rw [Int.zero_add]
theorem usr_len (n : Nat) : (usr n).length = n := by
  unfold usr
  rw [List.length_map, List.length_range]
/-- the class Rollout -/
structure RoC (K : PySem.W.Frag) (mg : Str → Option Value) (CR : Addr) (mc : Value) : Prop where
  gR : mg "Rollout" = some (.ref CR)
  rd : CRead K CR mc
  cl : Cls K CR
  nG : NoAttr K CR "grown_from"
  nK : NoAttr K CR "kept_lists"
  nS : NoAttr K CR "past_sizes"
def rFs (x q z : Addr) : List (Str × V) := [("grown_from", .ref x), ("kept_lists", .ref q), ("past_sizes", .ref z)]
def L0 (n : Nat) (p : Str) : List Int := if p = "" then usr n else []
def spAreL (CF : Addr) : Sp := fun vs H Q _ => ∃ (x q : Addr) (ts : List (Str × Str)) (r : Str → Addr) (L : Str → List Int) (n : Nat), vs = [.ref x, .ref q] ∧ FAt CF H x ts ∧ TreeOk ts ∧ LsAt H q (pls ts) r L ∧ Val ts n L ∧ 1 ≤ n ∧ n ≤ 60 ∧ ∀ H', Same H H' → Q (.bl true) H'
def spRInit (CF CR : Addr) : Sp := fun vs H Q _ => ∃ (y x dy : Addr) (n : Nat) (ts : List (Str × Str)), vs = [.ref y, .ref x, .int (n : Int)] ∧ H y = some (.ins CR dy []) ∧ FAt CF H x ts ∧ TreeOk ts ∧ 1 ≤ n ∧ n ≤ 60 ∧
  ∀ (H' : Hp) (q z : Addr) (r : Str → Addr), H q = none → H z = none → (∀ p ∈ pls ts, H (r p) = none) → (∀ b u, b ≠ y → H b = some u → H' b = some u) → H' y = some (.ins CR dy (rFs x q z)) → LsAt H' q (pls ts) r (L0 n) → H' z = some (.lst []) → Q .non H'
end FT


/-! Own: repr over the layer. repr asks what calls of repr are under way (A.guards), and the layer's contracts do not tell it: a contract FnG that tells it too, its rule for a def's body, its call, the end. -/
namespace L2
open PySem PySem.Spec PyProof.Rows
/-- no repr is under way -/
abbrev Clr (A : Around) : Prop := A.guards = some []
theorem Clr.deeper {A : Around} {env : Env} (h : Clr A) : Clr (A.deeper env) := by
  have h' : A.guards = some [] := h
  show (A.deeper env).guards = some []
  first
    | exact h'
    | (simp [Around.deeper, h', pushGuards, Code.guards, Code.isGuard])
structure FnG (P : Program) (w : World) (K : PySem.W.Frag) (mg : Str → Option Value) (base : Heap) (CX : CXT) (k : Nat) (f : Addr) (fd : FuncData) (ps : List Str) (sp : Sp) : Prop where
  len : ∀ vs H Q E, sp vs H Q E → vs.length = ps.length
  run : ∀ (A : Around) (outer : List Env) (s : Shared) (H : Hp) (args : Args) (us : List Value) (vs : List V) (Q : VK) (E : XK), Clr A → Room k A → Env0 P w K mg base A outer s H → BindsTo s fd args (ps.zip us) → Vals vs us → sp vs H Q E →
    codeAny (model P w) A (.call (.ref f) args) (CR CX outer P w H s Q E) s
theorem FnOk.g {P : Program} {w : World} {K : PySem.W.Frag} {mg : Str → Option Value} {base : Heap} {CX : CXT} {k : Nat} {f : Addr} {fd : FuncData} {ps : List Str} {sp : Sp} (F : FnOk P w K mg base CX k f fd ps sp) : FnG P w K mg base CX k f fd ps sp :=
  ⟨F.len, fun A outer s H args us vs Q E _ => F.run A outer s H args us vs Q E⟩
section
variable {P : Program} {w : World} {K : PySem.W.Frag} {mg : Str → Option Value} {base : Heap}
/-- a def by its body, where nothing is raised out of it -/
theorem Fun.okG {x qual : Str} {st : Stmt} {f : Addr} {fd : FuncData} {N ps : List Str} {k : Nat} {sp : Sp} (F : Fun K x qual st f fd) (S : FnScope N ps (defScope st)) (len : ∀ vs H Q E, sp vs H Q E → vs.length = ps.length)
    (body : ∀ (cdv : Value) (A : Around) (outer : List Env) (s : Shared) (H : Hp) (vs : List V) (Q : VK) (E : XK), Clr A → Room k (A.deeper (envOfC qual (defScope st) s.heap.objs.size f cdv)) → sp vs H Q E →
      ∃ t, PSs (cxOf CX0 P w K mg base N qual (defScope st) f cdv A outer s H E).nox (defBody st) t ∧ t { nx := fun _ H' => Q .non H', rt := Q } (start N vs) H) : FnG P w K mg base CX0 (k + 1) f fd ps sp := by
  obtain ⟨oc, od, kV, doc, pm, an, cdv, ct, osl, rfl, lk, code⟩ := F.ex
  refine ⟨len, fun A outer s H args us vs Q E clr room e0 binds rel want => ?_⟩
  have nps := len _ _ _ _ want
  have KX : K.In s.heap := e0.mod.kin.keeps fun b o e => (e0.bs b o e).1
  have lim : s.heap.NoLimit := e0.mod.nolimit.keeps fun b o e => (e0.bs b o e).1
  refine codeAny_call_function room.depth (KX _ _ lk) rfl S.co S.gen rfl (PySem.W.codeRec_of KX code) (binds _ _ _ _ (wpAny_newFunctionEnv_cells S.kind (fun y hy => ?_) fun env he s1 x => ?_))
  · obtain ⟨n, v⟩ := y
    exact (S.par n (List.of_mem_zip hy).1).elim .inl fun q => .inr ⟨q, PySem.W.cellsFrom_some _ _ _ (.inl q)⟩
  · subst he
    obtain ⟨t, term, q⟩ := body cdv A outer s H vs Q E clr (room.deeper _) want
    have I : Inv (cxOf CX0 P w K mg base N qual (defScope st) f cdv A outer s H E) [] (start N vs) H s1 := inv_start S room.hd e0 nps rel x
    refine ⟨lim.keeps x.toInCall.keep, codeAny_func (wpAny_mono (term.nox.run [] s1 (start N vs) H _ I q) (fun fl s' z => ?_) fun _ _ z => z)⟩
    match fl, z with
    | .ret u, ⟨v, _, H', J, rv, q⟩ => exact ⟨v, H', J.os, J.bare, J.base, J.hok, rv, q⟩
    | .next, ⟨_, H', J, q⟩ => exact ⟨.non, H', J.os, J.bare, J.base, J.hok, rfl, q⟩
    | .brk, ⟨_, _, _, q⟩ => exact q.elim
    | .cont, ⟨_, _, _, q⟩ => exact q.elim
end
section
variable {X : Cx} {CX : CXT} {k : Nat} {f : Addr} {fd : FuncData} {ps : List Str} {sp : Sp} {dvs : List V} {ds : List Value} {E : XK} {x : Str} {p pos : Pos} {e : Expr} {es : List Expr} {t : TA}
/-- f(e, ..), f of such a contract -/
theorem pe_callG (F : FnG X.prog X.w X.K X.mg X.base CX k f fd ps sp) (clr : Clr X.A) (hr : Room k X.A) (hg : Gl X x) (hm : X.mg x = some (.ref f)) (hk : PySem.W.keepIn X.K (.ref f) = true) (hb : Binds X.K fd ps ds) (hd : Vals dvs ds) (hx : Passes CX X E)
    (ha : PA X (e :: es) t) (dbg : (x == ("__debug__" : Str)) = false := by decide) (one : starEach (e :: es) X.env = (false, eval e X.env) :: starEach es X.env := by rfl) (plain : (backTo pos (starEach es X.env)).any (·.1) = false := by rfl) :
    PE X (.Call (.Name x p) (e :: es) [] pos) (tCall sp dvs E t) := by
  refine ⟨fun pins s σ H Q I h => wpAny_Call_Name_kw (ld_glob I hg hm ?_ dbg)⟩
  refine PySem.W.callWith_K (h₀ := X.base) I.ok.mod.kin hk (thn (ha.run pos pins s σ H _ I h) fun us s1 ⟨vs, H1, J, rel, want⟩ => ⟨J.kIn, ?_⟩) one plain
  have r2 : Vals (vs ++ dvs) (us ++ ds) := rel.append hd
  have len : (us ++ ds).length = ps.length := r2.length.symm.trans (F.len _ _ _ _ want)
  refine wpAny_call (codeAny_mono (F.run X.A X.stack s1 H1 ⟨us, []⟩ (us ++ ds) (vs ++ dvs) Q E clr hr J.env0 (hb s1 us J.kIn len) r2 want) fun r s' z => ?_)
  match r, z with
  | .error er, z => exact hx pins σ H1 s1 er s' J z
  | .ok (.ret u), z => exact J.after z
  | .ok .next, z => exact z.elim
  | .ok .brk, z => exact z.elim
  | .ok .cont, z => exact z.elim
/-! ### repr -/
/-- what is shown: data without dicts, or the empty dict -/
def Shw (K : PySem.W.Frag) (H : Hp) (x : V) (d : PyData) : Prop := (Dp K H x d ∧ d.hasDict = false) ∨ ∃ a, x = .ref a ∧ H a = some (.dK []) ∧ d = .dict []
def rRepr (K : PySem.W.Frag) : List V → Hp → VK → Prop := fun xs H Q => ∃ (x : V) (d : PyData), xs = [x] ∧ Shw K H x d ∧ d.showable = true ∧ d.depth ≤ 60 ∧ d.shown.length ≤ sizeLine ∧ Q (.str d.shown) H
theorem Shw.reads {pins : List (Addr × Obj)} {σ : St} {H : Hp} {s : Shared} {x : V} {u : Value} {d : PyData} (h : Shw X.K H x d) (I : Inv X pins σ H s) (r : RelV x u) : ∃ as, Reads s.heap u d as ∧ (d.hasDict = true → sysModules ∉ as) := by
  rcases h with ⟨h, nd⟩ | ⟨a, rfl, e, rfl⟩
  · obtain ⟨as, q⟩ := Dp.reads I d x u h r
    exact ⟨as, q, PyData.noDict_hsm nd⟩
  · obtain rfl : u = Value.ref a := r
    obtain ⟨_, ns, vs, kv, o, es, ep, h1, h2, h3, h4⟩ := (show ObjOk X.prog X.w H s.heap a (.dK []) from I.hok a _ e)
    cases kv
    have hes : es.toList = [] := by
      obtain ⟨_, h5, _⟩ := h4
      revert h5
      generalize es.toList = l
      intro h5
      cases h5
      rfl
    refine ⟨a :: [] ++ [], .dict h1 h2.1 h3 (by rw [hes]; exact .nil) (by rw [hes]; exact .nil), fun _ hm => ?_⟩
    have hm' : sysModules = a := by simpa using hm
    rw [hm'] at ns
    simp at ns
theorem call_repr (clr : Clr X.A) (hu : X.A.units + 64 < cLine) : CallR X (.builtin "repr") (rRepr X.K) := by
  intro pins s σ H xs us Q I r h
  obtain ⟨x, d, rfl, sh, ok, dep, few, q⟩ := h
  obtain ⟨u, rfl, ru⟩ := vals1 r
  obtain ⟨as, rd, sm⟩ := sh.reads I ru
  have fin : ∀ h' (t : Tok) tk, (∀ b o, s.heap.get? b = some o → h'.get? b = some o) → EP X pins σ Q (.str d.shown t) { s with heap := h', toks := tk } := fun h' t tk kp => ⟨.str d.shown, H, I.kept kp, ⟨t, rfl⟩, q⟩
  cases u with
  | ref a => exact repr_of_reads' rd ok sm clr (by omega) (fun _ _ z => z) fin few
  | none => cases rd; exact PySem.P.repr_of_none (fin _ _ _ fun _ _ z => z)
  | bool b => cases rd; exact PySem.P.repr_of_bool (fin _ _ _ fun _ _ z => z)
  | int i t => cases rd; exact PySem.P.repr_of_int (by simpa [PyData.showable] using ok) (fin _ _ _ fun _ _ z => z)
  | str y t => cases rd; exact PySem.P.repr_of_str (fin _ _ _ fun _ _ z => z) few
  | _ => cases rd
end
end L2


/-! Own: C.m(..) where m is a staticmethod of the class. -/
namespace L2
open PySem PySem.Spec PyProof.Rows
/-- C.m is a staticmethod: its record at p, its def at f -/
structure SMet (K : PySem.W.Frag) (C : Addr) (mc : Value) (m : Str) (p f : Addr) : Prop where
  at_ : PySem.W.findCls K (.ref C) mc m = some (.get (.builtin "staticmethod.__get__") (.ref p) .none (.ref C))
  rc : ∃ rest, PySem.W.recIn K p "staticmethod" = some (.ref f :: rest)
def tSMeth (C : Addr) (sp : Sp) (dvs : List V) (E : XK) (ta : TE) (t : TA) : TE := fun σ H Q => ta σ H fun x H1 => x = .ref C ∧ t σ H1 fun vs H2 => sp (vs ++ dvs) H2 Q E
section
variable {X : Cx} {CX : CXT} {k : Nat} {C p f : Addr} {mc : Value} {fd : FuncData} {ps : List Str} {sp : Sp} {dvs : List V} {ds : List Value} {E : XK} {o e : Expr} {es : List Expr} {m : Str} {pos apos : Pos} {ta : TE} {t : TA} {pl : Sem Bool}
end
end L2


/-! Rollout: __init__, load -/
namespace FT
open PySem L2 TL ClX LiI
theorem put_g {CRd : List (Str × V)} {u : V} : putF "grown_from" u [] = [(("grown_from" : Str), u)] := rfl
theorem put_k {u v : V} : putF "kept_lists" v [(("grown_from" : Str), u)] = [(("grown_from" : Str), u), (("kept_lists" : Str), v)] := by
  unfold putF
  rw [if_neg (by decide +kernel)] <;> rfl
theorem put_s {u v w : V} : putF "past_sizes" w [(("grown_from" : Str), u), (("kept_lists" : Str), v)] = [(("grown_from" : Str), u), (("kept_lists" : Str), v), (("past_sizes" : Str), w)] := by
  unfold putF
  rw [if_neg (by decide +kernel)]
  unfold putF
  rw [if_neg (by decide +kernel)] <;> rfl
theorem put_k2 {x q q' z : Addr} : putF "kept_lists" (.ref q') (rFs x q z) = rFs x q' z := by
  unfold rFs putF
  rw [if_neg (by decide +kernel)]
  unfold putF
  rw [if_pos rfl]
def spLoad (CF CR : Addr) : Sp := fun vs H Q _ => ∃ (x q : Addr) (ts : List (Str × Str)) (r : Str → Addr) (L : Str → List Int) (n : Nat), vs = [.ref x, .ref q] ∧ FAt CF H x ts ∧ TreeOk ts ∧ LsAt H q (pls ts) r L ∧ Val ts n L ∧ 1 ≤ n ∧ n ≤ 60 ∧
  ∀ (H' : Hp) (y q' z dy : Addr) (r' : Str → Addr), Same H H' → H y = none → H q' = none → H z = none → (∀ p ∈ pls ts, H (r' p) = none) → H' y = some (.ins CR dy (rFs x q' z)) → LsAt H' q' (pls ts) r' L → H' z = some (.lst []) → Q (.ref y) H'
section
variable {P : Program} {w : World} {K : PySem.W.Frag} {mg : Str → Option Value} {base : Heap}
abbrev NRi : List Str := ["self", "forest", "users", "place"]
theorem scRi : FnScope NRi ["self", "forest", "users"] (defScope s_Rollout___init__) := ⟨rfl, rfl, rfl, by decide +kernel, rfl, by decide +kernel, by decide +kernel⟩
theorem ok_rinit {f fP fU CF CA CR CU : Addr} {mc mcA mcR : Value} {fd fdP fdU : FuncData} (F : Fun K "__init__" "Rollout.__init__" s_Rollout___init__ f fd) (T : Nm mg) (Z : Fc K mg CF mc) (B : Ac K mg CA mcA) (R : RoC K mg CR mcR) (DP : Dn P w K mg base CX0 3 "places_of" ["forest"] (spPlacesOf CF) fP fdP)
    (U : Dn P w K mg base (L2.CX P w) 3 "need_users" ["users", "most"] (spUsers K CU) fU fdU) : FnOk P w K mg base CX0 4 f fd ["self", "forest", "users"] (spRInit CF CR) := by
  obtain ⟨um, cm⟩ := B.most
  obtain ⟨ur, cr⟩ := Z.root
  refine F.ok scRi (fun vs H Q E h => ?_) (fun cdv A outer s H vs Q E hr h => ?_)
  · obtain ⟨y, x, dy, n, ts, rfl, _⟩ := h
    rfl
  · obtain ⟨y, x, dy, n, ts, rfl, hy, fa, o, n1, n60, k⟩ := h
    have hu := hu_of hr
    have nd := scRi.nd
    have big : 1000 ≤ sizeLine := by decide
    have few := o.few
    have pln := pls_len ts
    have pnd := pls_nd o
    refine ⟨_, pss_cons (ps_expr (pe_call (E := E0) U.ok hr rfl U.mgn U.kp U.bn .nil L2.passL (pa_cons (pv 2) (pa_cons (pe_cval (pe_glob (v := .ref CA) (by rfl) B.gA rfl)) pa_nil))))
      (pss_cons (ps_fld (pv 0) (pv 1) rfl)
      (pss_cons (ps_fld (pv 0) (pe_dc (own := [("place", 3)]) (g := gName 3) (tt := tYes) rfl nd (pi_list (pe_call DP.ok hr rfl DP.mgn DP.kp DP.bn .nil pass0 (pa_cons (pv 1) pa_nil))) (blkOk_by (N := NRi) (sc := defScope s_Rollout___init__) (by decide +kernel))
        (fun _ _ _ _ _ => pg_name (i := 3) nd rfl (Or.inl rfl)) (fun _ _ _ _ _ => pts_nil) (fun _ _ _ _ _ => pv 3) (fun _ _ _ _ _ => pe_lst pa_nil)) rfl)
      (pss_cons (ps_dput hu (pe_fld (pv 0) rfl) (pe_cval (pe_glob (v := .ref CF) (by rfl) Z.gF rfl)) (pe_listRg rfl (by rfl) T.lst (prg_1 (by rfl) T.rng (pv 2))) rfl)
      (pss_one (ps_fld (pv 0) (pe_lst pa_nil) rfl))))), ?_⟩
    obtain ⟨dx, dq, hx, hd⟩ := id fa
    have xy : x ≠ y := fun z => by rw [z, hy] at hx; cases hx
    have dqy : dq ≠ y := ne_of hd hy (by intro z; cases z)
    refine ⟨_, rfl, CA, mcA, _, um, rfl, B.rd, cm, .int n, 60, rfl, ⟨_, .int _⟩, ?_⟩
    rw [if_pos (show usersOk (.int (n : Int)) 60 = true by show (decide (1 ≤ (n : Int)) && decide ((n : Int) ≤ 60)) = true; rw [decide_eq_true (by omega), decide_eq_true (by omega)] <;> rfl)]
    intro H1 s1
    refine ⟨_, rfl, _, rfl, y, CR, dy, [], rfl, s1 _ _ hy, R.cl, R.nG, by show 0 < 1000; decide, ?_⟩
    obtain ⟨H2, e2⟩ : ∃ X, X = upd H1 y (.ins CR dy [(("grown_from" : Str), .ref x)]) := ⟨_, rfl⟩
    have k12 : ∀ b u, b ≠ y → H b = some u → H2 b = some u := fun b u n e => by rw [e2, upd_ne n]; exact s1 _ _ e
    have hy2 : H2 y = some (.ins CR dy [(("grown_from" : Str), .ref x)]) := by rw [e2]; exact upd_same
    have hyn : ∀ {H' : Hp} {b : Addr}, Same H2 H' → H' b = none → H b = none := fun {H' b} s z => by
      cases e : H b with
      | none => rfl
      | some u =>
        by_cases by_ : b = y
        · rw [by_, s _ _ hy2] at z
          cases z
        · rw [s _ _ (k12 b u by_ e)] at z
          cases z
    show tSeq _ _ _ _ (upd H1 y (.ins CR dy (putF "grown_from" (.ref x) [])))
    rw [put_g (CRd := []), ← e2]
    refine ⟨_, rfl, x, ts, rfl, ⟨dx, dq, k12 _ _ xy hx, k12 _ _ dqy hd⟩, few, fun pl H3 s3 npl hpl => ⟨pl, rfl, ⟨_, SqL.of hpl⟩, fun D nD => ?_⟩⟩
    refine dc_it walk_list (fun i H' => Same H3 H' ∧ ∃ r : Str → Addr, H' D = some (.dK (tblV ((pls ts).take i) fun p => .ref (r p))) ∧ ∀ p ∈ (pls ts).take i, H' (r p) = some (.lst []) ∧ H (r p) = none) ⟨same_new nD, fun _ => 0, upd_same, fun p h => by simp at h⟩ (fun i H' _ z => SqL.of (z.1 _ _ hpl)) ?_ ?_
    · intro i v Hz Ha hi ⟨q1, r, q2, q3⟩ ⟨eb, ex⟩
      subst eb
      obtain ⟨p, hp, rfl⟩ := map_of (f := V.str) (l := pls ts) ex
      have il := (List.getElem?_eq_some_iff.mp hp).1
      have fr := nat_fresh pnd hp
      refine ⟨rfl, ?_⟩
      refine ⟨_, rfl, by show 0 ≤ sizeLine; omega, fun l nl => ?_⟩
      have sl := same_new (o := .lst []) nl
      have lD : l ≠ D := (ne_of_none q2 nl).symm
      refine ⟨_, Sum.inr p, rfl, sl _ _ q2, by rw [tblV_len, List.length_take]; omega, (q1.trans sl).put nD, fun a => if a = p then l else r a, ?_, fun a ha => ?_⟩
      · rw [upd_same, tblV_congr (g' := fun a => V.ref (if a = p then l else r a)) fun a ha => by rw [if_neg fun z => fr (by rw [← z]; exact ha)], tblV_snoc fr (by rw [if_pos rfl]), take_more hp]
      · rw [take_more hp] at ha
        show (upd (upd Ha l (.lst [])) D _) (if a = p then l else r a) = some (.lst []) ∧ H (if a = p then l else r a) = none
        by_cases e : a = p
        · rw [if_pos e]
          exact ⟨by rw [upd_ne lD]; exact upd_same, hyn ((s3.trans q1)) nl⟩
        · rw [if_neg e]
          obtain ⟨z1, z2⟩ := q3 a ((List.mem_append.mp ha).resolve_right fun z => e (List.mem_singleton.mp z))
          exact ⟨by rw [upd_ne (ne_of (sl _ _ z1) (sl _ _ q2) (by intro z; cases z))]; exact sl _ _ z1, z2⟩
    intro H4 ⟨s34, r, hD, hr0⟩
    have e : ((("" : Str) :: ts.map Prod.fst).map V.str).length = (pls ts).length := List.length_map _
    rw [e, List.take_length] at hD hr0
    have s24 := s3.trans s34
    have hy4 := s24 _ _ hy2
    refine ⟨_, rfl, y, CR, dy, _, rfl, hy4, R.cl, R.nK, by show 1 < 1000; decide, ?_⟩
    rw [put_k]
    obtain ⟨H5, e5⟩ : ∃ X, X = upd H4 y (.ins CR dy [(("grown_from" : Str), .ref x), (("kept_lists" : Str), .ref D)]) := ⟨_, rfl⟩
    have hy5 : H5 y = some (.ins CR dy [(("grown_from" : Str), .ref x), (("kept_lists" : Str), .ref D)]) := by rw [e5]; exact upd_same
    have Dy : D ≠ y := ne_of hD hy4 (by intro z; cases z)
    have hD5 : H5 D = some (.dK (tblV (pls ts) fun p => .ref (r p))) := by rw [e5, upd_ne Dy]; exact hD
    have k5 : ∀ b u, b ≠ y → H4 b = some u → H5 b = some u := fun b u n e => by rw [e5, upd_ne n]; exact e
    rw [← e5]
    refine ⟨_, rfl, _, rfl, RgOk.of_le (by omega) (by omega) (by omega) (by omega), fun pr npr => ?_⟩
    rw [rgV_usr]
    have sp := same_new (o := .lst ((usr n).map V.int)) npr
    have py : pr ≠ y := (ne_of_none hy5 npr).symm
    have pD : pr ≠ D := (ne_of_none hD5 npr).symm
    refine ⟨_, rfl, y, CR, dy, _, .ref D, rfl, sp _ _ hy5, R.cl, R.nK, rfl, CF, mc, _, ur, rfl, Z.rd, cr, D, _, rfl, DPut.k (k := Sum.inr "") (sp _ _ hD5) (by rw [tblV_len]; omega), ?_⟩
    rw [tblV_put (show ("" : Str) ∈ pls ts from List.mem_cons_self ..), tblV_congr (g' := fun p => V.ref (if p = "" then pr else r p)) fun p _ => by show (if p = "" then V.ref pr else V.ref (r p)) = _; split <;> rfl]
    obtain ⟨H6, e6⟩ : ∃ X, X = upd (upd H5 pr (.lst ((usr n).map V.int))) D (.dK (tblV (pls ts) fun p => V.ref (if p = "" then pr else r p))) := ⟨_, rfl⟩
    have hD6 : H6 D = some (.dK (tblV (pls ts) fun p => V.ref (if p = "" then pr else r p))) := by rw [e6]; exact upd_same
    have hp6 : H6 pr = some (.lst ((usr n).map V.int)) := by rw [e6, upd_ne pD]; exact upd_same
    have hy6 : H6 y = some (.ins CR dy [(("grown_from" : Str), .ref x), (("kept_lists" : Str), .ref D)]) := by rw [e6, upd_ne (Ne.symm Dy)]; exact sp _ _ hy5
    have k6 : ∀ b u, b ≠ D → H5 b = some u → H6 b = some u := fun b u n e => by rw [e6, upd_ne n]; exact sp _ _ e
    rw [← e6]
    have nD0 : H D = none := by
      refine hyn (H' := H3) s3 ?_
      exact nD
    have pr0 : H pr = none := by
      cases e : H pr with
      | none => rfl
      | some u =>
        rw [k5 _ _ py (s24 _ _ (k12 _ _ py e))] at npr
        cases npr
    refine ⟨by show 0 ≤ sizeLine; omega, fun z nz => ?_⟩
    have sz := same_new (o := .lst []) nz
    have zy : z ≠ y := (ne_of_none hy6 nz).symm
    have zD : z ≠ D := (ne_of_none hD6 nz).symm
    refine ⟨_, rfl, y, CR, dy, _, rfl, sz _ _ hy6, R.cl, R.nS, by show 2 < 1000; decide, ?_⟩
    rw [put_s]
    have nz0 : H z = none := by
      cases e : H z with
      | none => rfl
      | some u =>
        rw [k6 _ _ (ne_of_none e nD0) (k5 _ _ zy (s24 _ _ (k12 _ _ zy e)))] at nz
        cases nz
    refine k _ D z (fun p => if p = "" then pr else r p) nD0 nz0 (fun p hp => ?_) (fun b u n e => ?_) upd_same ⟨?_, fun p hp => ?_⟩ ?_
    · show H (if p = "" then pr else r p) = none
      split
      · exact pr0
      · exact (hr0 p hp).2
    · rw [upd_ne n]
      exact sz _ _ (k6 _ _ (ne_of_none e nD0) (k5 _ _ n (s24 _ _ (k12 _ _ n e))))
    · rw [upd_ne Dy]
      exact sz _ _ hD6
    · show (upd (upd H6 z (.lst [])) y _) (if p = "" then pr else r p) = some (.lst ((if p = "" then usr n else []).map V.int))
      by_cases e : p = ""
      · rw [if_pos e, if_pos e, upd_ne py]
        exact sz _ _ hp6
      · rw [if_neg e, if_neg e]
        have z1 := (hr0 p hp).1
        have n1 : r p ≠ y := ne_of z1 hy4 (by intro z; cases z)
        have n2 : r p ≠ D := ne_of z1 hD (by intro z; cases z)
        rw [upd_ne n1]
        exact sz _ _ (k6 _ _ n2 (k5 _ _ n1 z1))
    · rw [upd_ne zy]
      exact upd_same
end
end FT


/-! all objects but some are as they were -/
namespace FT
open PySem L2 TL ClX
/-- all but Ex is as it was -/
def KeepX (Ex : List Addr) (H H' : Hp) : Prop := ∀ b u, b ∉ Ex → H b = some u → H' b = some u
theorem KeepX.of_same {Ex : List Addr} {H H' : Hp} (s : Same H H') : KeepX Ex H H' := fun b u _ e => s b u e
theorem KeepX.trans {Ex : List Addr} {H H1 H2 : Hp} (a : KeepX Ex H H1) (b : KeepX Ex H1 H2) : KeepX Ex H H2 := fun x u n e => b x u n (a x u n e)
end FT


/-! Rollout: load, total, lists, sizes, assignment, depth -/
namespace FT
open PySem L2 TL ClX LiI
def PsAt (H : Hp) (ts : List (Str × Str)) (rs : List Addr) (ps : List (Str → Int)) : Prop := Paired (fun (a : Addr) (s : Str → Int) => H a = some (.dK (tblI (ts.map Prod.fst) s))) rs ps
theorem PsAt.imp {H H' : Hp} {ts : List (Str × Str)} (m : ∀ b kvs, H b = some (.dK kvs) → H' b = some (.dK kvs)) : ∀ {rs : List Addr} {ps : List (Str → Int)}, PsAt H ts rs ps → PsAt H' ts rs ps
  | _, _, .nil => .nil
  | _, _, .cons h t => .cons (m _ _ h) (PsAt.imp m t)
theorem PsAt.snoc {H : Hp} {ts : List (Str × Str)} {b : Addr} {s : Str → Int} (h : H b = some (.dK (tblI (ts.map Prod.fst) s))) : ∀ {rs : List Addr} {ps : List (Str → Int)}, PsAt H ts rs ps → PsAt H ts (rs ++ [b]) (ps ++ [s])
  | _, _, .nil => .cons h .nil
  | _, _, .cons q t => .cons q (PsAt.snoc h t)
theorem PsAt.len {H : Hp} {ts : List (Str × Str)} : ∀ {rs : List Addr} {ps : List (Str → Int)}, PsAt H ts rs ps → rs.length = ps.length
  | _, _, .nil => rfl
  | _, _, .cons _ t => congrArg (· + 1) (PsAt.len t)
/-- a rollout at y, off the addresses Ex: its forest at x, its lists L, the sizes ps before each change (their list at z) -/
def RollAt (CF CR : Addr) (Ex : List Addr) (H : Hp) (y z x : Addr) (ts : List (Str × Str)) (L : Str → List Int) (ps : List (Str → Int)) : Prop :=
  ∃ (dy q dx dq : Addr) (r : Str → Addr) (rs : List Addr), H y = some (.ins CR dy (rFs x q z)) ∧ LsAt H q (pls ts) r L ∧ H z = some (.lst (rs.map V.ref)) ∧ PsAt H ts rs ps ∧ H x = some (.ins CF dx [("above", .ref dq)]) ∧ H dq = some (.dK (prs ts)) ∧
    (∀ b ∈ y :: z :: q :: x :: dq :: rs, b ∉ Ex) ∧ ∀ p ∈ pls ts, r p ∉ Ex
theorem RollAt.keep {CF CR : Addr} {Ex : List Addr} {H H' : Hp} {y z x : Addr} {ts : List (Str × Str)} {L : Str → List Int} {ps : List (Str → Int)} (k : KeepX Ex H H') (h : RollAt CF CR Ex H y z x ts L ps) : RollAt CF CR Ex H' y z x ts L ps := by
  obtain ⟨dy, q, dx, dq, r, rs, h1, h2, h3, h4, h5, h6, h7, h8⟩ := h
  have n := fun b hb => h7 b hb
  refine ⟨dy, q, dx, dq, r, rs, k _ _ (h7 y (by simp)) h1, ⟨k _ _ (h7 q (by simp)) h2.1, fun p hp => k _ _ (h8 p hp) (h2.2 p hp)⟩, k _ _ (h7 z (by simp)) h3, ?_, k _ _ (h7 x (by simp)) h5, k _ _ (h7 dq (by simp)) h6, h7, h8⟩
  have m : ∀ {rs' : List Addr} {ps' : List (Str → Int)}, (∀ b ∈ rs', b ∉ Ex) → PsAt H ts rs' ps' → PsAt H' ts rs' ps' := by
    intro rs' ps' hn hp
    induction hp with
    | nil => exact .nil
    | cons q _ ih => exact .cons (k _ _ (hn _ (List.mem_cons_self ..)) q) (ih fun b hb => hn b (List.mem_cons_of_mem _ hb))
  exact m (fun b hb => h7 b (by simp [hb])) h4
theorem RollAt.mono {CF CR : Addr} {Ex : List Addr} {H H' : Hp} {y z x : Addr} {ts : List (Str × Str)} {L : Str → List Int} {ps : List (Str → Int)} (s : Same H H') (h : RollAt CF CR Ex H y z x ts L ps) : RollAt CF CR Ex H' y z x ts L ps := h.keep (.of_same s)
theorem RollAt.congr {CF CR : Addr} {Ex : List Addr} {H : Hp} {y z x : Addr} {ts : List (Str × Str)} {L L' : Str → List Int} {ps : List (Str → Int)} (e : ∀ p ∈ pls ts, L p = L' p) (h : RollAt CF CR Ex H y z x ts L ps) : RollAt CF CR Ex H y z x ts L' ps := by
  obtain ⟨dy, q, dx, dq, r, rs, h1, h2, h3⟩ := h
  exact ⟨dy, q, dx, dq, r, rs, h1, h2.congr e, h3⟩
theorem RollAt.fa {CF CR : Addr} {Ex : List Addr} {H : Hp} {y z x : Addr} {ts : List (Str × Str)} {L : Str → List Int} {ps : List (Str → Int)} (h : RollAt CF CR Ex H y z x ts L ps) : FAt CF H x ts := by
  obtain ⟨dy, q, dx, dq, r, rs, h1, h2, h3, h4, h5, h6, h7, h8⟩ := h
  exact ⟨dx, dq, h5, h6⟩
def spRTotal (CF CR : Addr) : Sp := fun vs H Q _ => ∃ (y z x : Addr) (Ex : List Addr) (ts : List (Str × Str)) (L : Str → List Int) (ps : List (Str → Int)) (n : Nat), vs = [.ref y] ∧ RollAt CF CR Ex H y z x ts L ps ∧ TreeOk ts ∧ Val ts n L ∧ ∀ H', Same H H' → Q (.int (n : Int)) H'
def spRLists (CF CR : Addr) : Sp := fun vs H Q _ => ∃ (y z x : Addr) (Ex : List Addr) (ts : List (Str × Str)) (L : Str → List Int) (ps : List (Str → Int)), vs = [.ref y] ∧ RollAt CF CR Ex H y z x ts L ps ∧ TreeOk ts ∧
  ∀ (q' : Addr) (r' : Str → Addr) (H' : Hp), Same H H' → H q' = none → (∀ p ∈ pls ts, H (r' p) = none) → LsAt H' q' (pls ts) r' L → Q (.ref q') H'
def spRSizes (CF CR : Addr) : Sp := fun vs H Q _ => ∃ (y z x : Addr) (Ex : List Addr) (ts : List (Str × Str)) (L : Str → List Int) (ps : List (Str → Int)), vs = [.ref y] ∧ RollAt CF CR Ex H y z x ts L ps ∧ TreeOk ts ∧
  ∀ (p : Addr) (H' : Hp), Same H H' → H p = none → H' p = some (.dK (tblI (ts.map Prod.fst) (lsz ts L))) → Q (.ref p) H'
def spRAsg (CF CR CA : Addr) : Sp := fun vs H Q _ => ∃ (y z x : Addr) (Ex : List Addr) (ts : List (Str × Str)) (L : Str → List Int) (ps : List (Str → Int)) (n : Nat), vs = [.ref y] ∧ RollAt CF CR Ex H y z x ts L ps ∧ TreeOk ts ∧ Val ts n L ∧ 1 ≤ n ∧ n ≤ 60 ∧
  ∀ (a : Addr) (H' : Hp), Same H H' → H a = none → AAt CA H' a x ((usr n).map (plOf ts L)) → Q (.ref a) H'
def spRDepth (CF CR : Addr) : Sp := fun vs H Q _ => ∃ (y z x : Addr) (Ex : List Addr) (ts : List (Str × Str)) (L : Str → List Int) (ps : List (Str → Int)), vs = [.ref y] ∧ RollAt CF CR Ex H y z x ts L ps ∧ Q (.int (ps.length : Int)) H
/-- the lists' lengths, one behind the other -/
theorem lens_walk {K : PySem.W.Frag} {od : Obj} {H2 : Hp} {q D : Addr} {l : List Str} {r : Str → Addr} {L : Str → List Int} {i : Nat} {σ : St} {Qd : Hp → Prop} (nd : l.length ≤ 1000) (big : 1000 ≤ sizeLine) (nD : H2 D = none) (hq : H2 q = some (.frz od (.dK (tblV l fun p => .ref (r p))))) (hl : ∀ p ∈ l, H2 (r p) = some (.lst ((L p).map V.int)))
    (σi : i < σ.length) (hd : ∀ H3 : Hp, Same H2 H3 → H3 D = some (.lst ((l.map fun p => ((L p).length : Int)).map V.int)) → Qd H3) :
    ∃ W : Nat → Nat → Hp → Prop, (∃ m, W 0 m (upd H2 D (.lst []))) ∧ ∀ j m H, W j m H → ((Itd q od (tblV l fun p => .ref (r p))).stop j H ∧ Qd H) ∨ ((Itd q od (tblV l fun p => .ref (r p))).go j H ∧ ∃ Nx : Hp → Prop, (∀ H', Nx H' → ∃ m', m' < m ∧ W (j + 1) m' H') ∧
      ∀ x H', (Itd q od (tblV l fun p => .ref (r p))).yld j H x H' → gName i x (wipe σ [i]) H' fun σ2 H2 => wipe σ2 [i] = wipe σ [i] ∧ tYes σ2 H2 fun b H3 =>
        if b = true then (tCB (rLenS K) (tCons (tVar i) tNil)) σ2 H3 fun y H4 => ∃ acc, H4 D = some (.lst acc) ∧ acc.length < sizeLine ∧ Nx (upd H4 D (.lst (acc ++ [y]))) else Nx H3) := by
  refine lc_it walk_values (fun j H' => Same H2 H' ∧ H' D = some (.lst (((l.take j).map fun p => ((L p).length : Int)).map V.int))) ⟨same_new nD, upd_same⟩ (fun j H' _ z => z.1 _ _ hq) ?_ ?_
  · intro j y Hz Ha hj ⟨q1, q2⟩ ⟨eb, kk, hk⟩
    subst eb
    obtain ⟨p, hp, rfl, rfl⟩ := tblV_at hk
    have mp := List.mem_of_getElem? hp
    have jl := (List.getElem?_eq_some_iff.mp hp).1
    have wl : (wipe σ [i]).length = σ.length := wipe_length _ _
    refine ⟨?_, ?_⟩
    · show ((σ.set i none).set i (some (V.ref (r p)))).set i none = σ.set i none
      rw [List.set_set, List.set_set]
    · refine ⟨_, ?_, r p, _, rfl, .inl (SqL.of (q1 _ _ (hl p mp))), _, q2, ?_, Same.put q1 nD, ?_⟩
      · show ((wipe σ [i]).set i (some (V.ref (r p))))[i]? = some (some (V.ref (r p)))
        rw [List.getElem?_set_self (by omega)]
      · rw [List.length_map, List.length_map, List.length_take]
        omega
      · rw [upd_same, take_more hp, List.map_append, List.map_append, List.length_map] <;> rfl
  · intro H3 ⟨z1, z2⟩
    rw [tblV_len, List.take_length] at z2
    exact hd H3 z1 z2
/-- list(..) of a list or tuple -/
abbrev rListOf (K : PySem.W.Frag) : List V → Hp → VK → Prop := fun xs H Q => ∃ p ys, xs = [.ref p] ∧ (SqL K H p ys ∨ SqT K H p ys) ∧ ∀ l, H l = none → Q (.ref l) (upd H l (.lst ys))
end FT


/-! Rollout's properties and change -/
namespace FT
open PySem L2 TL ClX LiI
/-- no size is greater than the number of users -/
theorem sz_le {ts : List (Str × Str)} (o : TreeOk ts) {n : Int} {s : Str → Int} (h0 : ∀ a ∈ ts.map Prod.fst, 0 ≤ s a) (h1 : ∀ p, Pl ts p → 0 ≤ resid ts n s p) {a : Str} (ha : a ∈ ts.map Prod.fst) : s a ≤ n := by
  obtain ⟨rk, r⟩ := o.up
  have mem : ∀ {l : List Str} {x : Str}, (∀ y ∈ l, 0 ≤ s y) → x ∈ l → s x ≤ (l.map s).sum := by
    intro l x
    induction l with
    | nil => intro _ h; cases h
    | cons b l ih =>
      intro nn h
      have nb := nn b (List.mem_cons_self ..)
      have nl : 0 ≤ (l.map s).sum := by
        have : ∀ l : List Str, (∀ y ∈ l, 0 ≤ s y) → 0 ≤ (l.map s).sum := fun l => by
          induction l with
          | nil => intro _; exact Int.le_refl _
          | cons c l ih =>
            intro h
            rw [List.map_cons, List.sum_cons]
            have := h c (List.mem_cons_self ..)
            have := ih fun y hy => h y (List.mem_cons_of_mem _ hy)
            omega
        exact this l fun y hy => nn y (List.mem_cons_of_mem _ hy)
      rw [List.map_cons, List.sum_cons]
      rcases List.mem_cons.mp h with rfl | h
      · omega
      · have := ih (fun y hy => nn y (List.mem_cons_of_mem _ hy)) h
        omega
  have key : ∀ (m : Nat) (a : Str), a ∈ ts.map Prod.fst → rk a < m → s a ≤ n := by
    intro m
    induction m with
    | zero => exact fun a _ h => absurd h (Nat.not_lt_zero _)
    | succ m ih =>
      intro a ha hm
      obtain ⟨p, ep, hp, _⟩ := o.step r ha
      have hk : a ∈ kids ts p := (kid_par o).mpr ep
      have le := mem (l := kids ts p) (fun y hy => h0 y (par_flag ((kid_par o).mp hy))) hk
      have re := h1 p (hp.imp id And.left)
      unfold resid at re
      rcases hp with e | ⟨hp, lt⟩
      · rw [if_pos e] at re
        omega
      · rw [if_neg fun z => o.root (by rw [← z]; exact hp)] at re
        have := ih p hp (by omega)
        omega
  exact key (rk a + 1) a ha (Nat.lt_succ_self _)
theorem szOf_tblI {l : List Str} {g : Str → Int} {a : Str} (h : a ∈ l) : szOf (tblI l g) a = g a := by
  unfold szOf
  rw [tblI_val h]
/-- what a change takes -/
def chg (ts : List (Str × Str)) (L : Str → List Int) (kvs : List (Key × V)) (a : Str) : Int := szOf kvs a - lsz ts L a
def Kp2 (y z : Addr) (H H' : Hp) : Prop := ∀ b u, b ≠ y → b ≠ z → H b = some u → H' b = some u
def spChange (K : PySem.W.Frag) (CF CR CS : Addr) : Sp := fun vs H Q E => ∃ (y z x : Addr) (sv : V) (Ex : List Addr) (ts : List (Str × Str)) (L : Str → List Int) (ps : List (Str → Int)) (n : Nat) (o : Option (List (Key × V))), vs = [.ref y, sv] ∧ RollAt CF CR Ex H y z x ts L ps ∧ TreeOk ts ∧ Val ts n L ∧ 1 ≤ n ∧ n ≤ 60 ∧ ps.length ≤ 1000 ∧
  SzV K H sv o ∧ (∀ b ∈ Ex, ∃ u, H b = some u) ∧ match feE CS ts n o with
  | none => ∀ (H' : Hp) (L' : Str → List Int), Moved ts (chg ts L (kvsOf o)) L L' → Kp2 y z H H' → RollAt CF CR Ex H' y z x ts L' (ps ++ [lsz ts L]) → Q (.int ((ts.map Prod.fst).map fun a => absI (chg ts L (kvsOf o) a)).sum) H'
  | some e => Out H E e
theorem nat_sumL {l : List Str} {f : Str → List Int} {b : Str} (h : b ∈ l) : ((f b).length : Int) ≤ (l.map fun p => ((f p).length : Int)).sum := by
  induction l with
  | nil => cases h
  | cons a l ih =>
    have nl : 0 ≤ (l.map fun p => ((f p).length : Int)).sum := by
      have : ∀ l : List Str, 0 ≤ (l.map fun p => ((f p).length : Int)).sum := fun l => by
        induction l with
        | nil => exact Int.le_refl _
        | cons c l ih =>
          rw [List.map_cons, List.sum_cons]
          omega
      exact this l
    rw [List.map_cons, List.sum_cons]
    rcases List.mem_cons.mp h with rfl | h
    · omega
    · have := ih h
      omega
section
variable {P : Program} {w : World} {K : PySem.W.Frag} {mg : Str → Option Value} {base : Heap}
abbrev NRto : List Str := ["self", "row"]
theorem scRto : FnScope NRto ["self"] (defScope s_Rollout_total) := ⟨rfl, rfl, rfl, by decide +kernel, rfl, by decide +kernel, by decide +kernel⟩
theorem ok_rtotal {f CF CR : Addr} {mcR : Value} {fd : FuncData} (F : Fun K "total" "Rollout.total" s_Rollout_total f fd) (T : Nm mg) (R : RoC K mg CR mcR) : FnOk P w K mg base CX0 1 f fd ["self"] (spRTotal CF CR) := by
  refine F.ok scRto (fun vs H Q E h => ?_) (fun cdv A outer s H vs Q E hr h => ?_)
  · obtain ⟨y, z, x, Ex, ts, L, ps, n, rfl, _⟩ := h
    rfl
  · obtain ⟨y, z, x, Ex, ts, L, ps, n, rfl, ra, o, hV, k⟩ := h
    have nd := scRto.nd
    have big : 1000 ≤ sizeLine := by decide
    have few := o.few
    have pln := pls_len ts
    refine ⟨_, pss_one (ps_ret (pe_callB (cr_sum rfl) (by rfl) T.sum (by decide +kernel) (pa_cons (pe_lock (pe_lc (own := [("row", 1)]) (g := gName 1) (tt := tYes) (te := tCB (rLenS K) (tCons (tVar 1) tNil)) rfl nd (pi_values (pe_fld (pv 0) rfl))
        (blkOk_by (N := NRto) (sc := defScope s_Rollout_total) (by decide +kernel)) (fun _ _ _ _ _ => pg_name (i := 1) nd rfl (Or.inl rfl)) (fun _ _ _ _ _ => pts_nil) (fun _ _ _ _ _ => pe_callB call_len_seq (by rfl) T.len PySem.boot_len (pa_cons (pv 1) pa_nil)))) pa_nil))), ?_⟩
    obtain ⟨dy, q, dx, dq, r, rs, hy, hL, hz, hps, hx, hd, off1, off2⟩ := ra
    refine ⟨q, _, hL.1, trivial, fun od => ⟨_, rfl, y, CR, dy, _, .ref q, rfl, by rw [upd_ne (ne_of hy hL.1 (by intro z; cases z))]; exact hy, R.cl, R.nK, rfl, q, od, _, rfl, upd_same, fun D nD => ?_⟩⟩
    have Dq : D ≠ q := (ne_of_none upd_same nD).symm
    refine lens_walk (by omega) big nD upd_same (fun p hp => by rw [upd_ne (ne_of (hL.2 p hp) hL.1 (by intro z; cases z))]; exact hL.2 p hp) (by show 1 < 2; omega) fun H3 s3 hD => ⟨s3 _ _ upd_same, D, _, rfl, SqL.of (by rw [upd_ne Dq]; exact hD), ?_⟩
    rw [val_len hV]
    exact k _ (unlock_same hL.1 s3)
abbrev NRl : List Str := ["self", "place", "row"]
theorem scRl : FnScope NRl ["self"] (defScope s_Rollout_lists) := ⟨rfl, rfl, rfl, by decide +kernel, rfl, by decide +kernel, by decide +kernel⟩
theorem ok_rlists {f CF CR : Addr} {mcR : Value} {fd : FuncData} (F : Fun K "lists" "Rollout.lists" s_Rollout_lists f fd) (T : Nm mg) (R : RoC K mg CR mcR) : FnOk P w K mg base CX0 1 f fd ["self"] (spRLists CF CR) := by
  refine F.ok scRl (fun vs H Q E h => ?_) (fun cdv A outer s H vs Q E hr h => ?_)
  · obtain ⟨y, z, x, Ex, ts, L, ps, rfl, _⟩ := h
    rfl
  · obtain ⟨y, z, x, Ex, ts, L, ps, rfl, ra, o, k⟩ := h
    have nd := scRl.nd
    have big : 1000 ≤ sizeLine := by decide
    have few := o.few
    have pln := pls_len ts
    have pnd := pls_nd o
    refine ⟨_, pss_one (ps_ret (pe_lock (pe_dc (own := [("place", 1), ("row", 2)]) (g := gTup K 2 (gCons (gName 1) (gCons (gName 2) gNil))) (tt := tYes) (tv := tCB (rListOf K) (tCons (tVar 2) tNil)) rfl nd (pi_items (pe_fld (pv 0) rfl))
        (blkOk_by (N := NRl) (sc := defScope s_Rollout_lists) (by decide +kernel)) (fun _ _ _ _ _ => pg_tup rfl (pgs_cons (pg_name (i := 1) nd rfl (Or.inl rfl)) (pgs_cons (pg_name (i := 2) nd rfl (Or.inl rfl)) pgs_nil))) (fun _ _ _ _ _ => pts_nil) (fun _ _ _ _ _ => pv 1)
        (fun _ _ _ _ _ => pe_callTy call_list_of (by rfl) T.lst (by decide +kernel) (pa_cons (pv 2) pa_nil))))), ?_⟩
    obtain ⟨dy, q, dx, dq, r, rs, hy, hL, hz, hps, hx, hd, off1, off2⟩ := ra
    refine ⟨q, _, hL.1, trivial, fun od => ⟨_, rfl, y, CR, dy, _, .ref q, rfl, by rw [upd_ne (ne_of hy hL.1 (by intro z; cases z))]; exact hy, R.cl, R.nK, rfl, q, od, _, rfl, upd_same, fun D nD => ?_⟩⟩
    have Dq : D ≠ q := (ne_of_none upd_same nD).symm
    obtain ⟨H0, e0⟩ : ∃ X, X = upd H q (.frz od (.dK (tblV (pls ts) fun p => .ref (r p)))) := ⟨_, rfl⟩
    have hq0 : H0 q = some (.frz od (.dK (tblV (pls ts) fun p => .ref (r p)))) := by rw [e0]; exact upd_same
    have hl0 : ∀ p ∈ pls ts, H0 (r p) = some (.lst ((L p).map V.int)) := fun p hp => by
      have z := hL.2 p hp
      rw [e0, upd_ne (ne_of z hL.1 (by intro z; cases z))]
      exact z
    have fr0 : ∀ {H' : Hp} {b : Addr}, Same H0 H' → H' b = none → H b = none := fun {H' b} s z => by
      have z0 := s.free z
      cases e : H b with
      | none => rfl
      | some u =>
        by_cases bq : b = q
        · rw [bq, hq0] at z0
          cases z0
        · rw [e0, upd_ne bq, e] at z0
          cases z0
    rw [← e0] at nD ⊢
    refine dc_it walk_items (fun i H' => Same H0 H' ∧ ∃ r' : Str → Addr, H' D = some (.dK (tblV ((pls ts).take i) fun p => .ref (r' p))) ∧ ∀ p ∈ (pls ts).take i, H' (r' p) = some (.lst ((L p).map V.int)) ∧ H (r' p) = none) ⟨same_new nD, fun _ => 0, upd_same, fun p h => by simp at h⟩ (fun i H' _ z => z.1 _ _ hq0) ?_ ?_
    · intro i v Hz Ha hi ⟨q1, r', q2, q3⟩ ⟨T0, x0, y0, ey, nT, eb, ex, ev⟩
      subst ey
      subst eb
      rw [tblV_len] at hi
      obtain ⟨p, hp⟩ : ∃ p, (pls ts)[i]? = some p := ⟨_, List.getElem?_eq_getElem hi⟩
      have hx2 : (tblV (pls ts) fun p => V.ref (r p))[i]? = some (Sum.inr p, V.ref (r p)) := by
        unfold tblV kvT
        rw [List.map_map, List.getElem?_map, hp] <;> rfl
      have ex : Option.map (fun kv => kV kv.1) ((tblV (pls ts) fun p => V.ref (r p))[i]?) = some x0 := ex
      have ev : Option.map Prod.snd ((tblV (pls ts) fun p => V.ref (r p))[i]?) = some y0 := ev
      rw [hx2] at ex ev
      cases ex
      cases ev
      have mp := List.mem_of_getElem? hp
      have fr := nat_fresh pnd hp
      obtain ⟨Hb, eHb⟩ : ∃ X, X = upd Hz T0 (.tup [V.str p, V.ref (r p)]) := ⟨_, rfl⟩
      have sT : Same Hz Hb := eHb ▸ same_new nT
      have hT : Hb T0 = some (.tup [V.str p, V.ref (r p)]) := by rw [eHb]; exact upd_same
      show gTup K 2 _ (.ref T0) _ (upd Hz T0 (.tup [V.str p, V.ref (r p)])) _
      rw [← eHb]
      refine ⟨T0, _, rfl, .inl (.inl hT), rfl, _, _, rfl, _, _, rfl, rfl, rfl, ?_⟩
      have lp := sT _ _ (q1 _ _ (hl0 p mp))
      refine ⟨_, rfl, _, rfl, r p, _, rfl, .inl (SqL.of lp), fun l nl => ?_⟩
      have sl := same_new (o := .lst ((L p).map V.int)) nl
      have q2' := sT _ _ q2
      have lD : l ≠ D := (ne_of_none q2' nl).symm
      refine ⟨_, Sum.inr p, rfl, sl _ _ q2', by rw [tblV_len, List.length_take]; omega, ((q1.trans sT).trans sl).put nD, fun a => if a = p then l else r' a, ?_, fun a ha => ?_⟩
      · rw [upd_same, tblV_congr (g' := fun a => V.ref (if a = p then l else r' a)) fun a ha => by rw [if_neg fun z => fr (by rw [← z]; exact ha)], tblV_snoc fr (by rw [if_pos rfl]), take_more hp]
      · rw [take_more hp] at ha
        show (upd (upd Hb l (.lst ((L p).map V.int))) D _) (if a = p then l else r' a) = some (.lst ((L a).map V.int)) ∧ H (if a = p then l else r' a) = none
        by_cases e : a = p
        · rw [if_pos e, e]
          exact ⟨by rw [upd_ne lD]; exact upd_same, fr0 (q1.trans sT) nl⟩
        · rw [if_neg e]
          obtain ⟨z1, z2⟩ := q3 a ((List.mem_append.mp ha).resolve_right fun z => e (List.mem_singleton.mp z))
          have z1 := sl _ _ (sT _ _ z1)
          exact ⟨by rw [upd_ne (ne_of z1 (sl _ _ q2') (by intro z; cases z))]; exact z1, z2⟩
    intro H7 ⟨s07, r', hD2, hr'⟩
    rw [tblV_len, List.take_length] at hD2 hr'
    refine ⟨s07 _ _ hq0, k D r' _ (unlock_same hL.1 (by rw [← e0]; exact s07)) (by rw [e0, upd_ne Dq] at nD; exact nD) (fun p hp => (hr' p hp).2) ⟨by rw [upd_ne Dq]; exact hD2, fun p hp => ?_⟩⟩
    have z := hr' p hp
    have n : r' p ≠ q := fun e => by rw [e, hL.1] at z; cases z.2
    rw [upd_ne n]
    exact z.1
theorem scRz : FnScope ["self"] ["self"] (defScope s_Rollout_sizes) := ⟨rfl, rfl, rfl, by decide +kernel, rfl, by decide +kernel, by decide +kernel⟩
theorem ok_rsizes {f fS CF CR : Addr} {mcR : Value} {fd fdS : FuncData} (F : Fun K "sizes" "Rollout.sizes" s_Rollout_sizes f fd) (R : RoC K mg CR mcR) (DS : Dn P w K mg base CX0 3 "listed_sizes" ["forest", "lists"] (spLSizes CF) fS fdS) : FnOk P w K mg base CX0 4 f fd ["self"] (spRSizes CF CR) := by
  refine F.ok scRz (fun vs H Q E h => ?_) (fun cdv A outer s H vs Q E hr h => ?_)
  · obtain ⟨y, z, x, Ex, ts, L, ps, rfl, _⟩ := h
    rfl
  · obtain ⟨y, z, x, Ex, ts, L, ps, rfl, ra, o, k⟩ := h
    refine ⟨_, pss_one (ps_ret (pe_call DS.ok hr rfl DS.mgn DS.kp DS.bn .nil pass0 (pa_cons (pe_fld (pv 0) rfl) (pa_cons (pe_fld (pv 0) rfl) pa_nil)))), ?_⟩
    have fa := ra.fa
    obtain ⟨dy, q, dx, dq, r, rs, hy, hL, hz, hps, hx, hd, off1, off2⟩ := ra
    exact ⟨_, rfl, y, CR, dy, _, .ref x, rfl, hy, R.cl, R.nG, rfl, _, rfl, y, CR, dy, _, .ref q, rfl, hy, R.cl, R.nK, rfl, x, q, ts, r, L, rfl, fa, o, hL, k⟩
end
end FT


/-! Rollout.change -/
namespace FT
open PySem L2 TL ClX LiI
theorem lv_le {ts : List (Str × Str)} {c : Str → Int} {b : Int} (h : ∀ a ∈ ts.map Prod.fst, - b ≤ c a ∧ c a ≤ b) (b0 : 0 ≤ b) (p q : Str) : (lv ts c p q : Int) ≤ b := by
  unfold lv
  by_cases h1 : par ts q = some p ∧ 0 < c q
  · rw [if_pos h1]
    have := h q (par_flag h1.1)
    omega
  · rw [if_neg h1]
    by_cases h2 : par ts p = some q ∧ c p < 0
    · rw [if_pos h2]
      have := h p (par_flag h2.1)
      omega
    · rw [if_neg h2]
      exact b0
theorem lsz_bd {ts : List (Str × Str)} (o : TreeOk ts) {n : Nat} {L : Str → List Int} (hV : Val ts n L) {a : Str} (ha : a ∈ ts.map Prod.fst) : 0 ≤ lsz ts L a ∧ lsz ts L a ≤ n := by
  have nn : ∀ a, 0 ≤ lsz ts L a := fun a => by
    unfold lsz
    generalize under ts a = l
    induction l with
    | nil => exact Int.le_refl _
    | cons b l ih =>
      rw [List.map_cons, List.sum_cons]
      omega
  refine ⟨nn a, sz_le o (fun a _ => nn a) (fun p hp => ?_) ha⟩
  rw [← lsz_lens o (val_len hV) p hp]
  omega
section
variable {P : Program} {w : World} {K : PySem.W.Frag} {mg : Str → Option Value} {base : Heap}
abbrev NCg : List Str := ["self", "new", "before", "changed", "amount"]
theorem scCg : FnScope NCg ["self", "new"] (defScope s_Rollout_change) := ⟨rfl, rfl, rfl, by decide +kernel, rfl, by decide +kernel, by decide +kernel⟩
theorem ok_change {f fF fL fA fC CF CR CS p1 g1 : Addr} {mcR : Value} {fd fdF fdL fdA fdC fd1 : FuncData} (F : Fun K "change" "Rollout.change" s_Rollout_change f fd) (T : Nm mg) (R : RoC K mg CR mcR) (NF : Dn P w K mg base (L2.CX P w) 5 "need_feasible" ["forest", "users", "sizes"] (spFeas K CF CS) fF fdF)
    (DL : Dn P w K mg base CX0 3 "listed_sizes" ["forest", "lists"] (spLSizes CF) fL fdL) (DA : Dn P w K mg base CX0 3 "amounts_of" ["forest", "sizes", "new"] (spAmtOf CF) fA fdA) (DC : Dn P w K mg base CX0 5 "changed_lists" ["forest", "lists", "changed"] (spChanged CF) fC fdC) (PT : PrN P w K mg base 1 CR "total" (spRTotal CF CR) p1 g1 fd1) :
    FnOk P w K mg base (L2.CX P w) 6 f fd ["self", "new"] (spChange K CF CR CS) := by
  refine F.okX scCg (fun vs H Q E h => ?_) (fun cdv A outer s H vs Q E hr h => ?_)
  · obtain ⟨y, z, x, sv, Ex, ts, L, ps, n, so, rfl, _⟩ := h
    rfl
  · obtain ⟨y, z, x, sv, Ex, ts, L, ps, n, so, rfl, ra, o, hV, n1, n60, pl, hz, hEx, k⟩ := h
    have hu := hu_of hr
    have nd := scCg.nd
    have hr2 : Room 2 _ := hr.mono (by decide)
    have hr3 : Room 3 _ := hr.mono (by decide)
    have big : 2000 ≤ sizeLine := by decide
    have few := o.few
    refine ⟨_, pss_cons (ps_expr (pe_call NF.ok hr rfl NF.mgn NF.kp NF.bn .nil (passes_call (takes_of rfl rfl rfl rfl) (fun _ _ _ _ h => h)) (pa_cons (pe_fld (pv 0) rfl) (pa_cons (pe_prop (pv 0) R.cl PT.pr PT.fn hr2 PT.bn .nil pass0 (by rfl)) (pa_cons (pv 1) pa_nil)))))
      (pss_cons (ps_set (i := 2) nd rfl (.inl rfl) (pe_call DL.ok hr3 rfl DL.mgn DL.kp DL.bn .nil pass0 (pa_cons (pe_fld (pv 0) rfl) (pa_cons (pe_fld (pv 0) rfl) pa_nil))))
      (pss_cons (ps_set (i := 3) nd rfl (.inl rfl) (pe_call DA.ok hr3 rfl DA.mgn DA.kp DA.bn .nil pass0 (pa_cons (pe_fld (pv 0) rfl) (pa_cons (pv 2) (pa_cons (pv 1) pa_nil)))))
      (pss_cons (ps_fld (pv 0) (pe_call DC.ok hr rfl DC.mgn DC.kp DC.bn .nil pass0 (pa_cons (pe_fld (pv 0) rfl) (pa_cons (pe_fld (pv 0) rfl) (pa_cons (pv 3) pa_nil)))) rfl)
      (pss_cons (ps_expr (pe_bm PySem.F.plainAttrs_list PySem.F.slot_list_append PySem.F.type_list_append mt_append (pe_fld (pv 0) rfl) (pa_cons (pv 2) pa_nil)))
      (pss_one (ps_ret (pe_callB (cr_sum rfl) (by rfl) T.sum (by decide +kernel) (pa_cons (pe_lock (pe_lc (own := [("amount", 4)]) (g := gName 4) (tt := tYes) rfl nd (pi_values (pv 3)) (blkOk_by (N := NCg) (sc := defScope s_Rollout_change) (by decide +kernel))
        (fun _ _ _ _ _ => pg_name (i := 4) nd rfl (Or.inl rfl)) (fun _ _ _ _ _ => pts_nil) (fun _ _ _ _ _ => pe_callB call_abs (by rfl) T.abs (by decide +kernel) (pa_cons (pv 4) pa_nil)))) pa_nil)))))))), ?_⟩
    have fa := ra.fa
    have ra0 := ra
    obtain ⟨dy, q, dx, dq, r, rs, hy, hL, hz0, hps, hx, hd, off1, off2⟩ := ra
    refine ⟨_, rfl, y, CR, dy, _, .ref x, rfl, hy, R.cl, R.nG, rfl, _, rfl, y, dy, _, rfl, hy, y, z, x, Ex, ts, L, ps, n, rfl, ra0, o, hV, fun H1 s1 => ⟨_, rfl, x, (n : Int), sv, ts, so, rfl, fa.mono s1, o, hz.mono s1, ?_⟩⟩
    cases ef : feE CS ts n so with
    | some e =>
      rw [ef] at k
      exact Out.mono s1 k
    | none =>
      rw [ef] at k
      intro H2 s12
      have s2 := s1.trans s12
      cases so with
      | none => exact absurd ef feE_none
      | some kvs =>
        obtain ⟨qn, rfl, hqn, _⟩ := hz
        obtain ⟨fl, fv, fr⟩ := feE_ok ef
        refine ⟨_, rfl, y, CR, dy, _, .ref x, rfl, s2 _ _ hy, R.cl, R.nG, rfl, _, rfl, y, CR, dy, _, .ref q, rfl, s2 _ _ hy, R.cl, R.nK, rfl, x, q, ts, r, L, rfl, fa.mono s2, o, hL.mono s2, fun b H3 s23 nb hb => ?_⟩
        have s3 := s2.trans s23
        refine ⟨_, rfl, y, CR, dy, _, .ref x, rfl, s3 _ _ hy, R.cl, R.nG, rfl, _, rfl, _, rfl, x, b, qn, ts, _, kvs, rfl, fa.mono s3, o, hb, s3 _ _ hqn, fun a ha => by rw [tblI_val ha, szOf_tblI ha], fun a ha => (fv a ha).1, fun c H4 s34 nc hc => ?_⟩
        have s4 := s3.trans s34
        have hc : H4 c = some (.dK (tblI (ts.map Prod.fst) (chg ts L kvs))) := by
          rw [hc]
          congr 2
          exact tblI_congr fun a ha => by rw [szOf_tblI ha] <;> rfl
        have cb : ∀ a ∈ ts.map Prod.fst, -60 ≤ chg ts L kvs a ∧ chg ts L kvs a ≤ 60 := fun a ha => by
          have h1 := lsz_bd o hV ha
          have h2 := (fv a ha).2
          have h3 := sz_le o (s := szOf kvs) (n := n) (fun a ha => (fv a ha).2) (fun p hp => fr p (mem_pls.mpr hp)) ha
          unfold chg
          omega
        refine ⟨_, rfl, y, CR, dy, _, .ref x, rfl, s4 _ _ hy, R.cl, R.nG, rfl, _, rfl, y, CR, dy, _, .ref q, rfl, s4 _ _ hy, R.cl, R.nK, rfl, _, rfl, x, q, c, ts, chg ts L kvs, r, L, rfl, fa.mono s4, o, hL.mono s4, hc, fun p hp => ⟨?_, fun p' => ?_⟩, fun p hp => ?_, fun q' r' L' H5 s45 nq' nr' mv hL' => ?_⟩
        · have := nat_sumL (f := L) (mem_pls.mpr hp)
          rw [val_len hV] at this
          omega
        · have := lv_le (ts := ts) cb (by decide) p p'
          omega
        · have net := lv_net o (chg ts L kvs) hp
          have len := lsz_lens o (val_len hV) p hp
          have re := fr p (mem_pls.mpr hp)
          unfold resid at len re
          have e1 : ((kids ts p).map (chg ts L kvs)).sum = ((kids ts p).map (szOf kvs)).sum - ((kids ts p).map (lsz ts L)).sum := sum_map_sub _ _ _
          have e2 : (if p = "" then 0 else chg ts L kvs p) = (if p = "" then (n : Int) else szOf kvs p) - (if p = "" then (n : Int) else lsz ts L p) := by
            by_cases e : p = ""
            · rw [if_pos e, if_pos e, if_pos e]
              omega
            · rw [if_neg e, if_neg e, if_neg e] <;> rfl
          omega
        have s5 := s4.trans s45
        refine ⟨_, rfl, y, CR, dy, _, rfl, s5 _ _ hy, R.cl, R.nK, by show 3 < 1000; decide, ?_⟩
        rw [put_k2]
        obtain ⟨H6, e6⟩ : ∃ X, X = upd H5 y (.ins CR dy (rFs x q' z)) := ⟨_, rfl⟩
        have hy6 : H6 y = some (.ins CR dy (rFs x q' z)) := by rw [e6]; exact upd_same
        have k6 : ∀ {b u}, b ≠ y → H5 b = some u → H6 b = some u := fun {b u} n e => by rw [e6, upd_ne n]; exact e
        have zy : z ≠ y := ne_of hz0 hy (by intro z; cases z)
        have hz6 := k6 zy (s5 _ _ hz0)
        rw [← e6]
        have lrs := hps.len
        refine ⟨_, rfl, y, CR, dy, _, .ref z, rfl, hy6, R.cl, R.nS, rfl, .inl ⟨rfl, _, SqL.of hz6⟩, _, rfl, z, _, _, rfl, rfl, hz6, by rw [List.length_map]; omega, ?_⟩
        obtain ⟨H7, e7⟩ : ∃ X, X = upd H6 z (.lst (rs.map V.ref ++ [.ref b])) := ⟨_, rfl⟩
        have k7 : ∀ {b u}, b ≠ z → H6 b = some u → H7 b = some u := fun {b u} n e => by rw [e7, upd_ne n]; exact e
        have hz7 : H7 z = some (.lst ((rs ++ [b]).map V.ref)) := by rw [e7, upd_same, List.map_append] <;> rfl
        have hc5 := s45 _ _ hc
        have cy : c ≠ y := ne_of hc5 (s5 _ _ hy) (by intro z; cases z)
        have cz : c ≠ z := ne_of hc5 (s5 _ _ hz0) (by intro z; cases z)
        have hc7 := k7 cz (k6 cy hc5)
        rw [← e7]
        refine ⟨c, _, hc7, trivial, fun od => ⟨_, rfl, c, od, _, rfl, upd_same, fun D nD => ?_⟩⟩
        have Dc : D ≠ c := (ne_of_none upd_same nD).symm
        obtain ⟨H8, e8⟩ : ∃ X, X = upd H7 c (.frz od (.dK (tblI (ts.map Prod.fst) (chg ts L kvs)))) := ⟨_, rfl⟩
        have hc8 : H8 c = some (.frz od (.dK (tblI (ts.map Prod.fst) (chg ts L kvs)))) := by rw [e8]; exact upd_same
        rw [← e8] at nD ⊢
        refine lc_it walk_values (fun i H' => Same H8 H' ∧ H' D = some (.lst ((((ts.map Prod.fst).take i).map fun a => absI (chg ts L kvs a)).map V.int))) ⟨same_new nD, upd_same⟩ (fun i H' _ z => z.1 _ _ hc8) ?_ ?_
        · intro i v Hz Ha hi ⟨q1, q2⟩ ⟨eb, kk, hk⟩
          subst eb
          obtain ⟨a, ha, rfl, rfl⟩ := tblI_at hk
          have il := (List.getElem?_eq_some_iff.mp ha).1
          rw [List.length_map] at il
          refine ⟨rfl, ?_⟩
          refine ⟨_, rfl, _, rfl, _, q2, ?_, Same.put q1 nD, ?_⟩
          · rw [List.length_map, List.length_map, List.length_take, List.length_map]
            omega
          · rw [upd_same, take_more ha, List.map_append, List.map_append] <;> rfl
        · intro H9 ⟨s89, hD⟩
          rw [tblI_len, List.take_length] at hD
          refine ⟨s89 _ _ hc8, D, _, rfl, SqL.of (by rw [upd_ne Dc]; exact hD), ?_⟩
          have s79 : Same H7 (upd H9 c (.dK (tblI (ts.map Prod.fst) (chg ts L kvs)))) := unlock_same hc7 (by rw [← e8]; exact s89)
          obtain ⟨H10, e10⟩ : ∃ X, X = upd H9 c (.dK (tblI (ts.map Prod.fst) (chg ts L kvs))) := ⟨_, rfl⟩
          rw [← e10] at s79 ⊢
          have on : ∀ {b u}, b ≠ y → b ≠ z → H5 b = some u → H10 b = some u := fun {b u} n1 n2 e => s79 _ _ (k7 n2 (k6 n1 e))
          have nEx : ∀ {b}, H b = none → b ∉ Ex := fun {b} e m => by
            obtain ⟨u, hu⟩ := hEx b m
            rw [e] at hu
            cases hu
          have nb0 : H b = none := s2.free nb
          have hb5 := s45 _ _ (s34 _ _ hb)
          have yz7 : y ≠ z := Ne.symm zy
          refine k H10 L' mv (fun b u n1 n2 e => on n1 n2 (s5 _ _ e)) ⟨dy, q', dx, dq, r', rs ++ [b], s79 _ _ (k7 yz7 hy6), ⟨?_, fun p hp => ?_⟩, s79 _ _ hz7, ?_, ?_, ?_, fun b' hb' => ?_, fun p hp => nEx (s4.free (nr' p hp))⟩
          · exact on (ne_of hL'.1 (s5 _ _ hy) (by intro z; cases z)) (ne_of hL'.1 (s5 _ _ hz0) (by intro z; cases z)) hL'.1
          · refine on (ne_of (hL'.2 p hp) (s5 _ _ hy) (by intro z; cases z)) (fun e => ?_) (hL'.2 p hp)
            have w := nr' p hp
            rw [e, s4 _ _ hz0] at w
            cases w
          · refine PsAt.snoc (on (ne_of hb5 (s5 _ _ hy) (by intro z; cases z)) (ne_of hb5 (s5 _ _ hz0) (by intro z; cases z)) hb5) (PsAt.imp (fun b kvs e => ?_) hps)
            have e5 := s5 _ _ e
            exact on (ne_of e5 (s5 _ _ hy) (by intro z; cases z)) (ne_of e5 (s5 _ _ hz0) (by intro z; cases z)) e5
          · have e5 := s5 _ _ hx
            refine on (fun w => ?_) (ne_of e5 (s5 _ _ hz0) (by intro z; cases z)) e5
            rw [w, s5 _ _ hy] at e5
            injection e5 with e5
            injection e5 with _ _ e5
            have := congrArg List.length e5
            cases this
          · have e5 := s5 _ _ hd
            exact on (ne_of e5 (s5 _ _ hy) (by intro z; cases z)) (ne_of e5 (s5 _ _ hz0) (by intro z; cases z)) e5
          · simp only [List.mem_cons, List.mem_append, List.not_mem_nil, or_false] at hb'
            rcases hb' with rfl | rfl | rfl | rfl | rfl | hb' | rfl
            · exact off1 _ (by simp)
            · exact off1 _ (by simp)
            · exact nEx (s4.free nq')
            · exact off1 _ (by simp)
            · exact off1 _ (by simp)
            · exact off1 _ (by simp [hb'])
            · exact nEx nb0
end
end FT


/-! family B (laws k17 to k28, k55): the drawing state as a dict; begin. -/
namespace FT
open PySem L2 TL ClX
/-- the drawing state: at d the dict, its lists at l (large) and i (items) -/
def stB (l i : Addr) (lf tn : Int) : List (Key × V) := [(Sum.inr "large", .ref l), (Sum.inr "items", .ref i), (Sum.inr "left", .int lf), (Sum.inr "turn", .int tn)]
/-- b: a bound on the turns that were taken -/
def DrawB (H : Hp) (d l i : Addr) (b : Int) : Prop := ∃ (lf tn : Int) (lg it : List Int), H d = some (.dK (stB l i lf tn)) ∧ H l = some (.lst (lg.map V.int)) ∧ H i = some (.lst (it.map V.int)) ∧ l ≠ i ∧ (∀ z ∈ lg, 0 ≤ z) ∧ (∀ z ∈ it, 0 ≤ z) ∧ lg.length ≤ 63 ∧ it.length ≤ 63 ∧ 0 ≤ lf ∧ 0 ≤ tn ∧ tn ≤ b
/-- all that was tracked, but d and l, is as it was -/
def KeepB (d l : Addr) (H H' : Hp) : Prop := ∀ b o, b ≠ d → b ≠ l → H b = some o → H' b = some o
def spBeginB (K : PySem.W.Frag) : Sp := fun vs H Q _ => ∃ (a : Addr) (ns : List Int), vs = [.ref a] ∧ SqL K H a (ns.map V.int) ∧ ns.length ≤ 63 ∧
  ∀ (H' : Hp) (d l i : Addr), Same H H' → H d = none → H l = none → H i = none → DrawB H' d l i 0 → Q (.ref d) H'
theorem DrawB.more {H : Hp} {d l i : Addr} {b b' : Int} (x : DrawB H d l i b) (h : b ≤ b') : DrawB H d l i b' := by
  obtain ⟨lf, tn, lg, it, a1, a2, a3, a4, a5, a6, a7, a8, a9, a10, a11⟩ := x
  exact ⟨lf, tn, lg, it, a1, a2, a3, a4, a5, a6, a7, a8, a9, a10, by omega⟩
theorem DrawB.mono {H H' : Hp} {d l i : Addr} {b : Int} (s : Same H H') (x : DrawB H d l i b) : DrawB H' d l i b := by
  obtain ⟨lf, tn, lg, it, a1, a2, a3, r⟩ := x
  exact ⟨lf, tn, lg, it, s _ _ a1, s _ _ a2, s _ _ a3, r⟩
theorem DrawB.apart {H : Hp} {d l i p : Addr} {b : Int} (x : DrawB H d l i b) (n : H p = none) : p ≠ d ∧ p ≠ l ∧ p ≠ i := by
  obtain ⟨lf, tn, lg, it, a1, a2, a3, r⟩ := x
  exact ⟨(ne_of_none a1 n).symm, (ne_of_none a2 n).symm, (ne_of_none a3 n).symm⟩
def magsB (ms : List Int) : List Int := ms.map fun i => if i < 0 then -i else i
theorem magsB_nn (ms : List Int) : ∀ z ∈ magsB ms, 0 ≤ z := fun z h => by
  obtain ⟨i, _, rfl⟩ := List.mem_map.mp h
  split <;> omega
section
variable {P : Program} {w : World} {K : PySem.W.Frag} {mg : Str → Option Value} {base : Heap}
abbrev NBb : List Str := ["_law_script", "_law_items", "_law_item"]
theorem scBb : FnScope NBb ["_law_script"] (defScope s__law_begin) := ⟨rfl, rfl, rfl, by decide +kernel, rfl, by decide +kernel, by decide +kernel⟩
theorem ok_beginB {f : Addr} {fd : FuncData} (F : Fun K "_law_begin" "_law_begin" s__law_begin f fd) (T : Nm mg) : FnOk P w K mg base CX0 1 f fd ["_law_script"] (spBeginB K) := by
  refine F.ok scBb (fun vs H Q E h => ?_) (fun cdv A outer s H vs Q E hr h => ?_)
  · obtain ⟨a, ns, rfl, _⟩ := h
    rfl
  · obtain ⟨a, ns, rfl, hS, hlen, k⟩ := h
    have nd := scBb.nd
    have big : 1000 ≤ sizeLine := by decide
    refine ⟨_, pss_cons (ps_setLc (i := 1) (own := [("_law_item", 2)]) (g := gName 2) (tt := tYes) rfl nd rfl rfl (sw_true rfl rfl rfl (by decide +kernel)) (pi_list (pe_slice sl_list (pv 0) po_none (po_some pe_int)))
        (blkOk_by (N := NBb) (sc := defScope s__law_begin) (by decide +kernel)) (fun _ _ _ _ _ => pg_name (i := 2) nd rfl (Or.inl rfl)) (fun _ _ _ _ _ => pts_nil) (fun _ _ _ _ _ => pe_callB call_abs (by rfl) T.abs (by decide +kernel) (pa_cons (pv 2) pa_nil)))
      (pss_one (ps_ret (pe_disp (pps_cons pe_str (pe_lc (own := [("_law_item", 2)]) (g := gName 2) (tt := tTest (tOp (rI0 fun i j => .bl (decide (i ≥ j))) (tVar 2) (tOp (rI CPow fun i j => .int (i ^ j.toNat)) (tC (.int 10)) (tC (.int 18))))) (te := tVar 2) rfl nd (pi_list (pv 1))
        (blkOk_by (N := NBb) (sc := defScope s__law_begin) (by decide +kernel)) (fun _ _ _ _ _ => pg_name (i := 2) nd rfl (Or.inl rfl)) (fun _ _ _ _ _ => pts_one (pt_cmpR op_ge (pv 2) (pe_op op_pow pe_int pe_int) (nomark _))) (fun _ _ _ _ _ => pv 2))
        (pps_cons pe_str (pv 1) (pps_cons pe_str pe_int (pps_cons pe_str pe_int pps_nil)))) (by rfl) (by rfl) (fun z => by cases z) (by decide)))), ?_⟩
    obtain ⟨ms, em, lm⟩ := cut_ints ns none (some 63)
    refine ⟨_, rfl, _, rfl, a, _, rfl, hS, fun p np => ?_⟩
    rw [em]
    have s1 : Same H (upd H p (.lst (ms.map V.int))) := same_new np
    refine ⟨p, rfl, ⟨_, SqL.of upd_same⟩, fun D nD => lc_list (xs := ms.map V.int) (fun i H' => Same (upd H p (.lst (ms.map V.int))) H' ∧ H' D = some (.lst ((magsB (ms.take i)).map V.int))) ⟨same_new nD, by rw [upd_same, List.take_zero] <;> rfl⟩ (fun i H' _ q => Same.sql q.1 (SqL.of upd_same)) ?_ ?_⟩
    · intro i x H' hx ⟨q1, q2⟩
      obtain ⟨z, hz, rfl⟩ := map_of hx
      refine ⟨rfl, ?_⟩
      refine ⟨_, rfl, z, rfl, _, q2, ?_, Same.put q1 nD, ?_⟩
      · rw [List.length_map]
        unfold magsB
        rw [List.length_map, List.length_take]
        omega
      · rw [upd_same, take_more hz]
        unfold magsB
        rw [List.map_append, List.map_append] <;> rfl
    intro H2 ⟨q1, q2⟩
    rw [List.length_map, List.take_length] at q2
    have s2 : Same H H2 := s1.trans q1
    have nD0 : H D = none := s1.free nD
    obtain ⟨it, eit⟩ : ∃ it, it = magsB ms := ⟨_, rfl⟩
    rw [← eit] at q2
    have lit : it.length ≤ 63 := by
      rw [eit]
      unfold magsB
      rw [List.length_map]
      omega
    refine fun dq ndq => ?_
    have sd := same_new (o := .dK []) ndq
    refine ⟨_, rfl, D, rfl, ⟨_, SqL.of (sd _ _ q2)⟩, fun D2 nD2 => lc_list (xs := it.map V.int) (fun i H' => Same (upd H2 dq (.dK [])) H' ∧ H' D2 = some (.lst (((it.take i).filter fun z => decide (z ≥ 10 ^ 18)).map V.int))) ⟨same_new nD2, by rw [upd_same] <;> rfl⟩ (fun i H' _ q => Same.sql q.1 (SqL.of (sd _ _ q2))) ?_ ?_⟩
    · intro i x H' hx ⟨z1, z2⟩
      obtain ⟨z, hz, rfl⟩ := map_of hx
      refine ⟨rfl, ?_⟩
      refine ⟨_, rfl, _, _, rfl, rfl, ⟨by decide, by decide, by decide⟩, _, _, rfl, rfl, _, rfl, ?_⟩
      have lf : ((it.take i).filter fun z => decide (z ≥ 10 ^ 18)).length ≤ 63 := by
        have := List.length_filter_le (fun z : Int => decide (z ≥ 10 ^ 18)) (it.take i)
        rw [List.length_take] at this
        omega
      refine ite2 (fun yes => ?_) (fun no => ?_)
      · have yes : decide (z ≥ 10 ^ 18) = true := yes
        refine ⟨_, rfl, _, z2, by rw [List.length_map]; omega, Same.put z1 nD2, ?_⟩
        rw [upd_same, take_more hz, List.filter_append, List.filter_cons, if_pos yes, List.filter_nil, List.map_append] <;> rfl
      · have no : ¬ decide (z ≥ 10 ^ 18) = true := no
        refine ⟨z1, ?_⟩
        rw [z2, take_more hz, List.filter_append, List.filter_cons, if_neg no, List.filter_nil, List.append_nil]
    intro H3 ⟨z1, z2⟩
    rw [List.length_map, List.take_length] at z2
    have hdq : H3 dq = some (.dK []) := z1 _ _ upd_same
    have nD2' : H2 D2 = none := sd.free nD2
    refine ⟨_, rfl, hdq, stB D2 D 0 0, rfl, by show 4 ≤ 15; omega, ?_⟩
    have Dd : D ≠ dq := ne_of_none q2 ndq
    have D2d : D2 ≠ dq := (ne_of_none upd_same nD2).symm
    have DD2 : D2 ≠ D := (ne_of_none (sd _ _ q2) nD2).symm
    have s3 : Same H (upd H3 dq (.dK (stB D2 D 0 0))) := fun b u e => by
      have e2 := s2 b u e
      have nb : b ≠ dq := ne_of_none e2 ndq
      rw [upd_ne nb]
      exact z1 _ _ (by rw [upd_ne nb]; exact e2)
    refine k _ dq D2 D s3 (s2.free ndq) (s2.free nD2') nD0 ⟨0, 0, (it.filter fun z => decide (z ≥ 10 ^ 18)), it, upd_same, by rw [upd_ne D2d]; exact z2, by rw [upd_ne Dd]; exact z1 _ _ (sd _ _ q2), DD2, fun z hz => ?_, fun z hz => ?_, ?_, lit, by omega, by omega, by omega⟩
    · rw [eit] at hz
      exact magsB_nn ms z (List.mem_filter.mp hz).1
    · rw [eit] at hz
      exact magsB_nn ms z hz
    · have := List.length_filter_le (fun z : Int => decide (z ≥ 10 ^ 18)) it
      omega
end
end FT


/-! family B: mixed, take, pick -/
namespace FT
open PySem L2 TL ClX LiI
theorem stB_get {H : Hp} {d l i : Addr} {lf tn : Int} (h : H d = some (.dK (stB l i lf tn))) : DGet H d (.str "large") (some (.ref l)) ∧ DGet H d (.str "items") (some (.ref i)) ∧ DGet H d (.str "left") (some (.int lf)) ∧ DGet H d (.str "turn") (some (.int tn)) := by
  refine ⟨?_, ?_, ?_, ?_⟩
  · exact .inl ⟨_, Sum.inr "large", .inl h, rfl, rfl⟩
  · exact .inl ⟨_, Sum.inr "items", .inl h, rfl, rfl⟩
  · exact .inl ⟨_, Sum.inr "left", .inl h, rfl, rfl⟩
  · exact .inl ⟨_, Sum.inr "turn", .inl h, rfl, rfl⟩
theorem stB_left (l i : Addr) (lf tn z : Int) : putK (stB l i lf tn) (Sum.inr "left") (.int z) = stB l i z tn := rfl
theorem stB_turn (l i : Addr) (lf tn z : Int) : putK (stB l i lf tn) (Sum.inr "turn") (.int z) = stB l i lf z := rfl
theorem DrawB.ne {H : Hp} {d l i : Addr} {b : Int} (x : DrawB H d l i b) : l ≠ d ∧ i ≠ d ∧ l ≠ i := by
  obtain ⟨lf, tn, lg, it, a1, a2, a3, a4, _⟩ := x
  exact ⟨ne_of a2 a1 (by intro z; cases z), ne_of a3 a1 (by intro z; cases z), a4⟩
theorem DrawB.ex {H : Hp} {d l i : Addr} {b : Int} (x : DrawB H d l i b) : ∀ y ∈ [d, l], ∃ u, H y = some u := fun y hy => by
  obtain ⟨lf, tn, lg, it, a1, a2, a3, a4, _⟩ := x
  simp only [List.mem_cons, List.not_mem_nil, or_false] at hy
  rcases hy with rfl | rfl
  · exact ⟨_, a1⟩
  · exact ⟨_, a2⟩
/-- a store elsewhere -/
theorem DrawB.off {H : Hp} {d l i p : Addr} {b : Int} {o : HO} (x : DrawB H d l i b) (n1 : p ≠ d) (n2 : p ≠ l) (n3 : p ≠ i) : DrawB (upd H p o) d l i b := by
  obtain ⟨lf, tn, lg, it, a1, a2, a3, r⟩ := x
  exact ⟨lf, tn, lg, it, by rw [upd_ne n1.symm]; exact a1, by rw [upd_ne n2.symm]; exact a2, by rw [upd_ne n3.symm]; exact a3, r⟩
theorem kx_put {d l p : Addr} {H H' : Hp} {o : HO} (k : KeepX [d, l] H H') (n : H p = none) : KeepX [d, l] H (upd H' p o) := fun b u nb e => by
  rw [upd_ne (ne_of_none e n)]
  exact k b u nb e
def spMixedB : Sp := fun vs H Q _ => ∃ (d l i : Addr) (b : Int), vs = [.ref d] ∧ DrawB H d l i b ∧ b ≤ 10 ^ 12 ∧ ∀ (n : Int) (H' : Hp), 0 ≤ n → DrawB H' d l i (b + 1) → KeepX [d, l] H H' → Q (.int n) H'
def spTakeB : Sp := fun vs H Q _ => ∃ (d l i : Addr) (b n : Int), vs = [.ref d, .int n] ∧ DrawB H d l i b ∧ b ≤ 10 ^ 12 ∧ 0 < n ∧ n.natAbs < 2 ^ 200 ∧ ∀ (k : Int) (H' : Hp), 0 ≤ k → k < n → DrawB H' d l i (b + 1) → KeepX [d, l] H H' → Q (.int k) H'
def spPickB : Sp := fun vs H Q _ => ∃ (d l i a : Addr) (b : Int) (xs : List V), vs = [.ref d, .ref a] ∧ DrawB H d l i b ∧ b ≤ 10 ^ 12 ∧ H a = some (.lst xs) ∧ a ≠ l ∧ xs ≠ [] ∧ xs.length ≤ 1000 ∧ ∀ (x : V) (H' : Hp), x ∈ xs → DrawB H' d l i (b + 1) → KeepX [d, l] H H' → Q x H'
section
variable {P : Program} {w : World} {K : PySem.W.Frag} {mg : Str → Option Value} {base : Heap}
abbrev NMx : List Str := ["_law_draw", "_law_number", "_law_prime", "_law_part", "_law_item"]
theorem scMx : FnScope NMx ["_law_draw"] (defScope s__law_mixed) := ⟨rfl, rfl, rfl, by decide +kernel, rfl, by decide +kernel, by decide +kernel⟩
theorem ok_mixedB {f : Addr} {fd : FuncData} (F : Fun K "_law_mixed" "_law_mixed" s__law_mixed f fd) : FnOk P w K mg base CX0 1 f fd ["_law_draw"] spMixedB := by
  refine F.ok scMx (fun vs H Q E h => ?_) (fun cdv A outer s H vs Q E hr h => ?_)
  · obtain ⟨d, l, i, b, rfl, _⟩ := h
    rfl
  · obtain ⟨d, l, i, b, rfl, hD, bb, k⟩ := h
    have hu := hu_of hr
    have nd := scMx.nd
    have big : 1000 ≤ sizeLine := by decide
    refine ⟨_, pss_cons (ps_dput hu (pv 0) pe_str (pe_op op_add (pe_dget hu (pv 0) pe_str (fun _ _ => rfl)) pe_int) rfl)
      (pss_cons (ps_set (i := 1) nd rfl (.inl rfl) pe_int)
      (pss_cons (ps_for PassesOwn.never rfl (pi_list (pe_lst (pa_cons pe_int (pa_cons pe_int (pa_cons pe_int (pa_cons pe_int pa_nil)))))) (pg_name (i := 2) nd rfl (.inl rfl))
        (pss_cons (ps_set (i := 3) nd rfl (.inl rfl) (pe_op op_add (pe_op op_mul pe_int (pe_dget hu (pv 0) pe_str (fun _ _ => rfl))) (pe_op op_fdiv (pv 2) pe_int)))
        (pss_cons (ps_for PassesOwn.never rfl (pi_list (pe_dget hu (pv 0) pe_str (fun _ _ => rfl))) (pg_name (i := 4) nd rfl (.inl rfl))
          (pss_one (ps_set (i := 3) nd rfl (.inl rfl) (pe_op op_mod (pe_op op_add (pe_op op_mul (pv 3) pe_int) (pv 4)) (pv 2)))))
        (pss_one (ps_set (i := 1) nd rfl (.inl rfl) (pe_op op_add (pe_op op_mul (pv 1) pe_int) (pe_op op_mod (pe_op op_pow (pv 3) pe_int) (pv 2))))))))
      (pss_one (ps_ret (pv 1))))), ?_⟩
    have hdne := hD.ne
    obtain ⟨lf, tn, lg, it, a1, a2, a3, a4, lg0, it0, lgl, itl, lf0, tn0, tnb⟩ := hD
    obtain ⟨_, _, _, gt⟩ := stB_get a1
    refine ⟨_, rfl, d, _, rfl, gt, _, _, rfl, rfl, _, rfl, d, _, rfl, DPut.k (k := Sum.inr "turn") a1 (by show 4 < sizeLine; omega), ?_⟩
    rw [stB_turn]
    obtain ⟨H1, e1⟩ : ∃ X, X = upd H d (.dK (stB l i lf (tn + 1))) := ⟨_, rfl⟩
    have hd1 : H1 d = some (.dK (stB l i lf (tn + 1))) := by rw [e1]; exact upd_same
    have hl1 : H1 l = some (.lst (lg.map V.int)) := by rw [e1, upd_ne hdne.1]; exact a2
    have hi1 : H1 i = some (.lst (it.map V.int)) := by rw [e1, upd_ne hdne.2.1]; exact a3
    have k1 : KeepX [d, l] H H1 := fun b u nb e => by
      rw [e1, upd_ne fun z => nb (by rw [z]; exact List.mem_cons_self ..)]
      exact e
    obtain ⟨_, gi, _, gt1⟩ := stB_get hd1
    rw [← e1]
    refine ⟨by show 4 ≤ sizeLine; omega, fun pl npl => ⟨pl, rfl, ⟨_, SqL.of upd_same⟩, ?_⟩⟩
    obtain ⟨H2, e2⟩ : ∃ X, X = upd H1 pl (.lst [V.int 2147483629, V.int 2147483587, V.int 2147483579, V.int 2147483563]) := ⟨_, rfl⟩
    have s12 : Same H1 H2 := e2 ▸ same_new npl
    have hpl : H2 pl = some (.lst (([2147483629, 2147483587, 2147483579, 2147483563] : List Int).map V.int)) := by rw [e2]; exact upd_same
    rw [← e2]
    have prb : ∀ p ∈ ([2147483629, 2147483587, 2147483579, 2147483563] : List Int), 2147483563 ≤ p ∧ p ≤ 2147483629 := by decide
    refine for_it walk_list (fun j σ' H' => (∃ (n : Int) (u2 u3 u4 : Option V), σ' = [some (.ref d), some (.int n), u2, u3, u4] ∧ 0 ≤ n) ∧ H' = H2) ⟨⟨0, _, _, _, rfl, Int.le_refl _⟩, rfl⟩ (fun j σ' H' _ z => by rw [z.2]; exact SqL.of hpl) ?_ ?_
    · intro j y σ' Hz Ha hj ⟨⟨n, u2, u3, u4, eσ, n0⟩, eH⟩ ⟨eb, ey⟩
      subst eσ
      subst eb
      obtain ⟨p, hp, rfl⟩ := map_of ey
      obtain ⟨p0, p1⟩ := prb p (List.mem_of_getElem? hp)
      have gt2 : DGet Ha d (.str "turn") (some (.int (tn + 1))) := (stB_get (by rw [eH]; exact s12 _ _ hd1)).2.2.2
      have gi2 : DGet Ha d (.str "items") (some (.ref i)) := (stB_get (by rw [eH]; exact s12 _ _ hd1)).2.1
      have hi2 : Ha i = some (.lst (it.map V.int)) := by rw [eH]; exact s12 _ _ hi1
      have q0 : 0 ≤ p / 13 := Int.ediv_nonneg (by omega) (by decide)
      have q1 : p / 13 ≤ 2147483629 := by omega
      refine ⟨_, rfl, d, _, rfl, gt2, _, _, rfl, rfl, .inl ⟨by decide, by decide⟩, _, rfl, _, _, rfl, rfl, ⟨by decide, by decide⟩, _, _, rfl, rfl, ?_⟩
      obtain ⟨m0, em0⟩ : ∃ m0, m0 = 92821 * (tn + 1) + p / 13 := ⟨_, rfl⟩
      have b0 : 0 ≤ m0 ∧ m0 < 2 ^ 62 := by
        have : (10 : Int) ^ 12 = 1000000000000 := by decide
        have : (2 : Int) ^ 62 = 4611686018427387904 := by decide
        omega
      show gName 3 (V.int (92821 * (tn + 1) + p / 13)) _ _ _
      rw [← em0]
      refine ⟨_, rfl, d, _, rfl, gi2, i, rfl, ⟨_, SqL.of hi2⟩, ?_⟩
      refine for_it walk_list (fun j σ' H' => (∃ (m : Int) (u4 : Option V), σ' = [some (.ref d), some (.int n), some (.int p), some (.int m), u4] ∧ 0 ≤ m ∧ m < 2 ^ 62) ∧ H' = Ha) ⟨⟨m0, _, rfl, b0.1, b0.2⟩, rfl⟩ (fun j σ' H' _ z => by rw [z.2]; exact SqL.of hi2) ?_ ?_
      · intro j2 y2 σ2 Hz Hc hj2 ⟨⟨m, u4', eσ2, ma, mb⟩, eH2⟩ ⟨eb2, ey2⟩
        subst eσ2
        subst eb2
        obtain ⟨c, hc, rfl⟩ := map_of ey2
        refine ⟨_, rfl, _, _, rfl, rfl, .inr ⟨by decide, by decide⟩, _, rfl, _, _, rfl, rfl, _, rfl, _, _, rfl, rfl, (by show (0 : Int) < p; omega), ⟨⟨_, _, rfl, Int.emod_nonneg _ (by omega), ?_⟩, eH2⟩⟩
        have := Int.emod_lt_of_pos (m * 48271 + c) (show 0 < p by omega)
        have e62 : (2 : Int) ^ 62 = 4611686018427387904 := by decide
        omega
      · intro σ2 Hc ⟨⟨m, u4', eσ2, ma, mb⟩, eH2⟩
        subst eσ2
        subst eH2
        refine ⟨_, rfl, _, _, rfl, rfl, .inr ⟨by decide, by decide⟩, _, rfl, _, _, rfl, rfl, ⟨by decide, by decide, ?_⟩, _, rfl, _, _, rfl, rfl, (by show (0 : Int) < p; omega), _, _, rfl, rfl, ⟨⟨_, _, _, _, rfl, ?_⟩, eH⟩⟩
        · have e62 : (2 : Int) ^ 62 = 4611686018427387904 := by decide
          have e64 : (2 : Nat) ^ 64 = 18446744073709551616 := by decide
          omega
        · have := Int.emod_nonneg (m ^ Int.toNat 5) (show p ≠ 0 by omega)
          have : 0 ≤ n * 2147483647 := by omega
          show 0 ≤ n * 2147483647 + m ^ Int.toNat 5 % p
          omega
    · intro σ' H' ⟨⟨n, u2, u3, u4, eσ, n0⟩, eH⟩
      subst eσ
      subst eH
      refine ⟨_, rfl, k n H' n0 ⟨lf, tn + 1, lg, it, s12 _ _ hd1, s12 _ _ hl1, s12 _ _ hi1, a4, lg0, it0, lgl, itl, lf0, by omega, by omega⟩ (k1.trans (.of_same s12))⟩
abbrev NTk : List Str := ["_law_draw", "_law_size", "_law_digit"]
theorem scTk : FnScope NTk ["_law_draw", "_law_size"] (defScope s__law_take) := ⟨rfl, rfl, rfl, by decide +kernel, rfl, by decide +kernel, by decide +kernel⟩
theorem ok_takeB {f fM : Addr} {fd fdM : FuncData} (F : Fun K "_law_take" "_law_take" s__law_take f fd) (DM : Dn P w K mg base CX0 1 "_law_mixed" ["_law_draw"] spMixedB fM fdM) : FnOk P w K mg base CX0 2 f fd ["_law_draw", "_law_size"] spTakeB := by
  refine F.ok scTk (fun vs H Q E h => ?_) (fun cdv A outer s H vs Q E hr h => ?_)
  · obtain ⟨d, l, i, b, n, rfl, _⟩ := h
    rfl
  · obtain ⟨d, l, i, b, n, rfl, hD, bb, n0, n1, k⟩ := h
    have hu := hu_of hr
    have nd := scTk.nd
    have big : 1000 ≤ sizeLine := by decide
    refine ⟨_, pss_cons (ps_if (pt_cmpR op_eq (pe_dget hu (pv 0) pe_str (fun _ _ => rfl)) pe_int (nomark _))
        (pss_one (ps_dput hu (pv 0) pe_str (pe_ifExp (pt_cmpR (op_neD hr.units) (pe_dget hu (pv 0) pe_str (fun _ _ => rfl)) (pe_lst pa_nil) (nomark _)) (pe_bm PySem.F.plainAttrs_list PySem.F.slot_list_pop PySem.F.type_list_pop mt_popAt (pe_dget hu (pv 0) pe_str (fun _ _ => rfl)) (pa_cons pe_int pa_nil)) (pe_call DM.ok hr rfl DM.mgn DM.kp DM.bn .nil pass0 (pa_cons (pv 0) pa_nil))) rfl)) pss_nil)
      (pss_cons (ps_set (i := 2) nd rfl (.inl rfl) (pe_op op_mod (pe_dget hu (pv 0) pe_str (fun _ _ => rfl)) (pv 1)))
      (pss_cons (ps_dput hu (pv 0) pe_str (pe_op op_fdivW (pe_dget hu (pv 0) pe_str (fun _ _ => rfl)) (pv 1)) rfl)
      (pss_one (ps_ret (pv 2))))), ?_⟩
    have hD0 := hD
    have hdne := hD.ne
    obtain ⟨lf, tn, lg, it, a1, a2, a3, a4, lg0, it0, lgl, itl, lf0, tn0, tnb⟩ := hD
    -- from the left part on
    have rest : ∀ (H1 : Hp), DrawB H1 d l i (b + 1) → KeepX [d, l] H H1 → (tSeq (tAsg (tOp (rI (fun _ j => 0 < j) fun i j => .int (i % j)) (tDGet (tVar 0) (tC (.str "left"))) (tVar 1)) (gName 2)) (tSeq (sDPut (tVar 0) (tC (.str "left")) (tOp (rI CDivW fun i j => .int (i / j)) (tDGet (tVar 0) (tC (.str "left"))) (tVar 1))) (tRet (tVar 2)))) { nx := fun _ H' => Q .non H', rt := Q } [some (.ref d), some (.int n), none] H1 := by
      intro H1 hD1 k1
      obtain ⟨lf, tn, lg, it, a1, a2, a3, a4, lg0, it0, lgl, itl, lf0, tn0, tnb⟩ := hD1
      have gl := (stB_get a1).2.2.1
      refine ⟨_, rfl, d, _, rfl, gl, _, rfl, _, _, rfl, rfl, n0, ?_⟩
      refine ⟨_, rfl, d, _, rfl, gl, _, rfl, _, _, rfl, rfl, wide_div n0 n1 (by decide) (by decide), _, rfl, d, _, rfl, DPut.k (k := Sum.inr "left") a1 (by show 4 < sizeLine; omega), ?_⟩
      rw [stB_left]
      refine ⟨_, rfl, k (lf % n) _ (Int.emod_nonneg _ (by omega)) (Int.emod_lt_of_pos _ n0) ⟨lf / n, tn, lg, it, upd_same, by rw [upd_ne hdne.1]; exact a2, by rw [upd_ne hdne.2.1]; exact a3, a4, lg0, it0, lgl, itl, Int.ediv_nonneg lf0 (by omega), tn0, tnb⟩ fun b u nb e => ?_⟩
      rw [upd_ne fun z => nb (by rw [z]; exact List.mem_cons_self ..)]
      exact k1 b u nb e
    have g := stB_get a1
    refine ⟨_, rfl, d, _, rfl, g.2.2.1, rfl, _, rfl, ?_⟩
    refine ite2 (fun _ => ?_) (fun _ => rest H (hD0.more (by omega)) fun _ _ _ e => e)
    refine ⟨_, rfl, d, _, rfl, g.1, by show 0 ≤ sizeLine; omega, fun e ne => ⟨_, _, .lst (SqL.of (by rw [upd_ne (ne_of_none a2 ne)]; exact a2)) (dp_ints lg), .lst (SqL.of upd_same) .nil, (ints_shaped lg).2, rfl, ?_⟩⟩
    obtain ⟨H2, e2⟩ : ∃ X, X = upd H e (.lst []) := ⟨_, rfl⟩
    have s2 : Same H H2 := e2 ▸ same_new ne
    have kx2 : KeepX [d, l] H H2 := .of_same s2
    have g2 := stB_get (s2 _ _ a1)
    rw [← e2]
    refine ⟨_, rfl, ite2 (fun t => ?_) (fun t => ?_)⟩
    · cases lg with
      | nil => cases t
      | cons z lg =>
        obtain ⟨sx, _, _, _⟩ := ixN_seq (ixN_nat (n := ((z :: lg).map V.int).length) (j := 0) (by rw [List.length_map, List.length_cons]; omega))
        refine ⟨_, rfl, d, _, rfl, g2.1, .inl ⟨rfl, _, SqL.of (s2 _ _ a2)⟩, l, _, 0, 0, _, rfl, rfl, s2 _ _ a2, by decide, by decide, sx, rfl, ?_⟩
        have hd3 : (upd H2 l (.lst (((z :: lg).map V.int).eraseIdx 0))) d = some (.dK (stB l i lf tn)) := by rw [upd_ne hdne.1.symm]; exact s2 _ _ a1
        refine ⟨_, rfl, d, _, rfl, DPut.k (k := Sum.inr "left") hd3 (by show 4 < sizeLine; omega), ?_⟩
        rw [stB_left]
        refine rest _ ⟨z, tn, lg, it, upd_same, by rw [upd_ne hdne.1, upd_same] <;> rfl, by rw [upd_ne hdne.2.1, upd_ne a4.symm]; exact s2 _ _ a3, a4, fun y hy => lg0 y (List.mem_cons_of_mem _ hy), it0, by rw [List.length_cons] at lgl; omega, itl, lg0 z (List.mem_cons_self ..), tn0, by omega⟩ fun b u nb e => ?_
        rw [upd_ne fun w => nb (by rw [w]; exact List.mem_cons_self ..), upd_ne fun w => nb (by rw [w]; simp)]
        exact s2 _ _ e
    · refine ⟨_, rfl, d, l, i, b, rfl, hD0.mono s2, bb, fun n' H3 n0' hD3 k3 => ?_⟩
      have hD3' := hD3
      obtain ⟨lf', tn', lg', it', c1, c2, c3, c4, c5, c6, c7, c8, c9, c10, c11⟩ := hD3
      refine ⟨_, rfl, d, _, rfl, DPut.k (k := Sum.inr "left") c1 (by show 4 < sizeLine; omega), ?_⟩
      rw [stB_left]
      refine rest _ ⟨n', tn', lg', it', upd_same, by rw [upd_ne hdne.1]; exact c2, by rw [upd_ne hdne.2.1]; exact c3, c4, c5, c6, c7, c8, n0', c10, c11⟩ fun b u nb e => ?_
      rw [upd_ne fun w => nb (by rw [w]; exact List.mem_cons_self ..)]
      exact k3 b u nb (s2 _ _ e)
abbrev NPk : List Str := ["_law_draw", "_law_some"]
theorem scPk : FnScope NPk ["_law_draw", "_law_some"] (defScope s__law_pick) := ⟨rfl, rfl, rfl, by decide +kernel, rfl, by decide +kernel, by decide +kernel⟩
theorem ok_pickB {f fT : Addr} {fd fdT : FuncData} (F : Fun K "_law_pick" "_law_pick" s__law_pick f fd) (T : Nm mg) (DT : Dn P w K mg base CX0 2 "_law_take" ["_law_draw", "_law_size"] spTakeB fT fdT) : FnOk P w K mg base CX0 3 f fd ["_law_draw", "_law_some"] spPickB := by
  refine F.ok scPk (fun vs H Q E h => ?_) (fun cdv A outer s H vs Q E hr h => ?_)
  · obtain ⟨d, l, i, a, b, xs, rfl, _⟩ := h
    rfl
  · obtain ⟨d, l, i, a, b, xs, rfl, hD, bb, ha, al, ne, few, k⟩ := h
    refine ⟨_, pss_one (ps_ret (pe_ix ix_list (pv 1) (pe_call DT.ok hr rfl DT.mgn DT.kp DT.bn .nil pass0 (pa_cons (pv 0) (pa_cons (pe_callB call_len_seq (by rfl) T.len PySem.boot_len (pa_cons (pv 1) pa_nil)) pa_nil))) (fun _ _ => rfl))), ?_⟩
    have ad : a ≠ d := by
      obtain ⟨lf, tn, lg, it, a1, _⟩ := hD
      exact ne_of ha a1 (by intro z; cases z)
    have l0 := List.length_pos_iff.mpr ne
    refine ⟨_, rfl, _, rfl, _, rfl, a, _, rfl, .inl (SqL.of ha), d, l, i, b, _, rfl, hD, bb, by omega, ?_, fun j H' j0 j1 hD' kx => ?_⟩
    · rw [Int.natAbs_natCast]
      exact Nat.lt_of_le_of_lt few (by decide)
    · have hj : j.toNat < xs.length := by omega
      have e : xs[j.toNat]? = some xs[j.toNat] := List.getElem?_eq_getElem hj
      have e2 := atI_nat e
      rw [show ((j.toNat : Nat) : Int) = j by omega] at e2
      exact ⟨a, xs, j, _, rfl, rfl, SqL.of (kx a _ (by simp [ad, al]) ha), e2, k _ H' (List.getElem_mem hj) hD' kx⟩
end
end FT


/-! family B: the drawn forest -/
namespace FT
open PySem L2 TL ClX LiI
/-- parents stand ahead of their children -/
def Ahead (t : List (Str × Str)) : Prop := ∀ (i : Nat) (p : Str × Str), t[i]? = some p → p.2 = "" ∨ p.2 ∈ (t.map Prod.fst).take i
def poolB : List Str := ["a", "b", "c", "ab", "new", "old", "pay", "root", "none", "x", "zzzzzzzz", "mid", "aa"]
theorem poolB_ok : (∀ z ∈ poolB, NameL z) ∧ poolB.Nodup := by decide +kernel
theorem DrawB.own {H : Hp} {d l i p : Addr} {b : Int} {u : HO} (x : DrawB H d l i b) (n : H p = none) : p ≠ d ∧ p ≠ l ∧ p ≠ i := x.apart n
theorem kx_at {d l p : Addr} {H H' : Hp} {u : HO} (k : KeepX [d, l] H H') (e : H p = some u) (n1 : p ≠ d) (n2 : p ≠ l) : H' p = some u := k p u (by simp [n1, n2]) e
theorem KeepX.trans' {Ex : List Addr} {H H1 H2 : Hp} (a : KeepX Ex H H1) (b : KeepX Ex H1 H2) : KeepX Ex H H2 := fun x u n e => b x u n (a x u n e)
theorem rep_strs (n : Nat) (a : Str) : (List.replicate n [V.str a]).flatten = (List.replicate n a).map V.str := by
  rw [List.map_replicate]
  induction n with
  | zero => rfl
  | succ n ih => rw [List.replicate_succ, List.flatten_cons, ih, List.replicate_succ] <;> rfl
theorem prs_kV (t : List (Str × Str)) : (prs t).map (fun kv => kV kv.1) = (t.map Prod.fst).map V.str := by
  unfold prs kvT
  rw [List.map_map, List.map_map, List.map_map] <;> rfl
def spForB : Sp := fun vs H Q _ => ∃ (d l i : Addr) (b mo : Int), vs = [.ref d, .int mo] ∧ 1 ≤ mo ∧ mo ≤ 12 ∧ DrawB H d l i b ∧ b + 100 ≤ 10 ^ 12 ∧
  ∀ (q : Addr) (t : List (Str × Str)) (H' : Hp), TreeOk t → Ahead t → H q = none → H' q = some (.dK (prs t)) → DrawB H' d l i (b + 100) → KeepX [d, l] H H' → Q (.ref q) H'
section
variable {P : Program} {w : World} {K : PySem.W.Frag} {mg : Str → Option Value} {base : Heap}
abbrev NFo : List Str := ["_law_draw", "_law_most", "_law_pool", "_law_parents", "_law_k", "_law_name"]
theorem scFo : FnScope NFo ["_law_draw", "_law_most"] (defScope s__law_forest) := ⟨rfl, rfl, rfl, by decide +kernel, rfl, by decide +kernel, by decide +kernel⟩
theorem ok_forestB {f fT fP : Addr} {fd fdT fdP : FuncData} (F : Fun K "_law_forest" "_law_forest" s__law_forest f fd) (T : Nm mg) (DT : Dn P w K mg base CX0 2 "_law_take" ["_law_draw", "_law_size"] spTakeB fT fdT) (DP : Dn P w K mg base CX0 3 "_law_pick" ["_law_draw", "_law_some"] spPickB fP fdP) : FnOk P w K mg base CX0 4 f fd ["_law_draw", "_law_most"] spForB := by
  refine F.ok scFo (fun vs H Q E h => ?_) (fun cdv A outer s H vs Q E hr h => ?_)
  · obtain ⟨d, l, i, b, mo, rfl, _⟩ := h
    rfl
  · obtain ⟨d, l, i, b, mo, rfl, mo1, mo12, hD, bb, k⟩ := h
    have hu := hu_of hr
    have hr2 : Room 2 _ := hr.mono (by decide)
    have nd := scFo.nd
    have big : 1000 ≤ sizeLine := by decide
    refine ⟨_, pss_cons (ps_set (i := 2) nd rfl (.inl rfl) (pe_lst (pa_cons pe_str (pa_cons pe_str (pa_cons pe_str (pa_cons pe_str (pa_cons pe_str (pa_cons pe_str (pa_cons pe_str (pa_cons pe_str (pa_cons pe_str (pa_cons pe_str (pa_cons pe_str (pa_cons pe_str (pa_cons pe_str pa_nil)))))))))))))))
      (pss_cons (ps_set (i := 3) nd rfl (.inl rfl) pe_dnewK)
      (pss_cons (ps_for PassesOwn.never rfl (pi_range1 (by rfl) T.rng (pa_cons (pe_op op_add pe_int (pe_call DT.ok hr2 rfl DT.mgn DT.kp DT.bn .nil pass0 (pa_cons (pv 0) (pa_cons (pv 1) pa_nil)))) pa_nil)) (pg_name (i := 4) nd rfl (.inl rfl))
        (pss_cons (ps_set (i := 5) nd rfl (.inl rfl) (pe_bm PySem.F.plainAttrs_list PySem.F.slot_list_pop PySem.F.type_list_pop mt_popAt (pv 2) (pa_cons (pe_call DT.ok hr2 rfl DT.mgn DT.kp DT.bn .nil pass0 (pa_cons (pv 0) (pa_cons (pe_callB call_len_seq (by rfl) T.len PySem.boot_len (pa_cons (pv 2) pa_nil)) pa_nil))) pa_nil)))
        (pss_one (ps_dput hu (pv 3) (pv 5) (pe_call DP.ok hr rfl DP.mgn DP.kp DP.bn .nil pass0 (pa_cons (pv 0) (pa_cons (pe_op op_cat (pe_op op_rep (pe_lst (pa_cons pe_str pa_nil)) (pe_call DP.ok hr rfl DP.mgn DP.kp DP.bn .nil pass0 (pa_cons (pv 0) (pa_cons (pe_lst (pa_cons pe_int (pa_cons pe_int (pa_cons pe_int pa_nil)))) pa_nil))))
            (pe_callTy (call_listD rfl) (by rfl) T.lst (by decide +kernel) (pa_cons (pv 3) pa_nil))) pa_nil))) rfl))))
      (pss_one (ps_ret (pv 3))))), ?_⟩
    refine ⟨by show 13 ≤ sizeLine; omega, fun p np => ?_⟩
    have s1 := same_new (o := .lst (poolB.map V.str)) np
    have pd := hD.apart np
    refine fun q nq => ?_
    show tSeq _ _ _ [some (.ref d), some (.int mo), some (.ref p), some (.ref q), none, none] (upd (upd H p (.lst (poolB.map V.str))) q (.dK []))
    have s2 : Same H (upd (upd H p (.lst (poolB.map V.str))) q (.dK [])) := s1.trans (same_new nq)
    have q0 : H q = none := s1.free nq
    have qd := hD.apart q0
    have qp : p ≠ q := ne_of_none upd_same nq
    obtain ⟨H1, e1⟩ : ∃ X, X = upd (upd H p (.lst (poolB.map V.str))) q (.dK []) := ⟨_, rfl⟩
    have hp1 : H1 p = some (.lst (poolB.map V.str)) := by rw [e1, upd_ne qp, upd_same]
    have hq1 : H1 q = some (.dK []) := by rw [e1, upd_same]
    rw [← e1] at s2 ⊢
    refine ⟨_, rfl, _, rfl, d, l, i, b, mo, rfl, hD.mono s2, by omega, by omega, by omega, fun c H2 c0 c1 hD2 k2 => ?_⟩
    refine ⟨_, _, rfl, rfl, 1 + c, rfl, by omega, by omega, ?_⟩
    have lc : (1 + c).toNat ≤ 12 := by omega
    have lc1 : 1 ≤ (1 + c).toNat := by omega
    refine for_it walk_range (fun j σ' H' => (∃ u4 u5, σ' = [some (.ref d), some (.int mo), some (.ref p), some (.ref q), u4, u5]) ∧ DrawB H' d l i (b + 1 + 3 * (j : Int)) ∧ KeepX [d, l] H H' ∧
      ∃ (pool : List Str) (t : List (Str × Str)), H' p = some (.lst (pool.map V.str)) ∧ pool.length + j = 13 ∧ pool.Nodup ∧ (∀ z ∈ pool, NameL z) ∧ H' q = some (.dK (prs t)) ∧ t.length = j ∧ (t.map Prod.fst).Nodup ∧ (∀ z ∈ t.map Prod.fst, NameL z ∧ z ∉ pool) ∧ Ahead t)
      ⟨⟨_, _, rfl⟩, hD2.more (by omega), (KeepX.of_same s2).trans' k2, poolB, [], kx_at k2 hp1 pd.1 pd.2.1, rfl, poolB_ok.2, poolB_ok.1, kx_at k2 hq1 qd.1 qd.2.1, rfl, List.nodup_nil, fun z h => (by cases h), fun i p h => (by simp at h)⟩ (fun _ _ _ _ _ => trivial) ?_ ?_
    · intro j y σ' Hz Ha hj ⟨⟨u4, u5, eσ⟩, da, ka, pool, t, hp, pl, pnd, pok, hq, tl, tnd, tok, ah⟩ ⟨eb, ey⟩
      subst eσ
      subst eb
      subst ey
      refine ⟨_, rfl, .inl ⟨rfl, _, SqL.of hp⟩, _, rfl, _, rfl, p, _, rfl, .inl (SqL.of hp), d, l, i, _, _, rfl, da, by omega, ?_, ?_, fun z H3 z0 z1 hD3 k3 => ?_⟩
      · rw [List.length_map]
        omega
      · rw [List.length_map, Int.natAbs_natCast]
        exact Nat.lt_of_le_of_lt (show pool.length ≤ 1000 by omega) (by decide)
      · rw [List.length_map] at z1
        have zj : z.toNat < pool.length := by omega
        obtain ⟨sx, _, _, _⟩ := ixN_seq (ixN_nat (n := (pool.map V.str).length) (j := z.toNat) (by rw [List.length_map]; exact zj))
        rw [show ((z.toNat : Nat) : Int) = z by omega] at sx
        have pn := pd
        have hp3 := kx_at k3 hp pd.1 pd.2.1
        have hq3 := kx_at k3 hq qd.1 qd.2.1
        have em : (pool.map V.str)[z.toNat]? = some (V.str pool[z.toNat]) := by rw [List.getElem?_map, List.getElem?_eq_getElem zj] <;> rfl
        obtain ⟨f, ef⟩ : ∃ f, f = pool[z.toNat] := ⟨_, rfl⟩
        rw [← ef] at em
        have pm := erase_perm pool z.toNat zj
        rw [← ef] at pm
        obtain ⟨fn, nd2⟩ := List.nodup_cons.mp (pm.nodup_iff.mpr pnd)
        have fp : f ∈ pool := pm.mem_iff.mp (List.mem_cons_self ..)
        have sub : ∀ z' ∈ pool.eraseIdx z.toNat, z' ∈ pool := fun z' h => pm.mem_iff.mp (List.mem_cons_of_mem _ h)
        have le := pm.length_eq
        rw [List.length_cons] at le
        refine ⟨p, _, z, _, _, rfl, rfl, hp3, by omega, by omega, sx, em, ?_⟩
        rw [map_erase]
        obtain ⟨H4, e4⟩ : ∃ X, X = upd H3 p (.lst ((pool.eraseIdx z.toNat).map V.str)) := ⟨_, rfl⟩
        have np0 : H p = none := np
        have hD4 : DrawB H4 d l i (b + 1 + 3 * (j : Int) + 1) := by rw [e4]; exact hD3.off pd.1 pd.2.1 pd.2.2
        have k4 : KeepX [d, l] H H4 := by rw [e4]; exact kx_put (ka.trans' k3) np0
        have hp4 : H4 p = some (.lst ((pool.eraseIdx z.toNat).map V.str)) := by rw [e4, upd_same]
        have hq4 : H4 q = some (.dK (prs t)) := by rw [e4, upd_ne qp.symm]; exact hq3
        rw [← e4]
        have fresh : f ∉ t.map Prod.fst := fun h => (tok f h).2 fp
        -- the drawn parent
        refine ⟨_, rfl, by show 1 ≤ sizeLine; omega, fun p1 m1 => ?_⟩
        refine ⟨_, rfl, by show 3 ≤ sizeLine; omega, fun p2 m2 => ?_⟩
        obtain ⟨H5, e5⟩ : ∃ X, X = upd (upd H4 p1 (.lst [.str ""])) p2 (.lst (([1, 1, 4] : List Int).map V.int)) := ⟨_, rfl⟩
        have s5 : Same H4 H5 := e5 ▸ (same_new m1).trans (same_new m2)
        have p1d := hD4.apart m1
        have p2d := (hD4.mono (same_new m1)).apart m2
        have hp1 : H5 p1 = some (.lst [.str ""]) := by rw [e5]; exact same_new m2 _ _ upd_same
        have hp2 : H5 p2 = some (.lst (([1, 1, 4] : List Int).map V.int)) := by rw [e5, upd_same]
        subst e5
        refine ⟨d, l, i, p2, _, _, rfl, hD4.mono s5, by omega, hp2, p2d.2.1, (fun z => by cases z), by decide, fun x H6 xm hD6 k6 => ?_⟩
        obtain ⟨c', hc, rfl⟩ := List.mem_map.mp xm
        have cb : 0 ≤ c' ∧ c' ≤ 4 := by
          have : ∀ c' ∈ ([1, 1, 4] : List Int), 0 ≤ c' ∧ c' ≤ 4 := by decide
          exact this c' hc
        refine ⟨p1, c', _, rfl, rfl, kx_at k6 hp1 p1d.1 p1d.2.1, by omega, by omega, ?_, fun p3 m3 => ?_⟩
        · show 1 * c'.toNat ≤ sizeLine
          omega
        rw [rep_strs]
        have hq6 := kx_at k6 (s5 _ _ hq4) qd.1 qd.2.1
        have n3 := same_new (o := .lst ((List.replicate c'.toNat ("" : Str)).map V.str)) m3
        refine ⟨_, rfl, q, prs t, rfl, .inl (n3 _ _ hq6), fun p4 m4 => ?_⟩
        rw [prs_kV]
        have n4 := same_new (o := .lst ((t.map Prod.fst).map V.str)) m4
        refine ⟨p3, p4, _, _, rfl, rfl, n4 _ _ upd_same, upd_same, ?_, fun p5 m5 => ?_⟩
        · rw [List.length_map, List.length_map, List.length_map, List.length_replicate]
          omega
        rw [← List.map_append]
        obtain ⟨ws, ews⟩ : ∃ ws, ws = List.replicate c'.toNat ("" : Str) ++ t.map Prod.fst := ⟨_, rfl⟩
        rw [← ews]
        have n5 := same_new (o := .lst (ws.map V.str)) m5
        obtain ⟨H7, e7⟩ : ∃ X, X = upd (upd (upd H6 p3 (.lst ((List.replicate c'.toNat ("" : Str)).map V.str))) p4 (.lst ((t.map Prod.fst).map V.str))) p5 (.lst (ws.map V.str)) := ⟨_, rfl⟩
        have s7 : Same H6 H7 := e7 ▸ (n3.trans n4).trans n5
        have p5d := ((hD6.mono n3).mono n4).apart m5
        have hp5 : H7 p5 = some (.lst (ws.map V.str)) := by rw [e7, upd_same]
        rw [← e7]
        refine ⟨d, l, i, p5, _, _, rfl, hD6.mono s7, by omega, hp5, p5d.2.1, ?_, ?_, fun x H8 xm hD8 k8 => ?_⟩
        · intro e
          have e := congrArg List.length e
          rw [ews, List.length_map, List.length_append, List.length_replicate] at e
          have c1 : 1 ≤ c' := by
            have : ∀ c' ∈ ([1, 1, 4] : List Int), 1 ≤ c' := by decide
            exact this c' hc
          have e : c'.toNat + (t.map Prod.fst).length = 0 := e
          omega
        · rw [ews, List.length_map, List.length_append, List.length_replicate, List.length_map]
          omega
        obtain ⟨g, hg, rfl⟩ := List.mem_map.mp xm
        have hq8 := kx_at k8 (s7 _ _ hq6) qd.1 qd.2.1
        refine ⟨_, rfl, _, rfl, q, _, rfl, DPut.k (k := Sum.inr f) hq8 (by rw [prs_len]; omega), ?_⟩
        rw [put_new fresh]
        have gg : g = "" ∨ g ∈ t.map Prod.fst := by
          rw [ews] at hg
          rcases List.mem_append.mp hg with h | h
          · exact .inl (List.eq_of_mem_replicate h)
          · exact .inr h
        have k8' : KeepX [d, l] H H8 := ((k4.trans' (.of_same s5)).trans' k6).trans' ((KeepX.of_same s7).trans' k8)
        have hp8 := kx_at k8 (s7 _ _ (kx_at k6 (s5 _ _ hp4) pd.1 pd.2.1)) pd.1 pd.2.1
        refine ⟨⟨_, _, rfl⟩, (hD8.off qd.1 qd.2.1 qd.2.2).more (by omega), kx_put k8' q0, pool.eraseIdx z.toNat, t ++ [(f, g)], by rw [upd_ne qp]; exact hp8, by omega, nd2, fun z' h => pok z' (sub z' h), upd_same, by rw [List.length_append, tl] <;> rfl, ?_, ?_, ?_⟩
        · rw [List.map_append]
          refine List.nodup_append.mpr ⟨tnd, by show [f].Nodup; simp, fun a ha b hb => ?_⟩
          rw [List.mem_singleton.mp (show b ∈ [f] from hb)]
          exact fun e => fresh (e ▸ ha)
        · intro z' h
          rw [List.map_append] at h
          rcases List.mem_append.mp h with h | h
          · exact ⟨(tok z' h).1, fun m => (tok z' h).2 (sub z' m)⟩
          · rw [List.mem_singleton.mp (show z' ∈ [f] from h)]
            exact ⟨pok f fp, fn⟩
        · intro i p h
          rw [List.map_append]
          by_cases hi : i < t.length
          · rw [List.getElem?_append_left hi] at h
            rw [List.take_append_of_le_length (by rw [List.length_map]; omega)]
            exact ah i p h
          · have hl := (List.getElem?_eq_some_iff.mp h).1
            rw [List.length_append] at hl
            have one : ([(f, g)] : List (Str × Str)).length = 1 := rfl
            have ei : i = t.length := by omega
            subst ei
            rw [List.getElem?_append_right (Nat.le_refl _), Nat.sub_self] at h
            have ep : (f, g) = p := Option.some.inj h
            subst ep
            rw [List.take_append_of_le_length (by rw [List.length_map]; omega), List.take_of_length_le (by rw [List.length_map]; omega)]
            exact gg
    · intro σ' H3 ⟨⟨u4, u5, eσ⟩, da, ka, pool, t, hp, pl, pnd, pok, hq, tl, tnd, tok, ah⟩
      subst eσ
      refine ⟨_, rfl, k q t H3 (tree_of (by omega) (by omega) tnd (fun z h => (tok z h).1) ah) ah q0 hq (da.more (by omega)) ka⟩
end
end FT


/-! feasible sizes, dealt out name by name (plain maths) -/
namespace FT
open PySem L2 TL ClX
/-! ### sizes that are drawn -/
theorem szOf_tbl {l : List Str} {sz : Str → Int} {a : Str} (h : a ∈ l) : szOf (tblI l sz) a = sz a := by
  unfold szOf
  rw [tblI_val h]
theorem kids_sub {t : List (Str × Str)} {p a : Str} (h : a ∈ kids t p) : a ∈ t.map Prod.fst := by
  obtain ⟨q, hq, rfl⟩ := List.mem_map.mp h
  exact List.mem_map.mpr ⟨q, (List.mem_filter.mp hq).1, rfl⟩
theorem resid_congr {t : List (Str × Str)} {n : Int} {sz sz' : Str → Int} {p : Str} (h : ∀ a ∈ t.map Prod.fst, sz a = sz' a) (hp : p = "" ∨ sz p = sz' p) : resid t n sz p = resid t n sz' p := by
  unfold resid
  rw [List.map_congr_left fun a ha => h a (kids_sub ha)]
  by_cases e : p = ""
  · rw [if_pos e, if_pos e]
  · rw [if_neg e, if_neg e, hp.resolve_left e]
/-- feasible sizes for n users -/
structure Fea (t : List (Str × Str)) (n : Int) (sz : Str → Int) : Prop where
  nn : ∀ a ∈ t.map Prod.fst, 0 ≤ sz a
  res : ∀ p ∈ (("" : Str) :: t.map Prod.fst), 0 ≤ resid t n sz p
theorem Fea.perm {t u : List (Str × Str)} {n : Int} {sz : Str → Int} (p : t.Perm u) (f : Fea t n sz) : Fea u n sz :=
  ⟨fun a ha => f.nn a ((p.map _).mem_iff.mpr ha), fun q hq => by rw [← resid_perm p]; exact f.res q ((List.mem_cons.mp hq).elim (fun e => e ▸ List.mem_cons_self ..) fun m => List.mem_cons_of_mem _ ((p.map Prod.fst).mem_iff.mpr m))⟩
theorem Fea.ok {CS : Addr} {ts : List (Str × Str)} {n : Int} {sz : Str → Int} {l : List Str} (f : Fea ts n sz) (p : l.Perm (ts.map Prod.fst)) : feE CS ts n (some (tblI l sz)) = none := by
  have e1 : ∀ a ∈ ts.map Prod.fst, valV (tblI l sz) (Sum.inr a) = some (.int (sz a)) := fun a ha => tblI_val (p.mem_iff.mpr ha)
  have ll := p.length_eq
  rw [List.length_map] at ll
  unfold feE
  rw [feas_some, if_neg (by rw [tblI_len]; exact fun z => z ll), if_neg]
  · have e2 : (ts.map Prod.fst).find? (badKey (tblI l sz)) = none := List.find?_eq_none.mpr fun a ha z => by
      unfold badKey at z
      rw [e1 a ha] at z
      have z' : (!decide ((0 : Int) ≤ sz a)) = true := z
      rw [decide_eq_true (f.nn a ha)] at z'
      cases z'
    rw [e2]
    have e3 : ((("" : Str) :: ts.map Prod.fst).find? fun p => decide (resid ts n (szOf (tblI l sz)) p < 0)) = none := List.find?_eq_none.mpr fun q hq z => by
      have z' := of_decide_eq_true z
      rw [resid_congr (sz' := sz) (fun a ha => szOf_tbl (p.mem_iff.mpr ha)) ((List.mem_cons.mp hq).imp id fun h => szOf_tbl (p.mem_iff.mpr h))] at z'
      have := f.res q hq
      omega
    show Option.map _ (Option.map V.str (List.find? _ _)) = none
    rw [e3] <;> rfl
  · intro z
    have : ((ts.map Prod.fst).all fun a => (valV (tblI l sz) (Sum.inr a)).isSome) = true := List.all_eq_true.mpr fun a ha => by rw [e1 a ha] <;> rfl
    rw [this] at z
    cases z
/-- what has been dealt out -/
structure Dealt (t : List (Str × Str)) (n : Int) (l : List Str) (t' : List (Str × Str)) (sz : Str → Int) : Prop where
  keys : t'.map Prod.fst = l
  sub : ∀ p ∈ t', p ∈ t
  par_ : ∀ p ∈ t', p.2 = "" ∨ p.2 ∈ l
  nn : ∀ a ∈ l, 0 ≤ sz a
  res : ∀ p ∈ (("" : Str) :: l), 0 ≤ resid t' n sz p
  top_ : ∀ p ∈ (("" : Str) :: l), resid t' n sz p ≤ n
theorem Dealt.nil {t : List (Str × Str)} {n : Int} {sz : Str → Int} (n0 : 0 ≤ n) : Dealt t n [] [] sz := by
  refine ⟨rfl, fun p h => (by cases h), fun p h => (by cases h), fun a h => (by cases h), fun p h => ?_, fun p h => ?_⟩
  · rw [List.mem_singleton.mp h]
    show 0 ≤ n - 0
    omega
  · rw [List.mem_singleton.mp h]
    show n - 0 ≤ n
    omega
theorem Dealt.step {t t' : List (Str × Str)} {n : Int} {l : List Str} {sz : Str → Int} (d : Dealt t n l t' sz) {a pa : Str} {z : Int} (na : a ∉ l) (ne : a ≠ "") (mt : (a, pa) ∈ t) (mp : pa = "" ∨ pa ∈ l) (z0 : 0 ≤ z) (z1 : z ≤ resid t' n sz pa) :
    Dealt t n (l ++ [a]) (t' ++ [(a, pa)]) (fun x => if x = a then z else sz x) ∧
    (∀ p ∈ (("" : Str) :: (l ++ [a])), resid (t' ++ [(a, pa)]) n (fun x => if x = a then z else sz x) p = if p = pa then resid t' n sz pa - z else if p = a then z else resid t' n sz p) := by
  have kid : kids t' a = [] := by
    unfold kids
    rw [List.filter_eq_nil_iff.mpr fun q hq z => ?_] <;> try rfl
    have e := of_decide_eq_true z
    rcases d.par_ q hq with h | h
    · exact ne (e.symm.trans h)
    · exact na (by rw [← e]; exact h)
  have pne : pa ≠ a := fun e => mp.elim (fun h => ne (e.symm.trans h)) fun h => na (by rw [← e]; exact h)
  have old : ∀ p, p ≠ a → resid t' n (fun x => if x = a then z else sz x) p = resid t' n sz p := fun p hp =>
    resid_congr (fun x hx => if_neg fun e => na (by rw [← e, ← d.keys]; exact hx)) (.inr (if_neg hp))
  have eq : ∀ p ∈ (("" : Str) :: (l ++ [a])), resid (t' ++ [(a, pa)]) n (fun x => if x = a then z else sz x) p = if p = pa then resid t' n sz pa - z else if p = a then z else resid t' n sz p := fun p _ => by
    rw [resid_snoc]
    by_cases h1 : p = pa
    · rw [if_pos h1.symm, if_pos h1, old p (by rw [h1]; exact pne), h1]
      show _ - (if a = a then z else sz a) = _
      rw [if_pos rfl]
    · rw [if_neg (fun e => h1 e.symm), if_neg h1]
      by_cases h2 : p = a
      · rw [if_pos h2, h2]
        unfold resid
        rw [kid, if_neg ne]
        show (if a = a then z else sz a) - 0 = z
        rw [if_pos rfl]
        omega
      · rw [if_neg h2, old p h2]
  refine ⟨⟨by rw [List.map_append, d.keys] <;> rfl, fun p hp => ?_, fun p hp => ?_, fun x hx => ?_, fun p hp => ?_, fun p hp => ?_⟩, eq⟩
  · rcases List.mem_append.mp hp with h | h
    · exact d.sub p h
    · rw [List.mem_singleton.mp h]
      exact mt
  · rcases List.mem_append.mp hp with h | h
    · exact (d.par_ p h).imp id fun m => List.mem_append_left _ m
    · rw [List.mem_singleton.mp h]
      exact mp.imp id fun m => List.mem_append_left _ m
  · show 0 ≤ if x = a then z else sz x
    by_cases e : x = a
    · rw [if_pos e]
      exact z0
    · rw [if_neg e]
      exact d.nn x ((List.mem_append.mp hx).resolve_right fun m => e (List.mem_singleton.mp m))
  · rw [eq p hp]
    by_cases h1 : p = pa
    · rw [if_pos h1]
      omega
    · rw [if_neg h1]
      by_cases h2 : p = a
      · rw [if_pos h2]
        exact z0
      · rw [if_neg h2]
        refine d.res p ((List.mem_cons.mp hp).elim (fun e => e ▸ List.mem_cons_self ..) fun m => List.mem_cons_of_mem _ ?_)
        exact (List.mem_append.mp m).resolve_right fun m => h2 (List.mem_singleton.mp m)
  · rw [eq p hp]
    have tp := d.top_ pa (List.mem_cons.mpr mp)
    by_cases h1 : p = pa
    · rw [if_pos h1]
      omega
    · rw [if_neg h1]
      by_cases h2 : p = a
      · rw [if_pos h2]
        omega
      · rw [if_neg h2]
        refine d.top_ p ((List.mem_cons.mp hp).elim (fun e => e ▸ List.mem_cons_self ..) fun m => List.mem_cons_of_mem _ ?_)
        exact (List.mem_append.mp m).resolve_right fun m => h2 (List.mem_singleton.mp m)
end FT


/-! family B: sizes that are drawn -/
namespace FT
open PySem L2 TL ClX LiI
def spSizesB : Sp := fun vs H Q _ => ∃ (d l i q : Addr) (b n : Int) (t : List (Str × Str)), vs = [.ref d, .ref q, .int n] ∧ DrawB H d l i b ∧ b + 100 ≤ 10 ^ 12 ∧ H q = some (.dK (prs t)) ∧ TreeOk t ∧ Ahead t ∧ 0 ≤ n ∧ n ≤ 10 ^ 30 ∧
  ∀ (p : Addr) (sz : Str → Int) (H' : Hp), Fea t n sz → H p = none → H' p = some (.dK (tblI (t.map Prod.fst) sz)) → DrawB H' d l i (b + 100) → KeepX [d, l] H H' → Q (.ref p) H'
theorem DrawB.off_prs {H : Hp} {d l i q : Addr} {b : Int} {t : List (Str × Str)} (x : DrawB H d l i b) (hq : H q = some (.dK (prs t))) : q ≠ d ∧ q ≠ l ∧ q ≠ i := by
  obtain ⟨lf, tn, lg, it, a1, a2, a3, _⟩ := x
  refine ⟨ne_of hq a1 fun z => ?_, ne_of hq a2 (by intro z; cases z), ne_of hq a3 (by intro z; cases z)⟩
  have z := congrArg List.head? (HO.dK.inj z)
  cases t with
  | nil => cases z
  | cons y t =>
    have z := congrArg Prod.snd (Option.some.inj z)
    cases z
section
variable {P : Program} {w : World} {K : PySem.W.Frag} {mg : Str → Option Value} {base : Heap}
abbrev NSb : List Str := ["_law_draw", "_law_parents", "_law_folk", "_law_wide", "_law_left", "_law_name", "_law_above", "_law_size"]
theorem scSb : FnScope NSb ["_law_draw", "_law_parents", "_law_folk"] (defScope s__law_sizes) := ⟨rfl, rfl, rfl, by decide +kernel, rfl, by decide +kernel, by decide +kernel⟩
theorem ok_sizesB {f fT fP : Addr} {fd fdT fdP : FuncData} (F : Fun K "_law_sizes" "_law_sizes" s__law_sizes f fd) (T : Nm mg) (DT : Dn P w K mg base CX0 2 "_law_take" ["_law_draw", "_law_size"] spTakeB fT fdT) (DP : Dn P w K mg base CX0 3 "_law_pick" ["_law_draw", "_law_some"] spPickB fP fdP) : FnOk P w K mg base CX0 4 f fd ["_law_draw", "_law_parents", "_law_folk"] spSizesB := by
  refine F.ok scSb (fun vs H Q E h => ?_) (fun cdv A outer s H vs Q E hr h => ?_)
  · obtain ⟨d, l, i, q, b, n, t, rfl, _⟩ := h
    rfl
  · obtain ⟨d, l, i, q, b, n, t, rfl, hD, bb, hq, o, ah, n0, n60, k⟩ := h
    have hu := hu_of hr
    have hr2 : Room 2 _ := hr.mono (by decide)
    have nd := scSb.nd
    have big : 1000 ≤ sizeLine := by decide
    have few := o.few
    refine ⟨_, pss_cons (ps_par (i := 3) (j := 4) rfl nd rfl rfl (by decide) rfl rfl (pa_cons pe_dnewK (pa_cons (pe_disp (pps_cons pe_str (pv 2) pps_nil) (by rfl) (by rfl) (fun z => by cases z) (by decide)) pa_nil)) (by rfl))
      (pss_cons (ps_lock (ps_for PassesOwn.never rfl (pi_keys (pv 1)) (pg_name (i := 5) nd rfl (.inl rfl))
        (pss_cons (ps_set (i := 6) nd rfl (.inl rfl) (pe_dget hu (pv 1) (pv 5) (fun _ _ => rfl)))
        (pss_cons (ps_set (i := 7) nd rfl (.inl rfl) (pe_call DP.ok hr rfl DP.mgn DP.kp DP.bn .nil pass0 (pa_cons (pv 0) (pa_cons (pe_lst (pa_cons pe_int (pa_cons (pe_dget hu (pv 4) (pv 6) (fun _ _ => rfl))
          (pa_cons (pe_call DT.ok hr2 rfl DT.mgn DT.kp DT.bn .nil pass0 (pa_cons (pv 0) (pa_cons (pe_op op_add (pe_dget hu (pv 4) (pv 6) (fun _ _ => rfl)) pe_int) pa_nil)))
          (pa_cons (pe_call DT.ok hr2 rfl DT.mgn DT.kp DT.bn .nil pass0 (pa_cons (pv 0) (pa_cons (pe_op op_add (pe_dget hu (pv 4) (pv 6) (fun _ _ => rfl)) pe_int) pa_nil))) pa_nil))))) pa_nil))))
        (pss_cons (ps_dput hu (pv 3) (pv 5) (pv 7) rfl)
        (pss_cons (ps_dput hu (pv 4) (pv 6) (pe_op op_sub (pe_dget hu (pv 4) (pv 6) (fun _ _ => rfl)) (pv 7)) rfl)
        (pss_one (ps_dput hu (pv 4) (pv 5) (pv 7) rfl))))))))
      (pss_one (ps_ret (pv 3)))), ?_⟩
    refine fun qf nqf ql nql => ⟨_, rfl, upd_same, [(Sum.inr "", V.int n)], rfl, by show 1 ≤ 15; omega, _, _, rfl, ?_⟩
    have qfl : qf ≠ ql := ne_of_none upd_same nql
    obtain ⟨H3, e3⟩ : ∃ X, X = upd (upd (upd H qf (.dK [])) ql (.dK [])) ql (.dK (mergeK [] [(Sum.inr "", V.int n)])) := ⟨_, rfl⟩
    have nql0 : H ql = none := by rw [upd_ne qfl.symm] at nql; exact nql
    have s03 : Same H H3 := e3 ▸ ((same_new nqf).put nql0).put nql0
    have hf3 : H3 qf = some (.dK (tblI [] fun _ => 0)) := by
      rw [e3, upd_ne qfl, upd_ne qfl, upd_same] <;> rfl
    have hl3 : H3 ql = some (.dK (tblI [""] (resid [] n fun _ => 0))) := by
      rw [e3, upd_same]
      show some (HO.dK [(Sum.inr "", V.int n)]) = some (HO.dK [(Sum.inr "", V.int (n - 0))])
      rw [Int.sub_zero]
    have dr3 := hD.mono s03
    have qfd := hD.apart nqf
    have qld := hD.apart nql0
    have qqf : q ≠ qf := ne_of_none hq nqf
    have qql : q ≠ ql := ne_of_none hq nql0
    have qd := hD.off_prs hq
    have hq3 := s03 _ _ hq
    rw [← e3]
    refine ⟨q, _, hq3, trivial, fun od => ⟨_, rfl, q, od, rfl, .inl ⟨_, upd_same, ?_⟩⟩⟩
    obtain ⟨H4, e4⟩ : ∃ X, X = upd H3 q (.frz od (.dK (prs t))) := ⟨_, rfl⟩
    have hq4 : H4 q = some (.frz od (.dK (prs t))) := by rw [e4, upd_same]
    have hf4 : H4 qf = some (.dK (tblI [] fun _ => 0)) := by rw [e4, upd_ne qqf.symm]; exact hf3
    have hl4 : H4 ql = some (.dK (tblI [""] (resid [] n fun _ => 0))) := by rw [e4, upd_ne qql.symm]; exact hl3
    have dr4 : DrawB H4 d l i b := by rw [e4]; exact dr3.off qd.1 qd.2.1 qd.2.2
    have k4 : ∀ x u, x ≠ q → x ∉ [d, l] → H x = some u → H4 x = some u := fun x u nq _ e => by rw [e4, upd_ne nq]; exact s03 _ _ e
    rw [← e4]
    refine for_it walk_keys (fun j σ' H' => (∃ u5 u6 u7, σ' = [some (.ref d), some (.ref q), some (.int n), some (.ref qf), some (.ref ql), u5, u6, u7]) ∧ DrawB H' d l i (b + 3 * (j : Int)) ∧ H' q = some (.frz od (.dK (prs t))) ∧ (∀ x u, x ≠ q → x ∉ [d, l] → H x = some u → H' x = some u) ∧
      ∃ sz : Str → Int, Dealt t n ((t.map Prod.fst).take j) (t.take j) sz ∧ H' qf = some (.dK (tblI ((t.map Prod.fst).take j) sz)) ∧ H' ql = some (.dK (tblI ("" :: (t.map Prod.fst).take j) (resid (t.take j) n sz))))
      ⟨⟨_, _, _, rfl⟩, dr4.more (by omega), hq4, k4, (fun _ => 0), Dealt.nil n0, hf4, hl4⟩ (fun j σ' H' _ z => z.2.2.1) ?_ ?_
    · intro j y σ' Hz Hb hj ⟨⟨u5, u6, u7, e⟩, da, aqa, ka, sz, dl, hfa, hla⟩ ⟨eb, kk, vv, hk, ey⟩
      subst e
      subst eb
      subst ey
      obtain ⟨⟨a, pa⟩, hp, ee⟩ : ∃ x : Str × Str, t[j]? = some x ∧ (kk, vv) = (Sum.inr x.1, V.str x.2) := by
        unfold prs kvT at hk
        rw [List.map_map, List.getElem?_map] at hk
        obtain ⟨x, hx, z⟩ := Option.map_eq_some_iff.mp hk
        exact ⟨x, hx, z.symm⟩
      cases ee
      rw [show kV (Sum.inr a) = V.str a from rfl]
      have mp := List.mem_of_getElem? hp
      have ma : a ∈ t.map Prod.fst := List.mem_map.mpr ⟨_, mp, rfl⟩
      have hja : (t.map Prod.fst)[j]? = some a := by rw [List.getElem?_map, hp] <;> rfl
      have hpa := par_of o.nd mp
      have jl := (List.getElem?_eq_some_iff.mp hp).1
      have anr : a ≠ "" := fun z => o.root (by rw [← z]; exact ma)
      have fresh : a ∉ (t.map Prod.fst).take j := nat_fresh o.nd hja
      have mpa : pa = "" ∨ pa ∈ (t.map Prod.fst).take j := ah j _ hp
      have mpl : pa ∈ (("" : Str) :: (t.map Prod.fst).take j) := List.mem_cons.mpr mpa
      obtain ⟨m, em⟩ : ∃ m, m = resid (t.take j) n sz pa := ⟨_, rfl⟩
      have m0 : 0 ≤ m := by rw [em]; exact dl.res pa mpl
      have mn : m ≤ 10 ^ 30 := by
        have := dl.top_ pa mpl
        omega
      have lkeep : ((t.map Prod.fst).take j).length = j := by rw [List.length_take, List.length_map]; omega
      have dgp : DGet Hb q (.str a) (some (.str pa)) := .inl ⟨_, Sum.inr a, .inr ⟨od, aqa⟩, rfl, by rw [val_prs, hpa] <;> rfl⟩
      have gl : ∀ {H'}, H' ql = some (.dK (tblI ("" :: (t.map Prod.fst).take j) (resid (t.take j) n sz))) → DGet H' ql (.str pa) (some (.int m)) := fun {H'} h => by
        have z := DGet.k (k := Sum.inr pa) h
        rw [tblI_val mpl, ← em] at z
        exact z
      have bnd : (m + 1).natAbs < 2 ^ 200 := by omega
      refine ⟨_, rfl, _, rfl, q, .str pa, rfl, dgp, ?_⟩
      refine ⟨_, rfl, _, rfl, _, rfl, ql, _, rfl, gl hla, ?_⟩
      refine ⟨_, rfl, _, rfl, _, rfl, ql, _, rfl, gl hla, _, _, rfl, rfl, d, l, i, _, m + 1, rfl, da, by omega, by omega, bnd, fun k1 H7 k10 k11 d7 kp7 => ?_⟩
      have hf7 := kx_at kp7 hfa qfd.1 qfd.2.1
      have hl7 := kx_at kp7 hla qld.1 qld.2.1
      have hq7 := kx_at kp7 aqa qd.1 qd.2.1
      refine ⟨_, rfl, _, rfl, _, rfl, ql, _, rfl, gl hl7, _, _, rfl, rfl, d, l, i, _, m + 1, rfl, d7, by omega, by omega, bnd, fun k2 H8 k20 k21 d8 kp8 => ?_⟩
      have hf8 := kx_at kp8 hf7 qfd.1 qfd.2.1
      have hl8 := kx_at kp8 hl7 qld.1 qld.2.1
      have hq8 := kx_at kp8 hq7 qd.1 qd.2.1
      refine ⟨by show 4 ≤ sizeLine; omega, fun pl npl => ?_⟩
      have pld := d8.apart npl
      have s8 := same_new (o := .lst (([0, m, k1, k2] : List Int).map V.int)) npl
      refine ⟨d, l, i, pl, _, ([0, m, k1, k2] : List Int).map V.int, rfl, d8.mono s8, by omega, upd_same, pld.2.1, (fun z => by cases z), by show 4 ≤ 1000; decide, fun x H9 xm d9 k9 => ?_⟩
      obtain ⟨z, hz, rfl⟩ := List.mem_map.mp xm
      have zb : 0 ≤ z ∧ z ≤ m := by
        simp only [List.mem_cons, List.not_mem_nil, or_false] at hz
        rcases hz with rfl | rfl | rfl | rfl <;> omega
      obtain ⟨z0, z1⟩ := zb
      have hf9 := kx_at k9 (s8 _ _ hf8) qfd.1 qfd.2.1
      have hl9 := kx_at k9 (s8 _ _ hl8) qld.1 qld.2.1
      have hq9 := kx_at k9 (s8 _ _ hq8) qd.1 qd.2.1
      have ka9 : ∀ x u, x ≠ q → x ∉ [d, l] → H x = some u → H9 x = some u := fun x u nq nx e => k9 _ _ nx (s8 _ _ (kp8 _ _ nx (kp7 _ _ nx (ka x u nq nx e))))
      obtain ⟨dl', req⟩ := dl.step fresh anr mp mpa z0 (by rw [← em]; exact z1)
      refine ⟨_, rfl, _, rfl, _, rfl, qf, _, rfl, DPut.k (k := Sum.inr a) hf9 (by rw [tblI_len, lkeep]; omega), ?_⟩
      rw [tblI_congr (g' := fun x => if x = a then z else sz x) (fun b hb => (if_neg fun e => fresh (by rw [← e]; exact hb)).symm), tblI_snoc (g := fun x => if x = a then z else sz x) fresh (if_pos rfl).symm, ← take_more hja]
      obtain ⟨H10, e10⟩ : ∃ X, X = upd H9 qf (.dK (tblI ((t.map Prod.fst).take (j + 1)) fun x => if x = a then z else sz x)) := ⟨_, rfl⟩
      have hl10 : H10 ql = some (.dK (tblI ("" :: (t.map Prod.fst).take j) (resid (t.take j) n sz))) := by rw [e10, upd_ne qfl.symm]; exact hl9
      rw [← e10]
      refine ⟨_, rfl, _, rfl, ql, _, rfl, gl hl10, _, rfl, _, _, rfl, rfl, _, rfl, _, rfl, ql, _, rfl, DPut.k (k := Sum.inr pa) hl10 (by rw [tblI_len, List.length_cons, lkeep]; omega), ?_⟩
      rw [tblI_put mpl]
      refine ⟨_, rfl, _, rfl, _, rfl, ql, _, rfl, DPut.k (k := Sum.inr a) upd_same (by rw [tblI_len, List.length_cons, lkeep]; omega), ?_⟩
      rw [upd_upd]
      have nin : a ∉ (("" : Str) :: (t.map Prod.fst).take j) := fun h => (List.mem_cons.mp h).elim anr fresh
      obtain ⟨g, eg⟩ : ∃ g : Str → Int, g = fun p => if p = pa then m - z else if p = a then z else resid (t.take j) n sz p := ⟨_, rfl⟩
      have pne : a ≠ pa := fun e => nin (by rw [e]; exact mpl)
      rw [tblI_congr (l := "" :: (t.map Prod.fst).take j) (g' := g) (fun b hb => by
        rw [eg]
        show (if b = pa then _ else _) = if b = pa then _ else if b = a then _ else _
        rw [if_neg (show ¬ b = a from fun e => nin (by rw [← e]; exact hb))]), tblI_snoc (g := g) nin (by rw [eg]; show z = if a = pa then _ else if a = a then z else _; rw [if_neg pne, if_pos rfl]), List.cons_append, ← take_more hja]
      refine ⟨⟨_, _, _, rfl⟩, ?_, ?_, fun x u nq nx e => ?_, (fun x => if x = a then z else sz x), by rw [take_more hja, take_more hp]; exact dl', ?_, ?_⟩
      · rw [e10]
        exact ((d9.off qfd.1 qfd.2.1 qfd.2.2).off qld.1 qld.2.1 qld.2.2).more (by omega)
      · rw [upd_ne qql, e10, upd_ne qqf]
        exact hq9
      · rw [upd_ne (ne_of_none e nql0), e10, upd_ne (ne_of_none e nqf)]
        exact ka9 x u nq nx e
      · rw [upd_ne qfl, e10, upd_same]
      · rw [upd_same]
        congr 2
        refine tblI_congr fun b hb => ?_
        rw [take_more hja] at hb
        rw [take_more hp, req b hb, eg, em]
    · intro σ' H7 ⟨⟨u5, u6, u7, e⟩, da, aqa, ka, sz, dl, hfa, hla⟩
      subst e
      rw [prs_len] at da
      rw [show (prs t).length = (t.map Prod.fst).length by rw [prs_len, List.length_map], List.take_length, List.length_map, List.take_length] at dl
      rw [show (prs t).length = (t.map Prod.fst).length by rw [prs_len, List.length_map], List.take_length] at hfa
      have fe : Fea t n sz := ⟨fun a ha => dl.nn a ha, fun p hp => dl.res p hp⟩
      have nqq : H7 q = some (.frz od (.dK (prs t))) := aqa
      refine ⟨aqa, _, rfl, k qf sz _ fe nqf (by rw [upd_ne qqf.symm]; exact hfa) ((da.off qd.1 qd.2.1 qd.2.2).more (by omega)) fun x u nx e => ?_⟩
      by_cases z : x = q
      · subst z
        rw [hq] at e
        rw [upd_same]
        exact e
      · rw [upd_ne z]
        exact ka x u z nx e
end
end FT


/-! what stands while a law draws and a rollout changes -/
namespace FT
open PySem L2 TL ClX LiI
theorem DrawB.off_ins {H : Hp} {d l i x C dx : Addr} {b : Int} {fs : List (Str × V)} (w : DrawB H d l i b) (hx : H x = some (.ins C dx fs)) : x ≠ d ∧ x ≠ l ∧ x ≠ i := by
  obtain ⟨lf, tn, lg, it, a1, a2, a3, _⟩ := w
  exact ⟨ne_of hx a1 (by intro z; cases z), ne_of hx a2 (by intro z; cases z), ne_of hx a3 (by intro z; cases z)⟩
theorem DrawB.at3 {H : Hp} {d l i : Addr} {b : Int} (x : DrawB H d l i b) : (∃ u, H d = some u) ∧ (∃ u, H l = some u) ∧ ∃ u, H i = some u := by
  obtain ⟨lf, tn, lg, it, a1, a2, a3, _⟩ := x
  exact ⟨⟨_, a1⟩, ⟨_, a2⟩, ⟨_, a3⟩⟩
theorem DrawB.kx {H H' : Hp} {d l i : Addr} {b : Int} {A : List Addr} (k : KeepX A H H') (n : d ∉ A ∧ l ∉ A ∧ i ∉ A) (x : DrawB H d l i b) : DrawB H' d l i b := by
  obtain ⟨lf, tn, lg, it, a1, a2, a3, r⟩ := x
  exact ⟨lf, tn, lg, it, k _ _ n.1 a1, k _ _ n.2.1 a2, k _ _ n.2.2 a3, r⟩
theorem Kp2.kx {y z : Addr} {H H' : Hp} (k : Kp2 y z H H') : KeepX [y, z] H H' := fun b u n e => k b u (fun h => n (by rw [h]; simp)) (fun h => n (by rw [h]; simp)) e
theorem RollAt.ins {CF CR : Addr} {Ex : List Addr} {H : Hp} {y z x : Addr} {ts : List (Str × Str)} {L : Str → List Int} {ps : List (Str → Int)} (h : RollAt CF CR Ex H y z x ts L ps) : ∃ dy q, H y = some (.ins CR dy (rFs x q z)) := by
  obtain ⟨dy, q, dx, dq, r, rs, h1, _⟩ := h
  exact ⟨dy, q, h1⟩
theorem KeepX.sub {A B : List Addr} {H H' : Hp} (h : ∀ b ∈ A, b ∈ B) (k : KeepX A H H') : KeepX B H H' := fun b u n e => k b u (fun m => n (h b m)) e
theorem strs_ints {zs : List Str} {is : List Int} (ne : zs ≠ []) : zs.map V.str ≠ is.map V.int := fun e => by
  cases zs with
  | nil => exact ne rfl
  | cons z zs =>
    cases is with
    | nil => cases e
    | cons i is => cases e
theorem strs_refs {zs : List Str} {rs : List Addr} (ne : zs ≠ []) : zs.map V.str ≠ rs.map V.ref := fun e => by
  cases zs with
  | nil => exact ne rfl
  | cons z zs =>
    cases rs with
    | nil => cases e
    | cons i is => cases e
theorem AAt.draw {CA : Addr} {H H' : Hp} {d l i a x : Addr} {b : Int} {zs : List Str} (w : DrawB H d l i b) (k : KeepX [d, l] H H') (ne : zs ≠ []) (h : AAt CA H a x zs) : AAt CA H' a x zs := by
  obtain ⟨da, p, e1, e2⟩ := h
  have o1 := w.off_ins e1
  obtain ⟨lf, tn, lg, it, a1, a2, a3, _⟩ := w
  refine ⟨da, p, kx_at k e1 o1.1 o1.2.1, kx_at k e2 (ne_of e2 a1 (by intro z; cases z)) (ne_of e2 a2 fun z => ?_)⟩
  injection z with z
  exact strs_ints ne z
theorem FAt.draw {CF : Addr} {H H' : Hp} {d l i x : Addr} {b : Int} {ts : List (Str × Str)} (w : DrawB H d l i b) (k : KeepX [d, l] H H') (h : FAt CF H x ts) : FAt CF H' x ts := by
  obtain ⟨dx, q, e1, e2⟩ := h
  have o1 := w.off_ins e1
  have o2 := w.off_prs e2
  exact ⟨dx, q, kx_at k e1 o1.1 o1.2.1, kx_at k e2 o2.1 o2.2.1⟩
theorem RollAt.dict {CF CR : Addr} {Ex : List Addr} {H H' : Hp} {y z x b : Addr} {ts : List (Str × Str)} {L : Str → List Int} {ps : List (Str → Int)} {kvs : List (Key × V)} (r : RollAt CF CR Ex H y z x ts L ps) (k : Kp2 y z H H') (e : H b = some (.dK kvs)) : H' b = some (.dK kvs) := by
  obtain ⟨dy, q, dx, dq, rr, rs, h1, h2, h3, _⟩ := r
  exact k b _ (ne_of e h1 (by intro w; cases w)) (ne_of e h3 (by intro w; cases w)) e
theorem AAt.roll {CF CR CA : Addr} {Ex : List Addr} {H H' : Hp} {y z x a x' : Addr} {ts : List (Str × Str)} {L : Str → List Int} {ps : List (Str → Int)} {zs : List Str} (r : RollAt CF CR Ex H y z x ts L ps) (k : Kp2 y z H H') (ne : zs ≠ []) (h : AAt CA H a x' zs) : AAt CA H' a x' zs := by
  obtain ⟨dy, q, dx, dq, rr, rs, h1, h2, h3, _⟩ := r
  obtain ⟨da, p, e1, e2⟩ := h
  refine ⟨da, p, k _ _ (ne_of e1 h1 fun w => ?_) (ne_of e1 h3 (by intro w; cases w)) e1, k _ _ (ne_of e2 h1 (by intro w; cases w)) (ne_of e2 h3 fun w => ?_) e2⟩
  · injection w with _ _ w
    have := congrArg List.length w
    cases this
  · injection w with w
    exact strs_refs ne w
theorem FAt.roll {CF CR : Addr} {Ex : List Addr} {H H' : Hp} {y z x x' : Addr} {ts us : List (Str × Str)} {L : Str → List Int} {ps : List (Str → Int)} (r : RollAt CF CR Ex H y z x ts L ps) (k : Kp2 y z H H') (h : FAt CF H x' us) : FAt CF H' x' us := by
  obtain ⟨dx', q', e1, e2⟩ := h
  have e2' := r.dict k e2
  obtain ⟨dy, q, dx, dq, rr, rs, h1, h2, h3, _⟩ := r
  refine ⟨dx', q', k _ _ (ne_of e1 h1 fun w => ?_) (ne_of e1 h3 (by intro w; cases w)) e1, e2'⟩
  injection w with _ _ w
  have := congrArg List.length w
  cases this
end FT


/-! there and back (plain maths) -/
namespace FT
open PySem L2 TL ClX LiI
theorem lv_congr {ts : List (Str × Str)} {c c' : Str → Int} (h : ∀ a ∈ ts.map Prod.fst, c a = c' a) (p q : Str) : lv ts c p q = lv ts c' p q := by
  unfold lv
  by_cases h1 : par ts q = some p
  · rw [h q (par_flag h1)]
    by_cases h2 : par ts p = some q
    · rw [h p (par_flag h2)]
    · simp [h2]
  · by_cases h2 : par ts p = some q
    · rw [h p (par_flag h2)]
      simp [h1]
    · simp [h1, h2]
theorem Moved.congr {ts : List (Str × Str)} {c c' : Str → Int} {L L' : Str → List Int} (h : ∀ a ∈ ts.map Prod.fst, c a = c' a) (m : Moved ts c L L') : Moved ts c' L L' := by
  obtain ⟨G, g1, g2⟩ := m
  exact ⟨G, fun p hp o ho => by rw [← lv_congr h]; exact g1 p hp o ho, g2⟩
/-- sizes and lists that fit each other -/
structure Pt (ts : List (Str × Str)) (n : Nat) (s : Str → Int) (L : Str → List Int) : Prop where
  v : Val ts n L
  fe : Fea ts n s
  sz : ∀ a ∈ ts.map Prod.fst, lsz ts L a = s a
def Stp (ts : List (Str × Str)) (s : Str → Int) (L : Str → List Int) (s' : Str → Int) (L' : Str → List Int) : Prop := Moved ts (fun a => s' a - s a) L L'
def tog (ts : List (Str × Str)) (s s' : Str → Int) : Int := ((ts.map Prod.fst).map fun a => absI (s' a - s a)).sum
theorem chg_flag {ts : List (Str × Str)} {n : Nat} {s s' : Str → Int} {L : Str → List Int} {lo : List Str} (P : Pt ts n s L) (pl : lo.Perm (ts.map Prod.fst)) : ∀ a ∈ ts.map Prod.fst, chg ts L (tblI lo s') a = s' a - s a := fun a ha => by
  unfold chg
  rw [szOf_tblI (pl.mem_iff.mpr ha), P.sz a ha]
theorem pt_step {ts : List (Str × Str)} (o : TreeOk ts) {n : Nat} {s s' : Str → Int} {L L' : Str → List Int} {lo : List Str} (P : Pt ts n s L) (f : Fea ts n s') (pl : lo.Perm (ts.map Prod.fst)) (m : Moved ts (chg ts L (tblI lo s')) L L') : Pt ts n s' L' ∧ Stp ts s L s' L' := by
  have m' : Moved ts (fun a => s' a - s a) L L' := m.congr (chg_flag P pl)
  refine ⟨⟨moved_val o m P.v, f, fun a ha => ?_⟩, m'⟩
  have e := lens_lsz o (moved_lens o m' (lsz_lens o (val_len P.v))) ha
  rw [e]
  show lsz ts L a + (s' a - s a) = s' a
  rw [P.sz a ha]
  omega
end FT


/-! sorted(xs) of data that stand in order already; == and != of dicts with data as values, equal ones -/
namespace DaS
open PySem PyProof.Rows L2
/-- each pair's value is there, as the same datum -/
theorem hits_data {X : Cx} {pins : List (Addr × Obj)} {σ : L2.St} {H : Hp} {s : Shared} (I : Inv X pins σ H s) {A : Around} {kvs : List (Key × V)} {vb : List (Key × Value)} (rb : KV kvs vb) {ks : List (Key × V)} {va : List (Key × Value)} (ra : KV ks va) :
    (∀ p ∈ ks, ∃ u d, valV kvs p.1 = some u ∧ Dp X.K H p.2 d ∧ Dp X.K H u d ∧ PySem.W.alike d d = true ∧ A.units + d.depth < cLine) → PySem.W.KeqHits A s vb va true := by
  unfold KV at ra
  induction ra with
  | nil => intro _; exact .nil
  | @cons p q ps qs h t ih =>
    intro hp
    obtain ⟨h1, h2⟩ := h
    obtain ⟨u, d, e, d1, d2, al, hd⟩ := hp p List.mem_cons_self
    have rr : RelO (some u) (valueAt vb p.1) := by rw [← e]; exact rb.val p.1
    obtain ⟨y, hy, ry⟩ := rr.some_of
    obtain ⟨k, v⟩ := q
    have h1' : p.1 = k := h1
    rw [h1'] at hy
    obtain ⟨as, r1⟩ := Dp.reads I d _ _ d1 h2
    obtain ⟨bs, r2⟩ := Dp.reads I d _ _ d2 ry
    have q := PySem.W.eqAt_alike d d A s v y as bs r1 r2 al (by rw [Nat.min_self]; exact hd)
    rw [PySem.W.eqv_refl_alike d al] at q
    show PySem.W.KeqHits A s vb ((k, v) :: qs) (true && true)
    exact .hit hy q (ih fun p' hm => hp p' (List.mem_cons_of_mem _ hm))
def DEq (K : PySem.W.Frag) (H : Hp) (x y : V) : Prop := ∃ a b ks ls, x = .ref a ∧ y = .ref b ∧ H a = some (.dK ks) ∧ H b = some (.dK ls) ∧ ks.length = ls.length ∧ ∀ p ∈ ks, ∃ u d, valV ls p.1 = some u ∧ Dp K H p.2 d ∧ Dp K H u d ∧ PySem.W.alike d d = true ∧ d.depth ≤ 8
section
variable {X : Cx}
theorem op_eq_dictD (hu : X.A.units + 64 < cLine) : OpR X (compareOp .Eq) (fun x y H Q => DEq X.K H x y ∧ Q (.bl true) H) := by
  intro pins s σ H x y v u Q I rx ry h
  obtain ⟨⟨a, b, ks, ls, rfl, rfl, ea, eb, hlen, hp⟩, q⟩ := h
  obtain rfl : v = Value.ref a := rx
  obtain rfl : u = Value.ref b := ry
  obtain ⟨_, ya, va, ra, da⟩ := (show ObjOk X.prog X.w H s.heap a (.dK ks) from I.hok a _ ea)
  obtain ⟨_, yb, vb, rb, db⟩ := (show ObjOk X.prog X.w H s.heap b (.dK ls) from I.hok b _ eb)
  have hl : va.length = vb.length := by rw [← ra.length, ← rb.length]; exact hlen
  exact PySem.W.keq_eq (knd := mixKind X.prog X.w) (r := true) ya yb da db (by omega) (fun _ => hits_data I rb ra fun p hm => by
    obtain ⟨u, d, h1, h2, h3, h4, h5⟩ := hp p hm
    exact ⟨u, d, h1, h2, h3, h4, by simp only [Around.in1]; omega⟩) (fin_bl I q (by simp [hl]))
/-- a list of data in order -/
def rSortD (K : PySem.W.Frag) : List V → Hp → VK → Prop := fun xs H Q => ∃ (a : Addr) (vs : List V) (ds : List PyData), xs = [.ref a] ∧ SqL K H a vs ∧ DpAll K H vs ds ∧ PySem.W.AllAlike ds ∧ PySem.W.Sortable ds ∧ (∀ d ∈ ds, d.depth ≤ 8) ∧ ds.Pairwise (fun d e => PySem.W.dataLt e d = false) ∧
  ∀ p, H p = none → Q (.ref p) (upd H p (.lst vs))
end
end DaS


/-! what a rollout went through, most recent first; its lists kept -/
namespace FT
open PySem L2 TL ClX LiI
theorem val_L0 {ts : List (Str × Str)} (o : TreeOk ts) (n : Nat) : Val ts n (L0 n) := by
  have zero : ∀ l : List Str, ("" : Str) ∉ l → l.flatMap (L0 n) = [] := by
    intro l
    induction l with
    | nil => exact fun _ => rfl
    | cons p l ih =>
      intro h
      rw [List.flatMap_cons, ih fun m => h (List.mem_cons_of_mem _ m)]
      unfold L0
      rw [if_neg fun e : p = "" => h (e ▸ List.mem_cons_self ..)] <;> rfl
  have key : ∀ l : List Str, l.Nodup → ("" : Str) ∈ l → l.flatMap (L0 n) = usr n := by
    intro l
    induction l with
    | nil => exact fun _ h => by cases h
    | cons p l ih =>
      intro nd h
      obtain ⟨n1, n2⟩ := List.nodup_cons.mp nd
      rw [List.flatMap_cons]
      by_cases e : p = ""
      · rw [zero l (e ▸ n1), List.append_nil]
        unfold L0
        rw [if_pos e]
      · rw [ih n2 ((List.mem_cons.mp h).resolve_left fun w => e w.symm)]
        unfold L0
        rw [if_neg e] <;> rfl
  show ((pls ts).flatMap (L0 n)).Perm (usr n)
  rw [key (pls ts) (pls_nd o) (mem_pls.mpr (.inl rfl))]

section
variable {ts : List (Str × Str)} {n : Nat} {L L1 : Str → List Int} {Ls : List (Str → List Int)}
def Hist (ts : List (Str × Str)) (n : Nat) : (Str → List Int) → List (Str → List Int) → Prop
  | L, [] => Val ts n L ∧ ∀ p ∈ pls ts, L p = L0 n p
  | L, L1 :: Ls => Val ts n L ∧ Moved ts (fun a => lsz ts L a - lsz ts L1 a) L1 L ∧ Hist ts n L1 Ls
theorem Hist.v : ∀ {Ls : List (Str → List Int)} {L : Str → List Int}, Hist ts n L Ls → Val ts n L
  | [], _, h => h.1
  | _ :: _, _, h => h.1
def psOf (ts : List (Str × Str)) (Ls : List (Str → List Int)) : List (Str → Int) := (Ls.map (lsz ts)).reverse
theorem fea_lsz (o : TreeOk ts) (hV : Val ts n L) : Fea ts n (lsz ts L) := ⟨fun b hb => (lsz_bd o hV hb).1, fun p hp => by
  have z := lsz_lens o (val_len hV) p (mem_pls.mp hp)
  rw [← z]
  omega⟩
theorem pt_lsz (o : TreeOk ts) (hV : Val ts n L) : Pt ts n (lsz ts L) L := ⟨hV, fea_lsz o hV, fun _ _ => rfl⟩
theorem Hist.change (o : TreeOk ts) {s : Str → Int} {L2 : Str → List Int} {lo : List Str} (h : Hist ts n L Ls) (f : Fea ts n s) (pl : lo.Perm (ts.map Prod.fst)) (m : Moved ts (chg ts L (tblI lo s)) L L2) : Hist ts n L2 (L :: Ls) ∧ Pt ts n s L2 ∧ Stp ts (lsz ts L) L s L2 := by
  obtain ⟨p2, st⟩ := pt_step o (pt_lsz o h.v) f pl m
  exact ⟨⟨p2.v, Moved.congr (fun a ha => by rw [p2.sz a ha]) st, h⟩, p2, st⟩
/-- lists that stand in a dict, off Z -/
def SnapAt (Z : List Addr) (ts : List (Str × Str)) (H : Hp) (q : Addr) (L : Str → List Int) : Prop := ∃ r : Str → Addr, q ∉ Z ∧ (∀ p ∈ pls ts, r p ∉ Z) ∧ LsAt H q (pls ts) r L
theorem SnapAt.keep {Z : List Addr} {H H' : Hp} {q : Addr} (k : KeepX Z H H') (h : SnapAt Z ts H q L) : SnapAt Z ts H' q L := by
  obtain ⟨r, n1, n2, h1, h2⟩ := h
  exact ⟨r, n1, n2, k _ _ n1 h1, fun p hp => k _ _ (n2 p hp) (h2 p hp)⟩
inductive Snaps (Z : List Addr) (ts : List (Str × Str)) (H : Hp) : List Addr → List (Str → List Int) → Prop
  | nil : Snaps Z ts H [] []
  | cons {q : Addr} {L : Str → List Int} {qs : List Addr} {Ls : List (Str → List Int)} : SnapAt Z ts H q L → Snaps Z ts H qs Ls → Snaps Z ts H (q :: qs) (L :: Ls)
theorem Snaps.keep {Z : List Addr} {H H' : Hp} (k : KeepX Z H H') : ∀ {qs : List Addr} {Ls : List (Str → List Int)}, Snaps Z ts H qs Ls → Snaps Z ts H' qs Ls
  | _, _, .nil => .nil
  | _, _, .cons a b => .cons (a.keep k) (b.keep k)
theorem Snaps.len {Z : List Addr} {H : Hp} : ∀ {qs : List Addr} {Ls : List (Str → List Int)}, Snaps Z ts H qs Ls → qs.length = Ls.length
  | _, _, .nil => rfl
  | _, _, .cons _ b => by rw [List.length_cons, List.length_cons, b.len]
theorem alike_ints : ∀ a b : List Int, PySem.W.alikeAll (a.map .int) (b.map .int) = true
  | [], [] => rfl
  | [], _ :: _ => rfl
  | _ :: _, [] => rfl
  | x :: a, y :: b => by
    show (PySem.W.alike (.int x) (.int y) && PySem.W.alikeAll (a.map .int) (b.map .int)) = true
    rw [alike_ints a b] <;> rfl
/-- the same lists in two dicts -/
theorem deq_lists {K : PySem.W.Frag} {H : Hp} {q q' : Addr} {r r' : Str → Addr} {L' : Str → List Int} (h : LsAt H q (pls ts) r L) (h' : LsAt H q' (pls ts) r' L') (e : ∀ p ∈ pls ts, L' p = L p) : DaS.DEq K H (.ref q') (.ref q) := by
  refine ⟨q', q, _, _, rfl, rfl, h'.1, h.1, by rw [tblV_len, tblV_len], fun pp hp => ?_⟩
  obtain ⟨jx, hjx⟩ := List.mem_iff_getElem?.mp hp
  obtain ⟨kk', vv⟩ := pp
  obtain ⟨b, hb, rfl, rfl⟩ := tblV_at hjx
  have mb := List.mem_of_getElem? hb
  have h1 := h'.2 b mb
  rw [e b mb] at h1
  refine ⟨_, .list ((L b).map .int), tblV_val mb, .lst (SqL.of h1) (dp_ints _), .lst (SqL.of (h.2 b mb)) (dp_ints _), alike_ints _ _, ?_⟩
  have := (lay_ints (L b)).2
  show PyData.depthAll ((L b).map .int) + 1 ≤ 8
  omega
end
section
variable {CF CR : Addr} {Ex : List Addr} {H : Hp} {y z x : Addr} {ts : List (Str × Str)} {L : Str → List Int} {ps : List (Str → Int)}
theorem PsAt.some_of : ∀ {rs : List Addr} {ps : List (Str → Int)}, PsAt H ts rs ps → ∀ b ∈ rs, H b ≠ none
  | _, _, .nil, _, m => by cases m
  | _, _, .cons e t, b, m => by
    rcases List.mem_cons.mp m with rfl | m
    · rw [e]
      exact fun z => nomatch z
    · exact PsAt.some_of t b m
/-- off one more: off the new ones -/
theorem RollAt.more {b : Addr} (n : H b = none) (h : RollAt CF CR Ex H y z x ts L ps) : RollAt CF CR (b :: Ex) H y z x ts L ps := by
  obtain ⟨dy, q, dx, dq, r, rs, h1, h2, h3, h4, h5, h6, h7, h8⟩ := h
  refine ⟨dy, q, dx, dq, r, rs, h1, h2, h3, h4, h5, h6, fun c hc => ?_, fun p hp => ?_⟩
  · refine fun m => (List.mem_cons.mp m).elim (fun e => ?_) (h7 c hc)
    rw [← e] at n
    clear m e
    simp only [List.mem_cons] at hc
    rcases hc with rfl | rfl | rfl | rfl | rfl | hc
    · rw [h1] at n
      exact nomatch n
    · rw [h3] at n
      exact nomatch n
    · rw [h2.1] at n
      exact nomatch n
    · rw [h5] at n
      exact nomatch n
    · rw [h6] at n
      exact nomatch n
    · exact h4.some_of c hc n
  · refine fun m => (List.mem_cons.mp m).elim (fun e => ?_) (h8 p hp)
    rw [← e, h2.2 p hp] at n
    exact nomatch n
theorem RollAt.less {Ex' : List Addr} (s : ∀ b ∈ Ex', b ∈ Ex) (h : RollAt CF CR Ex H y z x ts L ps) : RollAt CF CR Ex' H y z x ts L ps := by
  obtain ⟨dy, q, dx, dq, r, rs, h1, h2, h3, h4, h5, h6, h7, h8⟩ := h
  exact ⟨dy, q, dx, dq, r, rs, h1, h2, h3, h4, h5, h6, fun c hc m => h7 c hc (s c m), fun p hp m => h8 p hp (s _ m)⟩
end
end FT


/-! pairs of a text and a value, kept in the heap -/
namespace FT
open PySem L2 TL ClX LiI
def PrV (H : Hp) (rs : List Addr) (xs : List (Str × V)) : Prop := Paired (fun (r : Addr) (x : Str × V) => H r = some (.tup [.str x.1, x.2])) rs xs
theorem PrV.imp {H H' : Hp} (m : ∀ r (x : Str × V), H r = some (.tup [.str x.1, x.2]) → H' r = some (.tup [.str x.1, x.2])) : ∀ {rs : List Addr} {xs : List (Str × V)}, PrV H rs xs → PrV H' rs xs
  | _, _, .nil => .nil
  | _, _, .cons h t => .cons (m _ _ h) (PrV.imp m t)
theorem PrV.push {H : Hp} {rs : List Addr} {xs : List (Str × V)} {D : Addr} {ys : List V} {o : HO} (e : H D = some (.lst ys)) (p : PrV H rs xs) : PrV (upd H D o) rs xs := p.imp fun r a q => by
  rw [upd_ne (ne_of q e (by intro z; cases z))]
  exact q
theorem PrV.snoc {H : Hp} {r : Addr} {x : Str × V} (h : H r = some (.tup [.str x.1, x.2])) : ∀ {rs : List Addr} {xs : List (Str × V)}, PrV H rs xs → PrV H (rs ++ [r]) (xs ++ [x])
  | _, _, .nil => .cons h .nil
  | _, _, .cons q t => .cons q (PrV.snoc h t)
theorem PrV.len {H : Hp} : ∀ {rs : List Addr} {xs : List (Str × V)}, PrV H rs xs → rs.length = xs.length
  | _, _, .nil => rfl
  | _, _, .cons _ t => congrArg (· + 1) (PrV.len t)
theorem PrV.kvs {K : PySem.W.Frag} {H : Hp} : ∀ {rs : List Addr} {xs : List (Str × V)}, PrV H rs xs → Paired (fun (p : Addr) (kv : Key × V) => SqT K H p [kV kv.1, kv.2]) rs (kvT xs)
  | _, _, .nil => .nil
  | _, _, .cons h t => .cons (.inl (.inl h)) (PrV.kvs t)
end FT


/-! a new rollout; what stays while rollouts go on -/
namespace FT
open PySem L2 TL ClX LiI
theorem pss_imp {X : Cx} {ss : List Stmt} {t t' : TS} (h : PSs X ss t) (m : ∀ D σ H, t' D σ H → t D σ H) : PSs X ss t' := ⟨fun pins s σ H D I q => h.run pins s σ H D I (m _ _ _ q)⟩
theorem roll_start {CF CR : Addr} {Ex : List Addr} {H : Hp} {y z x q dy : Addr} {ts : List (Str × Str)} {r : Str → Addr} {n : Nat} (fx : FAt CF H x ts) (hy : H y = some (.ins CR dy (rFs x q z))) (hL : LsAt H q (pls ts) r (L0 n)) (hz : H z = some (.lst []))
    (ny : y ∉ Ex) (nz : z ∉ Ex) (nq : q ∉ Ex) (nr : ∀ p ∈ pls ts, r p ∉ Ex) (nx : x ∉ Ex) (nd : ∀ b, H b = some (.dK (prs ts)) → b ∉ Ex) : RollAt CF CR Ex H y z x ts (L0 n) [] := by
  obtain ⟨dx, dq, e1, e2⟩ := fx
  refine ⟨dy, q, dx, dq, r, [], hy, hL, hz, .nil, e1, e2, fun b hb => ?_, nr⟩
  simp only [List.mem_cons, List.not_mem_nil, or_false] at hb
  rcases hb with rfl | rfl | rfl | rfl | rfl
  · exact ny
  · exact nz
  · exact nq
  · exact nx
  · exact nd _ e2
/-- a rollout is no forest and no dict -/
theorem RollAt.apart {CF CR : Addr} {Ex : List Addr} {H : Hp} {y z x : Addr} {ts : List (Str × Str)} {L : Str → List Int} {ps : List (Str → Int)} (r : RollAt CF CR Ex H y z x ts L ps) :
    (∀ b C dx dq, H b = some (.ins C dx [("above", .ref dq)]) → b ≠ y ∧ b ≠ z) ∧ (∀ b kvs, H b = some (.dK kvs) → b ≠ y ∧ b ≠ z) ∧ (∃ u, H y = some u) ∧ ∃ u, H z = some u := by
  obtain ⟨dy, q, dx, dq, rr, rs, h1, h2, h3, _⟩ := r
  refine ⟨fun b C dx dq e => ⟨ne_of e h1 fun w => ?_, ne_of e h3 (by intro w; cases w)⟩, fun b kvs e => ⟨ne_of e h1 (by intro w; cases w), ne_of e h3 (by intro w; cases w)⟩, ⟨_, h1⟩, ⟨_, h3⟩⟩
  injection w with _ _ w
  have := congrArg List.length w
  cases this
theorem SnapAt.more {Z : List Addr} {ts : List (Str × Str)} {H : Hp} {q b : Addr} {L : Str → List Int} (n : H b = none) (h : SnapAt Z ts H q L) : SnapAt (b :: Z) ts H q L := by
  obtain ⟨r, n1, n2, h1, h2⟩ := h
  exact ⟨r, fun m => (List.mem_cons.mp m).elim (fun e => by rw [e, n] at h1; cases h1) n1, fun p hp m => (List.mem_cons.mp m).elim (fun e => by have z := h2 p hp; rw [e, n] at z; cases z) (n2 p hp), h1, h2⟩
theorem SnapAt.less {Z Z' : List Addr} {ts : List (Str × Str)} {H : Hp} {q : Addr} {L : Str → List Int} (s : ∀ b ∈ Z', b ∈ Z) (h : SnapAt Z ts H q L) : SnapAt Z' ts H q L := by
  obtain ⟨r, n1, n2, h12⟩ := h
  exact ⟨r, fun m => n1 (s _ m), fun p hp m => n2 p hp (s _ m), h12⟩
end FT


/-! Own: the end of a law's row from a contract FnG (the library's walk_of asks FnOk). -/
namespace L2
open PySem PySem.Spec PyProof.Rows
section
variable {P : Program} {w : World} {K : PySem.W.Frag} {mg mb : Str → Option Value} {k : Nat} {fa a : Addr} {fd : FuncData} {x : Str} {sp : Sp} {s : Shared} {vs : List Value} {ns : List Int}
/-- the abstract heap at the law's entry: the script alone, locked; or nothing, where the script is the module's own -/
abbrev Entry (K : PySem.W.Frag) (a : Addr) (H : Hp) : Prop := (∀ b, H b ≠ none → b = a) ∧ (H a ≠ none → K.lookup a = none)
end
end L2


/-! Own: defs that make lambdas (their code object known), and the end of a law's row from a contract FnG with tables of code objects. -/
namespace L2
open PySem PySem.Spec PyProof.Rows LamX
/-- as Fun, the code object's place told -/
structure FunC (K : PySem.W.Frag) (x qual : Str) (st : Stmt) (f : Addr) (fd : FuncData) (c : Addr) : Prop where
  ex : ∃ (oc : Value) (od : Option Addr) (kV doc pm : Value) (an : Option Addr) (ct : Value) (osl : Array (Option Value)),
    fd = PySem.W.fnOf x qual (defArgs st) (defBody st) (defScope st) .none kV doc pm an (.ref c) ct ∧ K.lookup f = some ⟨oc, od, .func fd, osl⟩ ∧ PySem.W.codeIn K (.ref c) qual = true
  kp : PySem.W.keepIn K (.ref f) = true
theorem FunC.fun {K : PySem.W.Frag} {x qual : Str} {st : Stmt} {f c : Addr} {fd : FuncData} (F : FunC K x qual st f fd c) : Fun K x qual st f fd :=
  let ⟨oc, od, kV, doc, pm, an, ct, osl, e1, e2, e3⟩ := F.ex
  ⟨⟨oc, od, kV, doc, pm, an, .ref c, ct, osl, e1, e2, e3⟩, F.kp⟩
theorem funC_mk {K : PySem.W.Frag} {x qual : Str} {st : Stmt} {f c : Addr} {oc : Value} {od an : Option Addr} {osl : Array (Option Value)} {kV doc pm ct : Value} (l : K.lookup f = some ⟨oc, od, .func (PySem.W.fnOf x qual (defArgs st) (defBody st) (defScope st) .none kV doc pm an (.ref c) ct), osl⟩)
    (e : PySem.W.codeIn K (.ref c) qual = true) (k : PySem.W.keepIn K (.ref f) = true) : FunC K x qual st f (PySem.W.fnOf x qual (defArgs st) (defBody st) (defScope st) .none kV doc pm an (.ref c) ct) c := ⟨⟨oc, od, kV, doc, pm, an, ct, osl, rfl, l, e⟩, k⟩
section
variable {P : Program} {w : World} {K : PySem.W.Frag} {mg : Str → Option Value} {base : Heap}
theorem FunC.ok {x qual : Str} {st : Stmt} {f c : Addr} {fd : FuncData} {N ps : List Str} {k : Nat} {sp : Sp} (F : FunC K x qual st f fd c) (S : FnScope N ps (defScope st)) (len : ∀ vs H Q E, sp vs H Q E → vs.length = ps.length)
    (body : ∀ (A : Around) (outer : List Env) (s : Shared) (H : Hp) (vs : List V) (Q : VK) (E : XK), Room k (A.deeper (envOfC qual (defScope st) s.heap.objs.size f (.ref c))) → sp vs H Q E →
      ∃ t, PSs (cxOf CX0 P w K mg base N qual (defScope st) f (.ref c) A outer s H E).nox (defBody st) t ∧ t { nx := fun _ H' => Q .non H', rt := Q } (start N vs) H) : FnOk P w K mg base CX0 (k + 1) f fd ps sp := by
  obtain ⟨oc, od, kV, doc, pm, an, ct, osl, rfl, lk, code⟩ := F.ex
  refine fn_of lk code S len fun A outer s H vs Q E room want => ?_
  obtain ⟨t, h, q⟩ := body A outer s H vs Q E room want
  exact ⟨t, h.nox, q⟩
theorem FunC.okG {x qual : Str} {st : Stmt} {f c : Addr} {fd : FuncData} {N ps : List Str} {k : Nat} {sp : Sp} (F : FunC K x qual st f fd c) (S : FnScope N ps (defScope st)) (len : ∀ vs H Q E, sp vs H Q E → vs.length = ps.length)
    (body : ∀ (A : Around) (outer : List Env) (s : Shared) (H : Hp) (vs : List V) (Q : VK) (E : XK), Clr A → Room k (A.deeper (envOfC qual (defScope st) s.heap.objs.size f (.ref c))) → sp vs H Q E →
      ∃ t, PSs (cxOf CX0 P w K mg base N qual (defScope st) f (.ref c) A outer s H E).nox (defBody st) t ∧ t { nx := fun _ H' => Q .non H', rt := Q } (start N vs) H) : FnG P w K mg base CX0 (k + 1) f fd ps sp := by
  obtain ⟨oc, od, kV, doc, pm, an, ct, osl, rfl, lk, code⟩ := F.ex
  refine ⟨len, fun A outer s H args us vs Q E clr room e0 binds rel want => ?_⟩
  have nps := len _ _ _ _ want
  have KX : K.In s.heap := e0.mod.kin.keeps fun b o e => (e0.bs b o e).1
  have lim : s.heap.NoLimit := e0.mod.nolimit.keeps fun b o e => (e0.bs b o e).1
  refine codeAny_call_function room.depth (KX _ _ lk) rfl S.co S.gen rfl (PySem.W.codeRec_of KX code) (binds _ _ _ _ (wpAny_newFunctionEnv_cells S.kind (fun y hy => ?_) fun env he s1 x => ?_))
  · obtain ⟨n, v⟩ := y
    exact (S.par n (List.of_mem_zip hy).1).elim .inl fun q => .inr ⟨q, PySem.W.cellsFrom_some _ _ _ (.inl q)⟩
  · subst he
    obtain ⟨t, term, q⟩ := body A outer s H vs Q E clr (room.deeper _) want
    have I : Inv (cxOf CX0 P w K mg base N qual (defScope st) f (.ref c) A outer s H E) [] (start N vs) H s1 := inv_start S room.hd e0 nps rel x
    refine ⟨lim.keeps x.toInCall.keep, codeAny_func (wpAny_mono (term.nox.run [] s1 (start N vs) H _ I q) (fun fl s' z => ?_) fun _ _ z => z)⟩
    match fl, z with
    | .ret u, ⟨v, _, H', J, rv, q⟩ => exact ⟨v, H', J.os, J.bare, J.base, J.hok, rv, q⟩
    | .next, ⟨_, H', J, q⟩ => exact ⟨.non, H', J.os, J.bare, J.base, J.hok, rfl, q⟩
    | .brk, ⟨_, _, _, q⟩ => exact q.elim
    | .cont, ⟨_, _, _, q⟩ => exact q.elim
end
section
variable {P : Program} {w : World} {K : PySem.W.Frag} {mg mb : Str → Option Value} {k : Nat} {fa a : Addr} {fd : FuncData} {x : Str} {sp : Sp} {s : Shared} {vs : List Value} {ns : List Int} {cs : List (Addr × Addr)}
/-- the code objects and their tables: empty, not of the written part -/
abbrev TabsIn (K : PySem.W.Frag) (h : Heap) (cs : List (Addr × Addr)) : Prop := ∀ p ∈ cs, PySem.W.CodeHd h p.1 p.2 ∧ h.get? p.2 = some (PySem.W.tabObj #[]) ∧ K.lookup p.2 = none
/-- the abstract heap at the law's entry: the tables, and the script, locked, or where it is the module's own the tables alone -/
structure EntT (K : PySem.W.Frag) (cs : List (Addr × Addr)) (a : Addr) (vs : List Value) (ns : List Int) (H : Hp) : Prop where
  tab : ∀ p ∈ cs, H p.2 = some (.tbl #[])
  dom : ∀ b u, H b = some u → (b = a ∧ u = .frz { cls := .type "list", data := .seq vs.toArray } (.lst (ns.map V.int))) ∨ ∃ p ∈ cs, b = p.2
  own : H a ≠ none → K.lookup a = none
theorem entT_run (KX : K.In s.heap) (hns : s.heap.Ns mainGlobals mg) (hb : s.heap.Ns builtinsNs mb) (hbb : ∀ y : Str, y ≠ "__name__" → mb y = bootBuiltins y) (lim : s.heap.NoLimit) (gens : s.gens = #[]) (ti : TabsIn K s.heap cs)
    (bmain : ∃ (bm : Addr) (ob : Obj), mg "__builtins__" = some (.ref bm) ∧ bm ≠ builtinsNs ∧ s.heap.get? bm = some ob ∧ ob.cls = .type "module" ∧ ob.dict = some builtinsNs ∧ ob.data = .plain)
    (oa : s.heap.get? a = some { cls := .type "list", data := .seq vs.toArray }) (rv : Vals (ns.map V.int) vs) (few : ns.length ≤ sizeLine) (room : Room k callerA)
    (F : ∀ base : Heap, K.In base → base.Ns mainGlobals mg → (∀ p ∈ cs, TabB base mg p.1 p.2) → FnG P w K mg base CX0 k fa fd [x] sp)
    (bind : ∀ (s : Shared) (u : Value), BindsTo s fd ⟨[u], []⟩ [(x, u)]) {H : Hp} (en : EntT K cs a vs ns H) (want : sp [.ref a] H (fun v _ => v = .bl true) fun _ _ _ => False) :
    codeAny (model P w) callerA (.call (.ref fa) ⟨[.ref a], []⟩) (fun r s' => r = .ok (.ret (.bool true)) ∧ OldK s.heap s'.heap ∧ s'.os = s.os ∧ AllBare s'.gens) s := by
  -- what is tracked: a list or a table
  have kinds : ∀ {b : Addr} {o : Obj}, s.heap.get? b = some o → H b ≠ none → o = { cls := .type "list", data := .seq vs.toArray } ∨ o = PySem.W.tabObj #[] := fun {b o} q n => by
    cases r : H b with
    | none => exact absurd r n
    | some u =>
      rcases en.dom b u r with ⟨rfl, _⟩ | ⟨p, hp, rfl⟩
      · rw [oa] at q
        exact .inl (Option.some.inj q).symm
      · rw [(ti p hp).2.1] at q
        exact .inr (Option.some.inj q).symm
  have loose : ∀ {b : Addr} {o : Obj}, s.heap.get? b = some o → (∀ vs n, o.data ≠ .seq vs n) → (o.data = .fields #[] → False) → H b = none := fun {b o} q h1 h2 => by
    refine Decidable.byContradiction fun n => ?_
    rcases kinds q n with e | e
    · exact h1 _ _ (by rw [e])
    · exact h2 (by rw [e])
  have seen : ∀ {b : Addr} {o : Obj}, s.heap.get? b = some o → H b = none → (hidT s.heap H).get? b = some o := fun q n => hidT_get q n
  have dict : ∀ {b : Addr} {o : Obj} {es : Array DictEntry} {ep : Nat}, s.heap.get? b = some o → o.data = .dict es ep → (hidT s.heap H).get? b = some o := fun q d => seen q (loose q (fun vs n z => nomatch d.symm.trans z) fun z => nomatch d.symm.trans z)
  have nsT : ∀ {b : Addr} {m : Str → Option Value}, s.heap.Ns b m → (hidT s.heap H).Ns b m := fun ⟨o, es, ep, q, d, r⟩ => ⟨o, es, ep, dict q d, d, r⟩
  have KT : K.In (hidT s.heap H) := fun b o q => seen (KX b o q) (Decidable.byContradiction fun n => by
    cases r : H b with
    | none => exact n r
    | some u =>
      rcases en.dom b u r with ⟨rfl, _⟩ | ⟨p, hp, rfl⟩
      · rw [en.own n] at q
        cases q
      · rw [(ti p hp).2.2] at q
        cases q)
  have isTab : ∀ b u, H b = some u → ∀ q, u = .tbl q → s.heap.get? b = some (PySem.W.tabObj #[]) ∧ q = #[] := fun b u r q e => by
    rcases en.dom b u r with ⟨_, z⟩ | ⟨p, hp, rfl⟩
    · rw [e] at z
      cases z
    · refine ⟨(ti p hp).2.1, ?_⟩
      have z := en.tab p hp
      rw [r, e] at z
      cases z
      rfl
  have ok : HOk P w H s.heap := fun b u r => by
    rcases en.dom b u r with ⟨rfl, rfl⟩ | ⟨p, hp, rfl⟩
    · exact ⟨oa, by rw [List.length_map]; exact few, vs, _, rv, oa⟩
    · rw [en.tab p hp] at r
      cases r
      exact (ti p hp).2.1
  have TB : ∀ p ∈ cs, TabB (hidT s.heap H) mg p.1 p.2 := fun p hp => by
    obtain ⟨C, tp, _⟩ := ti p hp
    refine ⟨?_, ?_, fun z => ?_⟩
    · obtain ⟨o, us, file, tf, flags, tg, inF, text, tt, e1, r1, r2, r3, r⟩ := C
      refine ⟨o, us, file, tf, flags, tg, inF, text, tt, seen e1 (loose e1 (fun vs n z => nomatch r2.symm.trans z) fun z => ?_), r1, r2, r3, r⟩
      have e := r2.symm.trans z
      cases e
      simp at r3
    · obtain ⟨bm, ob, b1, b2, b3, b4, b5, b6⟩ := bmain
      refine ⟨bm, ob, b1, b2, fun q => ?_, fun q => ?_, seen b3 (loose b3 (fun vs n z => nomatch b6.symm.trans z) fun z => nomatch b6.symm.trans z), b4, b5, b6⟩
      · obtain ⟨o, es, ep, e, hd, _⟩ := hns
        rw [q, e] at b3
        cases b3
        cases hd.symm.trans b6
      · rw [q, tp] at b3
        cases b3
        cases b6
    · obtain ⟨o, es, ep, e, hd, _⟩ := hns
      rw [z, tp] at e
      cases e
      cases hd
  have e0 : Env0 P w K mg (hidT s.heap H) callerA [] s H :=
    ⟨rfl, ⟨KT, nsT hns, ⟨mb, nsT hb, hbb⟩, let ⟨m, z1, z2⟩ := lim; ⟨m, nsT z1, z2⟩⟩, fun b o q => of_hidT q, Nat.le_of_eq (hidT_size _ _), trivial, fun b z => absurd (show b ∈ ([] : List Addr) from z) (by simp), ok, .of_eq gens⟩
  refine codeAny_mono ((F _ KT (nsT hns) TB).run callerA [] s H ⟨[.ref a], []⟩ [.ref a] [.ref a] _ _ rfl room e0 (bind s (.ref a)) (.cons rfl .nil) want) fun r s' z => ?_
  match r, z with
  | .error _, z => exact z.elim
  | .ok .next, z => exact z.elim
  | .ok .brk, z => exact z.elim
  | .ok .cont, z => exact z.elim
  | .ok (.ret u), ⟨v, H', os, bare, un, ok', rv', q⟩ =>
    obtain rfl : v = .bl true := q
    obtain rfl : u = Value.bool true := rv'
    -- an object stays, or is a table that has grown
    have way : ∀ b o, s.heap.get? b = some o → s'.heap.get? b = some o ∨ ∃ p ∈ cs, b = p.2 ∧ ∃ more : Array Value, s'.heap.get? b = some (PySem.W.tabObj more) := fun b o q => by
      cases r : H b with
      | none => exact .inl (un.keep b o q r (fun z => absurd (show b ∈ ([] : List Addr) from z) (by simp)) (by simp))
      | some u =>
        rcases en.dom b u r with ⟨rfl, rfl⟩ | ⟨p, hp, rfl⟩
        · have q1 := (ok b _ r).1
          rw [q] at q1
          cases q1
          exact .inl (ok' b _ (un.frzs b _ _ r)).1
        · obtain ⟨more, z⟩ := un.tbls p.2 #[] (en.tab p hp)
          exact .inr ⟨p, hp, rfl, _, ok' p.2 _ z⟩
    refine ⟨rfl, ⟨fun b o q => ?_, fun b o q => ?_⟩, os, bare⟩
    · rcases way b o q with z | ⟨p, hp, rfl, more, z⟩
      · exact .inl z
      · obtain ⟨C, tp, _⟩ := ti p hp
        rw [tp] at q
        cases q
        exact .inr (.inl ⟨(C.tab tp).isCodeTable, rfl, #[], more, rfl, by rw [Array.empty_append]; exact z⟩)
    · rcases way b o q with z | ⟨_, _, _, more, z⟩
      · exact ⟨o, z⟩
      · exact ⟨_, z⟩
end
/-- the law's promise with its tables -/
def LawTG (l : PySem.W.OpenLaw) (w : World) (K : PySem.W.Frag) (k n : Nat) (x : Str) (mg : Str → Option Value) (fa : Addr) (h : Heap) : Prop :=
  ∃ (fd : FuncData) (cs : List (Addr × Addr)) (sp : Sp), TabsIn K h cs ∧ (∀ (s : Shared) (u : Value), BindsTo s fd ⟨[u], []⟩ [(x, u)]) ∧
    (∀ (H : Hp) (a : Addr) (ns : List Int), ns.length ≤ n → (∀ p ∈ cs, H p.2 = some (.tbl #[])) → SqL K H a (ns.map V.int) → sp [.ref a] H (fun v _ => v = .bl true) fun _ _ _ => False) ∧
    ∀ base : Heap, K.In base → base.Ns mainGlobals mg → (∀ p ∈ cs, TabB base mg p.1 p.2) → FnG l.prog w K mg base CX0 k fa fd [x] sp
/-- what the head tells of a def's table -/
abbrev TabsOf (q : Program) (K : PySem.W.Frag) (h : Heap) : Prop := ∀ (y : Str) (c P : Addr), ((recsOf q).find? (fun e => e.name == y)).isSome = true → PySem.W.tabIn K y = some (c, P) → PySem.W.CodeHd h c P ∧ h.get? P = some (PySem.W.tabObj #[])
/-- the goal behind the head, from such a promise -/
theorem walk_tabG {l : PySem.W.OpenLaw} {n k : Nat} {q : Program} {loose : List Str} {XP : (Str → Option Value) → Heap → Prop} {YP : World → Heap → Prop} {d : DefRec} {K : Params → PySem.W.Frag} {x : Str}
    (most : l.most = some n) (few : n ≤ sizeLine) (nodf : d.params.defaults = []) (room : Room k callerA) (hY : ∀ (w : World) (h : Heap), YP w h → (K w.params).In h)
    (F : ∀ (w : World) (mg : Str → Option Value) (fa : Addr) (h : Heap), (K w.params).In h → h.Ns mainGlobals mg → mg d.name = some (.ref fa) → TabsOf q (K w.params) h → XP mg h → LawTG l w (K w.params) k n x mg fa h) :
    PySem.W.WalkO q loose XP YP l.row.toRowW d [] (fun f vs => PySem.call f vs) :=
  Att.attach_call most nodf fun w _ s mg mb fa _ _ _ _ a vs ns G Y _ _ _ hmg hobj hints hlen hg => by
    have KX := hY w _ Y
    obtain ⟨fd, cs, sp, ti, bind, hsp, hF⟩ := F w mg fa _ KX G.T.g hmg (fun y c P hr ht => let ⟨d', hd⟩ := Option.isSome_iff_exists.mp hr; PySem.W.tab_of G.T KX hd ht) G.X
    have rv := vals_ints hints
    have len := hints.length
    have tne : ∀ p ∈ cs, p.2 ≠ a := fun p hp z => by
      have e := (ti p hp).2.1
      rw [z, hobj] at e
      cases e
    cases own : (K w.params).lookup a with
    | some o =>
      have e := KX a o own
      rw [hobj] at e
      cases e
      obtain ⟨H, eH⟩ : ∃ H : Hp, H = fun b => if b ∈ cs.map (·.2) then some (.tbl #[]) else none := ⟨_, rfl⟩
      have inT : ∀ p ∈ cs, H p.2 = some (.tbl #[]) := fun p hp => by
        rw [eH]
        exact if_pos (List.mem_map.mpr ⟨p, hp, rfl⟩)
      have outT : ∀ b, b ∉ cs.map (·.2) → H b = none := fun b n => by
        rw [eH]
        exact if_neg n
      have na : a ∉ cs.map (·.2) := fun m => by
        obtain ⟨p, hp, e⟩ := List.mem_map.mp m
        exact tne p hp e
      refine entT_run KX G.T.g G.T.b G.T.builtins G.T.nolimit hg ti G.T.bmain hobj rv (Nat.le_trans hlen few) room hF bind (H := H) ⟨inT, fun b u r => .inr ?_, fun z => absurd (outT a na) z⟩
        (hsp H a ns hlen inT (.inr ⟨_, vs.toArray, _, own, rfl, rfl, rfl, by rw [List.size_toArray, len]; exact Nat.le_trans hlen few, by simpa using rv⟩))
      refine Decidable.byContradiction fun n => ?_
      rw [outT b fun m => n (let ⟨p, hp, e⟩ := List.mem_map.mp m; ⟨p, hp, e.symm⟩)] at r
      cases r
    | none =>
      obtain ⟨H, eH⟩ : ∃ H : Hp, H = fun b => if b = a then some (.frz { cls := .type "list", data := .seq vs.toArray } (.lst (ns.map V.int))) else if b ∈ cs.map (·.2) then some (.tbl #[]) else none := ⟨_, rfl⟩
      have atA : H a = some (.frz { cls := .type "list", data := .seq vs.toArray } (.lst (ns.map V.int))) := by rw [eH]; exact if_pos rfl
      have inT : ∀ p ∈ cs, H p.2 = some (.tbl #[]) := fun p hp => by
        rw [eH]
        exact (if_neg (tne p hp)).trans (if_pos (List.mem_map.mpr ⟨p, hp, rfl⟩))
      refine entT_run KX G.T.g G.T.b G.T.builtins G.T.nolimit hg ti G.T.bmain hobj rv (Nat.le_trans hlen few) room hF bind (H := H) ⟨inT, fun b u r => ?_, fun _ => own⟩ (hsp H a ns hlen inT (.inl (.inr ⟨_, atA⟩)))
      by_cases n : b = a
      · subst n
        rw [atA] at r
        exact .inl ⟨rfl, (Option.some.inj r).symm⟩
      · refine .inr (Decidable.byContradiction fun m => ?_)
        rw [eH] at r
        have r' := (if_neg n).symm.trans r
        rw [if_neg fun z => m (let ⟨p, hp, e⟩ := List.mem_map.mp z; ⟨p, hp, e.symm⟩)] at r'
        cases r'
end L2


/-! Own: a lambda handed to a def that calls it in a try: what is raised is wished for at the caller's very slots (the library's rule asks it for all slots). -/
namespace L2
open PySem PySem.Spec PyProof.Rows LamX
section
variable {X : Cx} {pins : List (Addr × Obj)} {σ : St} {H : Hp} {s : Shared}
theorem pe_actS {CXg : CXT} {Eg : XK} {Ng : List Str} {qg : Str} {sg : Scope} {g f c' : Addr} {cdg pm ctv : Value} {params : Arguments} {body : Expr} {scope : Scope} {k i : Nat} {a : Str} {pn : List (Addr × Obj)} {xe : Value → Shared → Prop} {W : WX} {tb : XK → TE} {p1 p2 : Pos}
    (I : Inv X pins σ H s) (L : LamS X.env.scope scope) (here : s.heap.get? f = some (PySem.W.kla_obj "<lambda>" (X.env.qual ++ "<lambda>") params body scope (cloFrom X.env.cells scope.names []) pm c' ctv)) (fno : H f = none) (ffr : f ∉ frs X.stack)
    (bd : bindArgs (PySem.W.kla_fn "<lambda>" (X.env.qual ++ "<lambda>") params body scope (cloFrom X.env.cells scope.names []) pm (.ref c') ctv) ⟨[], []⟩ = pure []) (tk : Takes ((cxOf CXg X.prog X.w X.K X.mg X.base Ng qg sg g cdg X.A X.stack s H Eg).tr pn xe) W)
    (room : Room (k + 1) (X.A.deeper (envOfC qg sg s.heap.objs.size g cdg))) (walk : ∀ (A : Around) (outer : List Env) (s : Shared) (H : Hp) (E : XK), Room k (A.deeper (lamEnv X scope s.heap.objs.size f c')) → PE (lamCx X A outer s H E scope f c') body (tb E))
    (hN : Ng[i]? = some a) (hv : Vis sg a) (hd : (a == ("__debug__" : Str)) = false := by decide) (hcd : (a == ("__classdict__" : Str)) = false := by decide) :
    PE ((cxOf CXg X.prog X.w X.K X.mg X.base Ng qg sg g cdg X.A X.stack s H Eg).tr pn xe) (.Call (.Name a p1) [] [] p2)
      (fun τ HZ Q => ∃ (Ech : XK) (Qn : VK), (∀ cls d H', Ech cls d H' → W cls d τ H') ∧ (∀ v H', Qn v H' → Q v H') ∧ τ[i]? = some (some (.ref f)) ∧ HZ c' = some (CodeO c' (X.env.qual ++ "<lambda>")) ∧ tb Ech σ HZ Qn) := by
  constructor
  intro pz sz τ HZ Q IZ ⟨Ech, Qn, imp, impQ, slot, code, want⟩
  refine wpAny_Call_Name_kw (thn ((pe_var (pos := p1) (i := i) hN hv hd hcd).run pz sz τ HZ (fun v H1 => v = .ref f ∧ H1 = HZ) IZ ⟨.ref f, slot, rfl, rfl⟩) fun u s1 ⟨v, H1, I1, r1, ev, eH⟩ => ?_)
  subst ev
  subst eH
  cases (show u = Value.ref f from r1)
  have still : s1.heap.get? f = some (PySem.W.kla_obj "<lambda>" (X.env.qual ++ "<lambda>") params body scope (cloFrom X.env.cells scope.names []) pm c' ctv) := I1.base.keep f _ here fno ffr (by simp [cxOf, Cx.tr])
  have grown : Un (frs X.stack) [] H H1 s.heap s1.heap := I1.base
  obtain ⟨⟨oc, ws, t, e1, e2, e3⟩, _, _⟩ := I1.hok c' _ code
  refine PySem.W.callWith_F0 ⟨_, _, _, _, still⟩ (wpAny_call (codeAny_mono (R := CR (L2.CX X.prog X.w) (envOfC qg sg s.heap.objs.size g cdg :: X.stack) X.prog X.w H1 s1 Qn Ech) ?_ fun r s' z => ?_))
  · show codeAny _ _ (.call (.ref f) ⟨[], []⟩) _ s1
    refine PySem.W.kla_callFunE room.depth still rfl L.co L.gen rfl ⟨c', oc, ws, t, rfl, e1, e2, e3⟩ ?_
    rw [bd]
    refine wpAny_pure (wpAny_newFunctionEnv (fun y hy => (L.own y hy).2) (fun y hy => absurd hy (by simp)) (fun h₁ ns sb => ⟨I1.nolimit.fresh _ sb, ?_⟩) L.kind)
    have kp : ∀ b o, s1.heap.get? b = some o → h₁.get? b = some o := fun b o e => sb.extBut b o (Nat.ne_of_lt (Heap.lt_size e)) (Heap.get?_push_of_some _ e)
    have J : Inv (lamCx X (X.A.deeper (envOfC qg sg s.heap.objs.size g cdg)) (envOfC qg sg s.heap.objs.size g cdg :: X.stack) s1 H1 Ech scope f c') [] σ H1 { s1 with heap := h₁, toks := s1.toks + ([] : List (Str × Value)).length } := lam_start2 I L I1.env0 room.hd grown ns kp
    exact PySem.W.kla_codeExpr (wpAny_mono ((walk _ _ s1 H1 _ (room.deeper _)).run [] _ _ H1 Qn J want) (fun v s' ⟨w, H', J', rv, q⟩ => ⟨w, H', J'.os, J'.bare, J'.base, J'.hok, rv, q⟩) fun _ _ z => z)
  · match r, z with
    | .error e, z => exact tk e s' (XE.of_call I1 (fun cls d H' h => imp cls d H' h) z)
    | .ok (.ret u), z =>
      obtain ⟨v, H2, J2, rv, q⟩ := I1.after z
      exact ⟨v, H2, J2, rv, impQ v H2 q⟩
    | .ok .next, z => exact z.elim
    | .ok .brk, z => exact z.elim
    | .ok .cont, z => exact z.elim
end
/-- the def that calls what it got, in its slot 0 -/
def GivesS (X : Cx) (Ng : List Str) (x : Str) (sg : Scope) (g : Addr) (cdg : Value) (bg : List Stmt) (a : Str) (q : Str) (TT : (XK → Hp → VK → Prop) → Hp → VK → Prop) : Prop :=
  ∀ (f c' : Addr) (s : Shared) (H : Hp) (Q : VK) (tl : XK → Hp → VK → Prop),
    (∀ (W : WX) (pn : List (Addr × Obj)) (xe : Value → Shared → Prop) (p1 p2 : Pos), Takes ((cxOf C8.CX0 X.prog X.w X.K X.mg X.base Ng x sg g cdg X.A X.stack s H C8.E0).tr pn xe) W →
      PE ((cxOf C8.CX0 X.prog X.w X.K X.mg X.base Ng x sg g cdg X.A X.stack s H C8.E0).tr pn xe) (.Call (.Name a p1) [] [] p2) (fun τ HZ Q => ∃ (Ech : XK) (Qn : VK), (∀ cls d H', Ech cls d H' → W cls d τ H') ∧ (∀ v H', Qn v H' → Q v H') ∧ τ[0]? = some (some (.ref f)) ∧ HZ c' = some (CodeO c' q) ∧ tl Ech HZ Qn)) →
    H c' = some (CodeO c' q) → TT tl H Q → ∃ t, PSs (cxOf C8.CX0 X.prog X.w X.K X.mg X.base Ng x sg g cdg X.A X.stack s H C8.E0).nox bg t ∧ t { nx := fun _ H' => Q .non H', rt := Q } (L2.start Ng [.ref f]) H
/-- x(lambda: body), x such a def -/
theorem pe_lamS {X : Cx} {T : List (Addr × Str)} {TT : (XK → Hp → VK → Prop) → Hp → VK → Prop} {x a : Str} {g c P : Addr} {k : Nat} {st : Stmt} {fd : FuncData} {Ng : List Str} {params : Arguments} {body : Expr} {scope : Scope} {t : XK → TE} {p lpos pos : Pos} (hg : Gl X x) (hm : X.mg x = some (.ref g))
    (F : Fun X.K x x st g fd) (hb : Binds X.K fd [a] []) (Sg : FnScope Ng [a] (defScope st)) (hNg : Ng[0]? = some a) (hva : Vis (defScope st) a) (gives : ∀ cdg, GivesS X Ng x (defScope st) g cdg (defBody st) a (X.env.qual ++ "<lambda>") TT)
    (TB : TabB X.base X.mg c P) (code : X.env.code = .ref c) (mT : (P, X.env.qual ++ "<lambda>") ∈ T) (uT : ∀ p ∈ T, p.1 = P → p.2 = X.env.qual ++ "<lambda>") (room : Room (k + 2) X.A) (L : LamS X.env.scope scope) (dfl : defaultsOf params X.env = ([], []))
    (bd : ∀ (q : Str) (cl : List (Str × Addr)) (pm cv ctv : Value), bindArgs (PySem.W.kla_fn "<lambda>" q params body scope cl pm cv ctv) ⟨[], []⟩ = pure [])
    (walk : ∀ (A : Around) (outer : List Env) (s : Shared) (H : Hp) (E : XK) (f c' : Addr), Room k (A.deeper (lamEnv X scope s.heap.objs.size f c')) → PE (lamCx X A outer s H E scope f c') body (t E))
    (hdb : (x == ("__debug__" : Str)) = false := by decide) (hd : (a == ("__debug__" : Str)) = false := by decide) (hcd : (a == ("__classdict__" : Str)) = false := by decide) : PE X (.Call (.Name x p) [.Lambda params body scope lpos] [] pos) (tLam T TT t) := by
  constructor
  intro pins s σ H Q I ⟨hT, want⟩
  refine wpAny_Call_Name_kw (ld_glob I hg hm ?_ hdb)
  refine PySem.W.callWith_K (h₀ := X.base) I.ok.mod.kin F.kp (pos := pos) ?_ (by rfl) (by rfl)
  show wpAny _ _ (spliced ((false, eval (.Lambda params body scope lpos) X.env) :: backTo pos (starEach [] X.env))) _ _ s
  refine Calls.spliced_cons (lam_make2 I TB code mT uT hT dfl (L.has I.ok) fun f c' pm' ctv H1 s' I1 eN T1 of fn fr co => Calls.spliced_nil ⟨I1.kIn, wpAny_call (codeAny_mono (R := CR C8.CX0 X.stack X.prog X.w H1 s' Q C8.E0) ?_ fun r s2 z => ?_)⟩)
  · obtain ⟨oc, od, kV, doc, pm, an, cdv, ct, osl, rfl, lk, cin⟩ := F.ex
    refine run_ofS (N := Ng) (ps := [a]) (us := [.ref f]) (vs := [.ref f]) lk cin Sg room I1.env0 (hb s' [.ref f] I1.kIn rfl) (.cons rfl .nil) rfl fun room' => ?_
    obtain ⟨t', term, q⟩ := gives cdv f c' s' H1 Q (fun E H' Q' => t E σ H' Q') (fun W pn xe p1 p2 tk => pe_actS (i := 0) I1 L of fn fr (bd _ _ _ _ _) tk room' (fun A outer s H E hr2 => walk A outer s H E f c' hr2) hNg hva hd hcd) co (want H1 eN T1)
    exact ⟨t', term.nox, q⟩
  · match r, z with
    | .error e, z => exact (show False from z).elim
    | .ok (.ret u), z => exact I1.after z
    | .ok .next, z => exact z.elim
    | .ok .brk, z => exact z.elim
    | .ok .cont, z => exact z.elim
end L2


/-! a dict with one key that is None or a tuple beside ints and texts: it is stored, counted, walked by keys, its class is asked -/
namespace PySem
open Sem (wp)
section
variable {prog : Program} {w : World} {A : Around} {E : Value → Shared → Prop} {s : Shared}
/-- no stored key is this one: what is stored is carried by value -/
structure Missed (s : Shared) (k : NestedKey) (es : Array DictEntry) : Prop where
  all : ∀ e ∈ es, carriedByValue e.key = true ∧ ∃ k', NestedIs s.heap k' e.key ∧ k'.depth = 0 ∧ NestedKey.beq k' k = false
theorem walk_missed {d : Addr} {o : Obj} {es : Array DictEntry} {ep : Nat} {key : Value} {k : NestedKey} {h : Int} (ho : s.heap.get? d = some o) (hd : o.data = .dict es ep) (hk : NestedIs s.heap k key) (m : Missed s k es) (hu : A.units < cLine)
    (places : List Nat) {Q : Option Nat → Shared → Prop} (q : Q none s) : wpAny (model prog w) A (dictWalkPlain d key h es places) Q E s := by
  unfold dictWalkPlain
  refine wpAny_bind ?_
  refine wpAny_forIn_list _ (fun rest b s' => s' = s ∧ b = (none, ())) _ ?_ ?_ _ _ ⟨rfl, rfl⟩
  · rintro x rest b s' ⟨rfl, rfl⟩
    cases hx : es[x]? with
    | none => exact wpAny_pure ⟨rfl, rfl⟩
    | some e =>
      dsimp only
      obtain ⟨_, k', hk', hd0, hb⟩ := m.all e (Array.mem_of_getElem? hx)
      by_cases hh : (e.hash == h) = true
      · rw [if_pos hh]
        have eq := (eqAt_key k' k A s' e.key key hk' hk (by rw [hd0]; omega))
        rw [hb] at eq
        refine wpAny_bind (wpAny_dictEpoch ho hd (wpAny_bind (eq _ _ _ _ (wpAny_bind (wpAny_dictEpoch ho hd ?_)))))
        show wpAny _ _ (if (ep != ep) = true then _ else _) _ E _
        rw [if_neg (by simp)]
        exact wpAny_bind (wpAny_rule (wpAny_pure ⟨rfl, rfl⟩))
      · rw [if_neg hh]
        exact wpAny_pure ⟨rfl, rfl⟩
  · rintro b s' ⟨rfl, rfl⟩
    exact wpAny_pure q
theorem find_none_missed {d : Addr} {o : Obj} {es : Array DictEntry} {ep : Nat} {h : Int} (ho : s.heap.get? d = some o) (hd : o.data = .dict es ep) (m : Missed s .none es) (hu : A.units < cLine) {Q : Option Nat → Shared → Prop} (q : Q none s) :
    wpAny (model prog w) A (dictFind d .none h) Q E s := by
  have hall : ((Value.none :: (placesWithHash es.size (fun i => es[i]?.map (·.hash)) h).filterMap fun i => es[i]?.map (·.key)).all carriedByValue) = true := by
    rw [List.all_cons, List.all_eq_true.mpr, Bool.and_true]
    · rfl
    · intro v hv
      obtain ⟨i, _, hi⟩ := List.mem_filterMap.mp hv
      cases he : es[i]? with
      | none => rw [he] at hi; cases hi
      | some e =>
        rw [he] at hi
        obtain rfl : e.key = v := by simpa using hi
        exact (m.all e (Array.mem_of_getElem? he)).1
  unfold dictFind
  try with_reducible refine wpAny_holding ?_
  refine wpAny_bind (wpAny_dictEntries ho hd ?_)
  dsimp only
  rw [if_pos hall]
  exact walk_missed ho hd .none m hu _ q
theorem find_ref_missed {d a : Addr} {o : Obj} {es : Array DictEntry} {ep : Nat} {k : NestedKey} {h : Int} (ho : s.heap.get? d = some o) (hd : o.data = .dict es ep) (hk : NestedIs s.heap k (.ref a)) (hdp : k.depth ≤ 8) (m : Missed s k es) (hu : A.units < cLine) {Q : Option Nat → Shared → Prop} (q : Q none s) :
    wpAny (model prog w) A (dictFind d (.ref a) h) Q E s := by
  have hany : ¬ (es.any fun e => e.key == Value.ref a && e.hash != h) = true := by
    rw [← Array.any_toList, List.any_eq_true]
    rintro ⟨e, hin, hc⟩
    have c := (m.all e (Array.mem_toList_iff.mp hin)).1
    simp only [Bool.and_eq_true, beq_iff_eq] at hc
    rw [hc.1] at c
    exact absurd c Bool.false_ne_true
  have hst : ∀ v ∈ (placesWithHash es.size (fun i => es[i]?.map (·.hash)) h).filterMap (fun i => es[i]?.map (·.key)), carriedByValue v = true := by
    intro v hv
    obtain ⟨i, _, hi⟩ := List.mem_filterMap.mp hv
    cases hei : es[i]? with
    | none => rw [hei] at hi; cases hi
    | some e =>
      rw [hei] at hi
      obtain rfl : e.key = v := by simpa using hi
      exact (m.all e (Array.mem_of_getElem? hei)).1
  have tell : ∀ Q' : Bool → Shared → Prop, Q' false s → wpAny (model prog w) A (tableMayTell (.ref a) ((placesWithHash es.size (fun i => es[i]?.map (·.hash)) h).filterMap (fun i => es[i]?.map (·.key)))) Q' E s := fun Q' q' => by
    unfold tableMayTell
    split
    · exact wpAny_pure q'
    · refine wpAny_bind (quiet_key k (.ref a) 8 s hk hdp A E _ ?_)
      simp only [Bool.not_true, Bool.false_eq_true, if_false]
      refine wpAny_bind ?_
      refine wpAny_forIn_list _ (fun rest r s' => s' = s ∧ r = (none, ()) ∧ ∀ v ∈ rest, carriedByValue v = true) _ ?_ ?_ _ _ ⟨rfl, rfl, hst⟩
      · rintro x rest r s' ⟨rfl, rfl, hr⟩
        refine wpAny_bind (QuietAt.byValue (n := 8) (hr x List.mem_cons_self) A E _ ?_)
        simp only [Bool.not_true, Bool.false_eq_true, if_false]
        exact wpAny_pure ⟨rfl, rfl, fun v hv => hr v (List.mem_cons_of_mem _ hv)⟩
      · rintro r s' ⟨rfl, rfl, _⟩
        exact wpAny_pure q'
  have notall : ¬ ((Value.ref a :: (placesWithHash es.size (fun i => es[i]?.map (·.hash)) h).filterMap (fun i => es[i]?.map (·.key))).all carriedByValue) = true := by simp [carriedByValue]
  unfold dictFind
  try with_reducible refine wpAny_holding ?_
  refine wpAny_bind (wpAny_dictEntries ho hd ?_)
  dsimp only
  rw [if_neg notall]
  rw [if_neg hany]
  by_cases hone : (((placesWithHash es.size (fun i => es[i]?.map (·.hash)) h).filterMap (fun i => es[i]?.map (·.key))) == [Value.ref a]) = true <;>
  (first | rw [if_pos hone] | rw [if_neg hone]) <;> (first | refine wpAny_bind (wpAny_pure ?_) | refine wpAny_bind (tell _ ?_)) <;> (
    rw [if_neg (by simp)]
    refine wpAny_bind ?_
    refine wpAny_forIn_list _ (fun rest b s' => s' = s ∧ b = (none, none)) _ ?_ ?_ _ _ ⟨rfl, rfl⟩
    · rintro x rest b s' ⟨rfl, rfl⟩
      cases hx : es[x]? with
      | none => exact wpAny_pure ⟨rfl, rfl⟩
      | some e =>
        dsimp only
        obtain ⟨_, k', hk', hd0, hb⟩ := m.all e (Array.mem_of_getElem? hx)
        by_cases hh : (e.hash == h) = true
        · rw [if_pos hh]
          have eq := (eqAt_key k' k A s' e.key (.ref a) hk' hk (by rw [hd0]; omega))
          rw [hb] at eq
          refine wpAny_bind (wpAny_dictEpoch ho hd (wpAny_bind (eq _ _ _ _ (wpAny_bind (wpAny_dictEpoch ho hd ?_)))))
          show wpAny _ _ (if (ep != ep) = true then _ else _) _ E _
          rw [if_neg (by simp)]
          simp only [Bool.false_eq_true, if_false]
          refine wpAny_bind (wpAny_rule ?_)
          first | rw [if_neg (by simp)] | skip
          first
            | exact wpAny_pure ⟨rfl, rfl⟩
            | exact wpAny_bind (wpAny_pure (wpAny_pure ⟨rfl, rfl⟩))
        · rw [if_neg hh]
          exact wpAny_pure ⟨rfl, rfl⟩
    · rintro b s' ⟨rfl, rfl⟩
      exact wpAny_pure q)
end
end PySem
namespace PySem
open Sem (wp)
section
variable {prog : Program} {w : World} {A : Around} {E : Value → Shared → Prop} {s : Shared}
/-- d[key] = v, where the key is none of those stored -/
theorem wpAny_setItem_missed {d : Addr} {o : Obj} {es : Array DictEntry} {ep : Nat} {key v : Value} {k : NestedKey} {Q : Unit → Shared → Prop} (ho : s.heap.get? d = some o) (hc : o.ExactDict) (hd : o.data = .dict es ep) (hk : NestedIs s.heap k key) (hu : A.in1.units + k.depth < cLine) (hz : es.size ≤ sizeLine)
    (fnd : ∀ (t : Nat) (h : Int) (Q' : Option Nat → Shared → Prop), Q' none { s with toks := t } → wpAny (model prog w) A.in1 (dictFind d key h) Q' E { s with toks := t })
    (q : ∀ h' hh, h'.DictRaw d (es.push ⟨hh, key, v⟩) (ep + 1) → Heap.SameBut d s.heap h' → Q () { s with heap := h', toks := s.toks + k.draws }) :
    wpAny (model prog w) A (setItem (.ref d) key v) Q E s := by
  have hT : s.TypeIs (.ref d) "dict" := ⟨o, ho, hc.1⟩
  unfold setItem
  try with_reducible refine wpAny_holding ?_
  refine wpAny_bind (wpAny_sequenceKey hT (by decide) ?_)
  refine wpAny_bind (wpAny_callSpecial?_slot (name := Str.ofString "__setitem__") hT F.slot_dict_setitem
    (wpAny_call_entry F.slot_dict_setitem hT F.entry_dict_setitem ?_ (F.args_dict_setitem_3 _ _ _)))
  show wpAny _ _ (Builtin.Dict.notOrdered "__setitem__" ⟨[.ref d, key, v], []⟩ >>= _) _ _ s
  refine wpAny_bind (wpAny_notOrdered_dict hT ?_)
  show wpAny _ _ (dictSet d key v >>= _) _ _ s
  refine wpAny_bind ?_
  unfold dictSet
  try with_reducible refine wpAny_holding ?_
  refine wpAny_bind (pyHash_key k key A.in1 s _ hk hu ?_)
  unfold dictSetHashed
  try with_reducible refine wpAny_holding ?_
  refine wpAny_bind (fnd _ _ _ ?_)
  refine wpAny_bind (wpAny_rule (wpAny_updateDictKeys (hz := hz) (s := { s with toks := s.toks + k.draws }) ho hd (wpAny_pure ⟨.none, rfl, wpAny_pure (q _ _ ⟨_, Heap.get?_update_self _ ho (Obj.isFreed_of_dict (Obj.data_mapDictKeys hd _)), hc.mapDictKeys _, Obj.data_mapDictKeys hd _⟩ (Heap.SameBut.update ..))⟩)))
end
end PySem
namespace L2
open PySem PySem.Spec PyProof.Rows
/-- a plain dict whose keys may be of any kind: what is stored, in order -/
def RawO (d : Addr) (rows : List (V × V)) : HO := .ext fun h => (d == sysModules) = false ∧ rows.length ≤ sizeLine ∧ ∃ es ep, h.DictRaw d es ep ∧ Paired (fun (r : V × V) (e : DictEntry) => RelV r.1 e.key ∧ RelV r.2 e.val) rows es.toList
def rowsK (kvs : List (Key × V)) : List (V × V) := kvs.map fun p => (kV p.1, p.2)
/-- None, or a tracked tuple of ints and texts -/
def OddK (H : Hp) (y : V) : Prop := y = .non ∨ ∃ (b : Addr) (ks : List Key), y = .ref b ∧ H b = some (.tup (ks.map kV))
def nkK : Key → NestedKey
  | .inl i => .num i
  | .inr x => .text x
theorem raw_ok {P : Program} {w : World} {H : Hp} {h : Heap} {d : Addr} {rows : List (V × V)} {es : Array DictEntry} {ep : Nat} (hs : (d == sysModules) = false) (z : rows.length ≤ sizeLine) (r : h.DictRaw d es ep) (p : Paired (fun (r : V × V) (e : DictEntry) => RelV r.1 e.key ∧ RelV r.2 e.val) rows es.toList) :
    ObjOk P w H h d (RawO d rows) :=
  ⟨⟨hs, z, es, ep, r, p⟩, let ⟨o, ho, _⟩ := r; ⟨o, ho⟩, fun h1 h2 q k => let ⟨hs, z, es, ep, r, p⟩ := q; ⟨hs, z, es, ep, r.at k, p⟩⟩
theorem raw_of {P : Program} {w : World} {H : Hp} {h : Heap} {d : Addr} {rows : List (V × V)} (x : ObjOk P w H h d (RawO d rows)) :
    (d == sysModules) = false ∧ rows.length ≤ sizeLine ∧ ∃ es ep, h.DictRaw d es ep ∧ Paired (fun (r : V × V) (e : DictEntry) => RelV r.1 e.key ∧ RelV r.2 e.val) rows es.toList := x.1
theorem nested_key {h : Heap} {k : Key} {u : Value} (r : keyIs k u = true) : NestedIs h (nkK k) u ∧ carriedByValue u = true := by
  rcases keyIs_shape r with ⟨i, t, rfl, rfl⟩ | ⟨x, t, rfl, rfl⟩
  · exact ⟨.int i t, rfl⟩
  · exact ⟨.text x t, rfl⟩
theorem kV_keyIs {k : Key} {u : Value} (r : RelV (kV k) u) : keyIs k u = true := by
  cases k with
  | inl i => obtain ⟨t, rfl⟩ := (show ∃ t, u = Value.int i t from r); exact decide_eq_true rfl
  | inr x => obtain ⟨t, rfl⟩ := (show ∃ t, u = Value.str x t from r); exact decide_eq_true rfl
theorem nested_keys {h : Heap} : ∀ {ks : List Key} {us : List Value}, Vals (ks.map kV) us → NestedAll h (ks.map nkK) us
  | [], us, r => by
    cases us with
    | nil => exact .nil
    | cons _ _ => cases r
  | k :: ks, us, r => by
    rw [List.map_cons] at r
    cases r with
    | cons r t => exact .cons (nested_key (kV_keyIs r)).1 (nested_keys t)
theorem nkK_depth : ∀ ks : List Key, NestedKey.depthAll (ks.map nkK) = 0
  | [] => rfl
  | k :: ks => by
    show max (nkK k).depth (NestedKey.depthAll (ks.map nkK)) = 0
    rw [nkK_depth ks]
    cases k <;> rfl
theorem raw_rows {P : Program} {w : World} : ∀ {kvs : List (Key × V)} {vs : List (Key × Value)} {es : List DictEntry}, KV kvs vs → Pairs (mixKind P w) es vs → Paired (fun (r : V × V) (e : DictEntry) => RelV r.1 e.key ∧ RelV r.2 e.val) (rowsK kvs) es
  | _, _, _, .nil, .nil => .nil
  | _, _, _, .cons h t, .cons k e r => .cons ⟨relV_key (h.1 ▸ k), e ▸ h.2⟩ (raw_rows t r)
/-- d[y] = v, y None or a tuple, d a dict of ints and texts -/
def RPut (H : Hp) (a : Addr) (y v : V) (H' : Hp) : Prop := ∃ kvs, H a = some (.dK kvs) ∧ OddK H y ∧ kvs.length < sizeLine ∧ H' = upd H a (RawO a (rowsK kvs ++ [(y, v)]))
section
variable {X : Cx} {pins : List (Addr × Obj)} {σ : St} {H : Hp} {s : Shared} {a : Addr} {y v : V} {u r : Value} {A : Around} {E : Value → Shared → Prop}
theorem d_setOdd {H' : Hp} {Q : Unit → Shared → Prop} (hu : A.units + 2 < cLine) (I : Inv X pins σ H s) (g : RPut H a y v H') (ry : RelV y u) (rv : RelV v r) (h : ∀ s', Inv X pins σ H' s' → Q () s') :
    wpAny (model X.prog X.w) A (setItem (.ref a) u r) Q E s := by
  obtain ⟨kvs, e, odd, l, rfl⟩ := g
  obtain ⟨z, hd, vs, rel, o, es, ep, ho, hx, hdt, hk, pr, nd⟩ := dk_of I.hok e
  have hu1 : A.in1.units + 1 < cLine := hu
  have hz : es.size ≤ sizeLine := by
    have l1 := pr.length
    have l2 : kvs.length = vs.length := Paired.length rel
    rw [Array.length_toList] at l1
    omega
  have rows := raw_rows rel pr
  have done : ∀ (k : NestedKey) h' hh, h'.DictRaw a (es.push ⟨hh, u, r⟩) (ep + 1) → Heap.SameBut a s.heap h' → Q () { s with heap := h', toks := s.toks + k.draws } := fun k h' hh dr sb => h _ (d_write I (by rw [e]; exact True.intro) sb (let ⟨o, ho, _⟩ := dr; ⟨o, ho⟩) (raw_ok hd (by rw [List.length_append]; unfold rowsK; rw [List.length_map]; show kvs.length + 1 ≤ _; omega) dr (by
    rw [Array.toList_push]
    exact Paired.snoc rows ⟨ry, rv⟩)))
  have all : ∀ en ∈ es, carriedByValue en.key = true ∧ ∃ k, NestedIs s.heap (nkK k) en.key := fun en hen => by
    obtain ⟨k, hk1, _⟩ := hk en hen
    obtain ⟨q1, q2⟩ := nested_key (h := s.heap) (show keyIs k en.key = true from hk1)
    exact ⟨q2, k, q1⟩
  rcases odd with rfl | ⟨b, ks, rfl, hb⟩
  · obtain rfl : u = Value.none := ry
    have m : Missed s .none es := ⟨fun en hen => by
      obtain ⟨q1, k, q2⟩ := all en hen
      refine ⟨q1, _, q2, ?_, ?_⟩ <;> cases k <;> rfl⟩
    exact wpAny_setItem_missed (k := .none) ho hx hdt .none (by show A.in1.units + 0 < cLine; omega) hz (fun t hh Q' q' => find_none_missed (s := { s with toks := t }) ho hdt ⟨m.all⟩ (by omega) q') (done .none)
  · obtain rfl : u = Value.ref b := ry
    obtain ⟨_, its, rr, ob, h1, h2, n, h3⟩ := (show ObjOk X.prog X.w H s.heap b (.tup (ks.map kV)) from I.hok b _ hb)
    have hn : NestedIs s.heap (.tup (ks.map nkK)) (.ref b) := .tup h1 h2 h3 (by simpa using nested_keys rr)
    have dp : NestedKey.depth (.tup (ks.map nkK)) = 1 := by
      show NestedKey.depthAll (ks.map nkK) + 1 = 1
      rw [nkK_depth]
    have m : Missed s (.tup (ks.map nkK)) es := ⟨fun en hen => by
      obtain ⟨q1, k, q2⟩ := all en hen
      refine ⟨q1, _, q2, ?_, ?_⟩ <;> cases k <;> rfl⟩
    exact wpAny_setItem_missed (k := .tup (ks.map nkK)) ho hx hdt hn (by rw [dp]; exact hu1) hz (fun t hh Q' q' => find_ref_missed (s := { s with toks := t }) ho hdt hn (by rw [dp]; omega) ⟨m.all⟩ (by omega) q') (done _)
end
end L2
namespace L2
open PySem PySem.Spec PyProof.Rows
/-- d[y] = v, y of any kind -/
def sRPut (td ty tv : TE) : TS := fun D σ H => tv σ H fun v H1 => td σ H1 fun x H2 => ty σ H2 fun y H3 => ∃ a H4, x = .ref a ∧ (DPut H3 a y v H4 ∨ RPut H3 a y v H4) ∧ D.nx σ H4
/-- the rows of a dict: of ints and texts, or of any keys -/
def RowsO (d : Addr) (u : HO) (rows : List (V × V)) : Prop := (∃ kvs, u = .dK kvs ∧ rows = rowsK kvs) ∨ u = RawO d rows
theorem RowsO.mut {d : Addr} {u : HO} {rows : List (V × V)} (h : RowsO d u rows) : Mut (some u) := by
  rcases h with ⟨kvs, rfl, _⟩ | rfl <;> exact True.intro
def Itkr (d : Addr) (o : Obj) (rows : List (V × V)) : It :=
  ⟨fun i H => H d = some (.frz o (RawO d rows)) ∧ i < rows.length, fun i H x H' => H' = H ∧ ∃ v, rows[i]? = some (x, v), fun i H => H d = some (.frz o (RawO d rows)) ∧ rows.length ≤ i⟩
section
variable {X : Cx} {pins : List (Addr × Obj)} {σ : St} {H : Hp} {s : Shared} {d : Addr} {o : Obj} {rows : List (V × V)}
theorem Inv.frzR (I : Inv X pins σ H s) (h : H d = some (.frz o (RawO d rows))) :
    (d == sysModules) = false ∧ s.heap.get? d = some o ∧ o.ExactDict ∧ ∃ (es : Array DictEntry) (ep : Nat), o.data = .dict es ep ∧ es.size = rows.length ∧ Paired (fun (r : V × V) (e : DictEntry) => RelV r.1 e.key ∧ RelV r.2 e.val) rows es.toList := by
  obtain ⟨hd, x⟩ := (show s.heap.get? d = some o ∧ ObjOk X.prog X.w H s.heap d (RawO d rows) from I.hok d _ h)
  obtain ⟨hs, z, es, ep, ⟨o', ho, hx, hdt⟩, p⟩ := raw_of x
  rw [hd] at ho
  cases ho
  exact ⟨hs, hd, hx, es, ep, hdt, ((Paired.length p).trans Array.length_toList).symm, p⟩
end
theorem paired_at {α β : Type} {F : α → β → Prop} : ∀ {l₁ : List α} {l₂ : List β} {i : Nat} {a : α}, Paired F l₁ l₂ → l₁[i]? = some a → ∃ b, l₂[i]? = some b ∧ F a b
  | _, _, 0, _, .cons h _, e => by cases e; exact ⟨_, rfl, h⟩
  | _, _, i + 1, _, .cons _ t, e => paired_at (i := i) t e
  | _, _, i, _, .nil, e => by cases i <;> cases e
section
variable {P : Program} {w : World} {K : PySem.W.Frag} {tg : Expr} {d : Addr} {o : Obj} {es : Array DictEntry} {ep : Nat}
theorem turn_keysR {rows : List (V × V)} (it : Addr) (hod : o.data = .dict es ep) : Turn P w K tg (Itkr d o rows) [it] it (fun i h => h.IsKeyIter it d i rows.length ep) where
  mem := by simp
  obj := fun i h st b hb => by
    have e : b = it := by simpa using hb
    subst e
    obtain ⟨oi, e, c, dd⟩ := st
    exact ⟨oi, e, fun v z => by rw [dd] at z; cases z⟩
  keep := fun i h h' st k => st.at fun oi e => k it (by simp) oi e
  item := by
    intro X hP hw hK hc i pins s σ H E I hf st hg
    subst hP hw hK
    obtain ⟨hd, hi⟩ := hg
    obtain ⟨f0, f1, f2, f3, f4, f5⟩ := hf it (by simp)
    obtain ⟨hs, hgd, hx, es', ep', hdt, hsz, ent⟩ := I.frzR hd
    obtain ⟨rfl, rfl⟩ := dict_ep hod hdt
    obtain ⟨⟨k, v⟩, hkv⟩ : ∃ p, rows[i]? = some p := ⟨rows[i], List.getElem?_eq_getElem hi⟩
    obtain ⟨en, hen, hkey, _⟩ := paired_at ent hkv
    refine next_key_item st hgd hdt hsz (by rw [← Array.getElem?_toList]; exact hen) fun h' st' sb => ?_
    have I1 : Inv X pins σ H { s with heap := h' } := I.turned (t' := s.toks) (fun b ob hb e => (sb.2 b hb).trans e) f0 f1 f3 f4 f5
    obtain ⟨oi, e, c, dd⟩ := id st'
    exact ⟨en.key, rfl, go_of (s := { s with heap := h' }) e c dd (by decide) ⟨k, H, I1, hkey, ⟨rfl, v, hkv⟩, st', fun b hb => (hf b hb).1⟩⟩
  done := by
    intro X hP hw hK hc i pins s σ H E I hf st hg
    subst hP hw hK
    obtain ⟨hd, hi⟩ := hg
    obtain ⟨f0, f1, f2, f3, f4, f5⟩ := hf it (by simp)
    obtain ⟨hs, hgd, hx, es', ep', hdt, hsz, ent⟩ := I.frzR hd
    obtain ⟨rfl, rfl⟩ := dict_ep hod hdt
    exact next_key_end (I.ok.hd hc) st hgd hdt hsz hi fun h' eb => ⟨rfl, I.turned (t' := s.toks) (fun b ob hb e => eb b ob hb e) f0 f1 f3 f4 f5⟩
  self := fun A i s Q E st h => by
    refine wpAny_pyIter_slot st.typeIs F.slot_dict_keyiterator_iter (wpAny_call_entry F.slot_dict_keyiterator_iter st.typeIs F.entry_dict_keyiterator_iter ?_ (F.args_dict_keyiterator_iter_1 _))
    show wpAny _ _ (ret (.ref it)) _ _ s
    exact wpAny_pure ⟨_, rfl, "dict_keyiterator", _, st.typeIs, F.slot_dict_keyiterator_next.lookup, h⟩
theorem walk_keysR {rows : List (V × V)} : Walk (Itkr d o rows) rows.length (fun H => H d = some (.frz o (RawO d rows))) (fun i H x H' => H' = H ∧ ∃ v, rows[i]? = some (x, v)) :=
  ⟨fun _ _ hi q => ⟨q, hi⟩, fun _ q => ⟨q, Nat.le_refl _⟩, fun _ _ _ _ _ _ y => y⟩
theorem rowsK_len (kvs : List (Key × V)) : (rowsK kvs).length = kvs.length := List.length_map _
theorem walk_keysK {kvs : List (Key × V)} : Walk (Itk d o kvs) (rowsK kvs).length (fun H => H d = some (.frz o (.dK kvs))) (fun i H x H' => H' = H ∧ ∃ v, (rowsK kvs)[i]? = some (x, v)) := by
  rw [rowsK_len]
  refine walk_keys.mono (fun _ h => h) fun i H x H' hi h y => ?_
  obtain ⟨rfl, k, v, hk, rfl⟩ := y
  refine ⟨rfl, v, ?_⟩
  unfold rowsK
  rw [List.getElem?_map, hk] <;> rfl
end
/-- for k in d: d of ints and texts, or of any keys (locked) -/
def iKeysO (td : TE) : TI := fun σ H R => td σ H fun x H1 => ∃ (d : Addr) (o : Obj) (u : HO) (rows : List (V × V)), x = .ref d ∧ H1 d = some (.frz o u) ∧ RowsO d u rows ∧
  ∀ J, Walk J rows.length (fun H => H d = some (.frz o u)) (fun i H x H' => H' = H ∧ ∃ v, rows[i]? = some (x, v)) → R J H1
section
variable {X : Cx} {tg e : Expr} {td : TE}
theorem pi_keysO (he : PE X e td) : PI X tg e (iKeysO td) := by
  refine ⟨fun pins s σ H R I h => ?_⟩
  refine thn (he.run pins s σ H _ I h) fun u s1 ⟨x, H1, I1, rx, d, o, ob, rows, ex, hd, ro, q⟩ => ?_
  subst ex
  obtain rfl : u = Value.ref d := rx
  rcases ro with ⟨kvs, rfl, rfl⟩ | rfl
  · obtain ⟨hs, hgd, hx, es, ep, vs, hdt, hsz, kv, hm⟩ := I1.frzK hd
    refine iter_keys hs hgd hx hdt (pi_one (tk := s1.toks) I1 _ (turn_keys _ hdt) ⟨_, Heap.get?_push_size _ rfl, rfl, ?_⟩ (q _ walk_keysK))
    rw [hsz] <;> rfl
  · obtain ⟨hs, hgd, hx, es, ep, hdt, hsz, ent⟩ := I1.frzR hd
    refine iter_keys hs hgd hx hdt (pi_one (tk := s1.toks) I1 _ (turn_keysR _ hdt) ⟨_, Heap.get?_push_size _ rfl, rfl, ?_⟩ (q _ walk_keysR))
    rw [hsz] <;> rfl
theorem ps_rput {i o value : Expr} {ty tv : TE} {pos pos' : Pos} (hu : X.A.units + 2 < cLine) (ho : PE X o td) (hi : PE X i ty) (hv : PE X value tv) (hs : swapsWith value (some (.Subscript o i pos')) pos.line X.env = pure false) :
    PS X (.Assign [.Subscript o i pos'] value pos) (sRPut td ty tv) := by
  refine ⟨fun pins s σ H D I h => ?_⟩
  refine wpAny_Assign_Subscript (thn (hv.run pins s σ H _ I h) fun r s1 ⟨v, H1, I1, rv, q1⟩ => thn (ho.run pins s1 σ H1 _ I1 q1) fun u s2 ⟨x, H2, I2, rx, q2⟩ => thn (hi.run pins s2 σ H2 _ I2 q2) fun iv s3 ⟨y, H3, I3, ry, a, H4, ex, g, q3⟩ => ?_) hs
  subst ex
  obtain rfl : u = Value.ref a := rx
  rcases g with g | g
  · exact d_setItem (by omega) I3 g ry rv fun s4 I4 => ⟨σ, H4, I4, q3⟩
  · exact d_setOdd hu I3 g ry rv fun s4 I4 => ⟨σ, H4, I4, q3⟩
/-- isinstance(d, dict), d of any keys -/
theorem call_isiR : CallR X (.builtin "isinstance") (fun xs H Q => ∃ (a : Addr) (rows : List (V × V)) (o : Option Obj), xs = [.ref a, .ty "dict"] ∧ (H a = some (RawO a rows) ∨ ∃ o, H a = some (.frz o (RawO a rows))) ∧ Q (.bl true) H) := by
  intro pins s σ H xs us Q I r h
  obtain ⟨a, rows, _, rfl, ha, q⟩ := h
  obtain ⟨u1, u2, rfl, r1, r2⟩ := vals2 r
  cases (show u1 = Value.ref a from r1)
  cases (show u2 = Value.type "dict" from r2)
  have ok : ObjOk X.prog X.w H s.heap a (RawO a rows) := by
    rcases ha with ha | ⟨o, ha⟩
    · exact I.hok a _ ha
    · exact (show s.heap.get? a = some o ∧ ObjOk X.prog X.w H s.heap a (RawO a rows) from I.hok a _ ha).2
  obtain ⟨_, _, es, ep, ⟨o, ho, hx, _⟩, _⟩ := raw_of ok
  exact PySem.W.kia_one PySem.W.kitx_dict I.kIn ⟨o, ho, hx.1⟩ (kit_ty (r := true) (by decide +kernel)) (fun z => nomatch z) fun tk => ⟨.bl true, H, I.tok tk, rfl, q⟩
theorem call_len_raw {pr : Program} {wd : World} {A : Around} {E : Value → Shared → Prop} {s : Shared} {d : Addr} {es : Array DictEntry} {ep : Nat} {Q : Value → Shared → Prop} (hd : (d == sysModules) = false) (hm : s.heap.DictRaw d es ep) (hfit : (es.size : Int) < 2 ^ 63)
    (h : Q (.int es.size (s.toks + 1)) { s with toks := s.toks + 1 + 1 }) : wpAny (model pr wd) A (call (.builtin "len") [.ref d]) Q E s := by
  refine Calls.call_function_entry kind_len plain_len entry_len (args_len1 _) ?_
  unfold Builtin.«len»
  refine wpAny_bind (m := oneArg "len" _) (wpAny_pure ?_)
  refine wpAny_bind (m := callSpecial? (.ref d) (Str.ofString "__len__")) (wpAny_callSpecial?_slot (name := Str.ofString "__len__") hm.typeIs F.slot_dict_len
    (call_meetsIn F.slot_dict_len hm.typeIs F.entry_dict_len (F.args_dict_len_1 _) (meets_dict_len_raw d hd) ⟨es, ep, hm, ?_⟩))
  show wpAny _ _ _ _ _ { s with toks := s.toks + 1 }
  refine wpAny_bind (wpAny_holding (wpAny_pure ?_))
  refine wpAny_bind (wpAny_letGo ?_)
  show wpAny _ _ (if ((es.size : Nat) : Int) < 0 then _ else _) _ _ _
  rw [if_neg (by omega)]
  show wpAny _ _ (if ((es.size : Nat) : Int) ≥ 2 ^ 63 then _ else _) _ _ _
  rw [if_neg (by omega)]
  exact wpAny_bind (wpAny_mkInt (wpAny_pure ⟨_, rfl, h⟩))
def rLenR : List V → Hp → VK → Prop := fun xs H Q => ∃ (a : Addr) (rows : List (V × V)), xs = [V.ref a] ∧ H a = some (RawO a rows) ∧ Q (.int ((rows.length : Nat) : Int)) H
theorem call_lenR : CallR X (.builtin "len") rLenR := by
  intro pins s σ H xs us Q I r h
  obtain ⟨a, rows, rfl, ha, q⟩ := h
  obtain ⟨u, rfl, ru⟩ := vals1 r
  obtain rfl : u = .ref a := ru
  obtain ⟨hs, z, es, ep, dr, p⟩ := raw_of (I.hok a _ ha)
  have hl : rows.length = es.size := by
    have l := Paired.length p
    rw [Array.length_toList] at l
    exact l
  refine call_len_raw hs dr (by rw [← hl]; rw [sizeLine_eq] at z; omega) ?_
  rw [← hl]
  exact ⟨.int ((rows.length : Nat) : Int), H, I.tok _, ⟨_, rfl⟩, q⟩
end
end L2


/-! need_feasible, where the sizes may be a dict with a key of another kind -/
namespace FT
open PySem L2 TL ClX
theorem FnOk.or {P : Program} {w : World} {K : PySem.W.Frag} {mg : Str → Option Value} {base : Heap} {CX : CXT} {k : Nat} {f : Addr} {fd : FuncData} {ps : List Str} {sp sp' : Sp} (h : FnOk P w K mg base CX k f fd ps sp) (h' : FnOk P w K mg base CX k f fd ps sp') :
    FnOk P w K mg base CX k f fd ps (fun vs H Q E => sp vs H Q E ∨ sp' vs H Q E) := by
  refine ⟨fun vs H Q E q => ?_, fun A outer s H args us vs Q E r e0 b v q => ?_⟩
  · rcases q with q | q
    · exact h.len _ _ _ _ q
    · exact h'.len _ _ _ _ q
  · rcases q with q | q
    · exact h.run A outer s H args us vs Q E r e0 b v q
    · exact h'.run A outer s H args us vs Q E r e0 b v q
def spFeasR (CF CS : Addr) : Sp := fun vs H _ E => ∃ (x b : Addr) (n : Int) (ts : List (Str × Str)) (rows : List (V × V)), vs = [.ref x, .int n, .ref b] ∧ FAt CF H x ts ∧ TreeOk ts ∧ H b = some (RawO b rows) ∧ rows.length ≠ ts.length ∧ Out H E (.e1 CS "place" .non)
def spFeasM (K : PySem.W.Frag) (CF CS : Addr) : Sp := fun vs H Q E => spFeas K CF CS vs H Q E ∨ spFeasR CF CS vs H Q E
section
variable {P : Program} {w : World} {K : PySem.W.Frag} {mg : Str → Option Value} {base : Heap}
theorem ok_feasM {f fR fI CF CS IS p1 g1 : Addr} {fd fdR fdI dS fd1 : FuncData} (F : Fun K "need_feasible" "need_feasible" s_need_feasible f fd) (T : Nm mg) (O : FoC K CF) (S : Er1 P w K mg base "InvalidSizes" "place" CS IS dS)
    (R : Dn P w K mg base CX0 4 "residents_of" ["forest", "users", "sizes"] (spResid CF) fR fdR) (I : Dn P w K mg base CX0 1 "is_integer" ["value", "least"] (spIsInt K) fI fdI) (L1 : Pr1 P w K mg base CF "flags" (spFFlags CF) p1 g1 fd1) :
    FnOk P w K mg base (L2.CX P w) 5 f fd ["forest", "users", "sizes"] (spFeasM K CF CS) := by
  refine FnOk.or (ok_feas F T O S R I L1) ?_
  refine F.okX scFe (fun vs H Q E h => ?_) (fun cdv A outer s H vs Q E hr h => ?_)
  · obtain ⟨x, b, n, ts, rows, rfl, _⟩ := h
    rfl
  · obtain ⟨x, b, n, ts, rows, rfl, fa, o, hb, ne, k⟩ := h
    have hu := hu_of hr
    have hr2 : Room 2 _ := hr.mono (by decide)
    have big : 1000 ≤ sizeLine := by decide
    have few := o.few
    refine ⟨_, pss_cons (ps_if (PW.pt (pw_or (pt_not (pt_val (pe_callB call_isiR (by rfl) T.isi (by decide +kernel) (pa_cons (pv 2) (pa_cons (pe_bltn (v := .ty "dict") (u := .type "dict") (by rfl) T.dct (by decide +kernel) rfl) pa_nil)))))
        (pw_or1 (pt_cmpR op_ne (pe_callB call_lenR (by rfl) T.len PySem.boot_len (pa_cons (pv 2) pa_nil)) (pe_callB call_len_seq (by rfl) T.len PySem.boot_len (pa_cons (pe_prop (pv 0) O.cl L1.pr L1.fn hr2 L1.bn .nil pass0 (by rfl)) pa_nil)) (nomark _)))))
        (pss_one (ps_err1 S rfl (takes_of rfl rfl rfl rfl) hr2 rfl pe_non)) pss_nil)
      (pss_cons (ps_if (pt_not (pt_val (pe_callB (cr_all rfl) (by rfl) T.all (by decide +kernel) (pa_cons (pe_lc (own := [("name", 3)]) (g := gName 3) (tt := tYes) rfl scFe.nd (pi_list (pe_prop (pv 0) O.cl L1.pr L1.fn hr2 L1.bn .nil pass0 (by rfl)))
          (blkOk_by (N := NFe) (sc := defScope s_need_feasible) (by decide +kernel))
          (fun _ _ _ _ _ => pg_name (i := 3) scFe.nd rfl (Or.inl rfl)) (fun _ _ _ _ _ => pts_nil) (fun _ _ _ _ _ => pe_cmp (pc_din hu (pv 3) (pv 2)) rfl)) pa_nil))))
        (pss_one (ps_err1 S rfl (takes_of rfl rfl rfl rfl) hr2 rfl pe_non)) pss_nil)
      (pss_cons (ps_for (passes_of rfl) rfl (pi_list (pe_prop (pv 0) O.cl L1.pr L1.fn hr2 L1.bn .nil pass0 (by rfl))) (pg_name (i := 3) scFe.nd rfl (.inl rfl))
        (pss_one (ps_if (pt_not (pt_val (pe_call I.ok (hr.mono (by decide)) rfl I.mgn I.kp I.bn .nil pass0 (pa_cons (pe_dget hu (pv 2) (pv 3) (fun _ _ => rfl)) (pa_cons pe_int pa_nil))))) (pss_one (ps_err1 S rfl (takes_of rfl rfl rfl rfl) hr2 rfl (pv 3))) pss_nil)))
      (pss_cons (ps_set (i := 4) scFe.nd rfl (.inl rfl) (pe_call R.ok hr rfl R.mgn R.kp R.bn .nil pass0 (pa_cons (pv 0) (pa_cons (pv 1) (pa_cons (pv 2) pa_nil)))))
      (pss_one (ps_lock (ps_for (passes_of rfl) rfl (pi_keys (pv 4)) (pg_name (i := 5) scFe.nd rfl (.inl rfl))
        (pss_one (ps_if (pt_cmpR op_lt (pe_dget hu (pv 4) (pv 5) (fun _ _ => rfl)) pe_int (nomark _)) (pss_one (ps_err1 S rfl (takes_of rfl rfl rfl rfl) hr2 rfl (pv 5))) pss_nil)))))))), ?_⟩
    obtain ⟨dx, dq, hx, hd⟩ := id fa
    refine ⟨_, rfl, b, rows, none, rfl, .inl hb, _, rfl, iteF ?_⟩
    refine ⟨_, rfl, b, rows, rfl, hb, ?_⟩
    refine ⟨_, rfl, x, dx, _, rfl, hx, x, ts, rfl, fa, fun pf nf => ⟨pf, _, rfl, .inl (SqL.of upd_same), rfl, _, rfl, ?_⟩⟩
    rw [List.length_map, List.length_map, len_int]
    have s1 := same_new (o := .lst ((ts.map Prod.fst).map V.str)) nf
    rw [decide_eq_false ne]
    exact iteT (out1 (H := H) k s1)
end
end FT


/-! sizes of any kind: data, or a dict with a key of another kind -/
namespace FT
open PySem L2 TL ClX
/-- a value for sizes of m flags: a dict with the entries o, or no dict of as many entries -/
def SzM (K : PySem.W.Frag) (H : Hp) (m : Nat) (sv : V) (o : Option (List (Key × V))) : Prop := SzV K H sv o ∨ (o = none ∧ ∃ b rows, sv = .ref b ∧ H b = some (RawO b rows) ∧ rows.length ≠ m)
theorem SzM.mono {K : PySem.W.Frag} {H H' : Hp} {m : Nat} {sv : V} {o : Option (List (Key × V))} (s : Same H H') (h : SzM K H m sv o) : SzM K H' m sv o := by
  rcases h with h | ⟨e, b, rows, e1, e2, e3⟩
  · exact .inl (h.mono s)
  · exact .inr ⟨e, b, rows, e1, s _ _ e2, e3⟩
theorem SzM.some {K : PySem.W.Frag} {H : Hp} {m : Nat} {sv : V} {kvs : List (Key × V)} (h : SzM K H m sv (some kvs)) : SzV K H sv (some kvs) := by
  rcases h with h | ⟨e, _⟩
  · exact h
  · cases e
def spFeasZ (K : PySem.W.Frag) (CF CS : Addr) : Sp := fun vs H Q E => ∃ (x : Addr) (n : Int) (sv : V) (ts : List (Str × Str)) (o : Option (List (Key × V))), vs = [.ref x, .int n, sv] ∧ FAt CF H x ts ∧ TreeOk ts ∧ SzM K H ts.length sv o ∧ Res H Q E (feE CS ts n o)
/-! ### sizes that a law has bent -/
def KeyB : Key → Prop
  | .inl i => i = 3
  | .inr z => NameL z ∨ z = ""
def RawK (H : Hp) (x : V) : Prop := x = .non ∨ (∃ z, x = .str z ∧ NameL z) ∨ ∃ c, x = .ref c ∧ H c = some (.tup [.str "a"])
def BentV (K : PySem.W.Frag) (H : Hp) (m : Nat) (sv : V) : Option (List (Key × V)) → Prop
  | some kvs => ∃ q, sv = .ref q ∧ H q = some (.dK kvs) ∧ (∀ p ∈ kvs, IsDat K H p.2) ∧ (kvs.map (·.1)).Nodup ∧ kvs.length ≤ 13 ∧ ∀ p ∈ kvs, KeyB p.1
  | none => (∃ T, Dat K H sv T ∧ T ≠ "dict") ∨ ∃ b rows, sv = .ref b ∧ H b = some (RawO b rows) ∧ rows.length = m + 1 ∧ rows.length ≤ 13 ∧ ∀ r ∈ rows, RawK H r.1
theorem BentV.mono {K : PySem.W.Frag} {H H' : Hp} {m : Nat} {sv : V} {o : Option (List (Key × V))} (s : Same H H') (h : BentV K H m sv o) : BentV K H' m sv o := by
  cases o with
  | some kvs =>
    obtain ⟨q, e, h1, h2, h3⟩ := h
    exact ⟨q, e, s _ _ h1, fun p hp => (h2 p hp).mono s, h3⟩
  | none =>
    rcases h with ⟨T, d, n⟩ | ⟨b, rows, e, h1, h2, h4, h3⟩
    · exact .inl ⟨T, d.mono s, n⟩
    · refine .inr ⟨b, rows, e, s _ _ h1, h2, h4, fun r hr => ?_⟩
      rcases h3 r hr with z | z | ⟨c, z, hc⟩
      · exact .inl z
      · exact .inr (.inl z)
      · exact .inr (.inr ⟨c, z, s _ _ hc⟩)
theorem BentV.szM {K : PySem.W.Frag} {H : Hp} {m : Nat} {sv : V} {o : Option (List (Key × V))} (h : BentV K H m sv o) : SzM K H m sv o := by
  cases o with
  | some kvs =>
    obtain ⟨q, e, h1, h2, _⟩ := h
    exact .inl ⟨q, e, h1, h2⟩
  | none =>
    rcases h with ⟨T, d, n⟩ | ⟨b, rows, e, h1, h2, _⟩
    · exact .inl ⟨T, d, n⟩
    · exact .inr ⟨rfl, b, rows, e, h1, by omega⟩
end FT


/-! Rollout.change, where the sizes may be a dict with a key of another kind -/
namespace FT
open PySem L2 TL ClX LiI
def spChangeR (CF CR CS : Addr) : Sp := fun vs H _ E => ∃ (y z x b : Addr) (Ex : List Addr) (ts : List (Str × Str)) (L : Str → List Int) (ps : List (Str → Int)) (n : Nat) (rows : List (V × V)), vs = [.ref y, .ref b] ∧ RollAt CF CR Ex H y z x ts L ps ∧ TreeOk ts ∧ Val ts n L ∧
  H b = some (RawO b rows) ∧ rows.length ≠ ts.length ∧ Out H E (.e1 CS "place" .non)
def spChangeM (K : PySem.W.Frag) (CF CR CS : Addr) : Sp := fun vs H Q E => spChange K CF CR CS vs H Q E ∨ spChangeR CF CR CS vs H Q E
def spChangeZ (K : PySem.W.Frag) (CF CR CS : Addr) : Sp := fun vs H Q E => ∃ (y z x : Addr) (sv : V) (Ex : List Addr) (ts : List (Str × Str)) (L : Str → List Int) (ps : List (Str → Int)) (n : Nat) (o : Option (List (Key × V))), vs = [.ref y, sv] ∧ RollAt CF CR Ex H y z x ts L ps ∧ TreeOk ts ∧ Val ts n L ∧ 1 ≤ n ∧ n ≤ 60 ∧ ps.length ≤ 1000 ∧
  SzM K H ts.length sv o ∧ (∀ b ∈ Ex, ∃ u, H b = some u) ∧ match feE CS ts n o with
  | none => ∀ (H' : Hp) (L' : Str → List Int), Moved ts (chg ts L (kvsOf o)) L L' → Kp2 y z H H' → RollAt CF CR Ex H' y z x ts L' (ps ++ [lsz ts L]) → Q (.int ((ts.map Prod.fst).map fun a => absI (chg ts L (kvsOf o) a)).sum) H'
  | some e => Out H E e
theorem spChangeZ_imp {K : PySem.W.Frag} {CF CR CS : Addr} {vs : List V} {H : Hp} {Q : VK} {E : XK} (h : spChangeZ K CF CR CS vs H Q E) : spChangeM K CF CR CS vs H Q E := by
  obtain ⟨y, z, x, sv, Ex, ts, L, ps, n, o, rfl, ra, to, hV, n1, n60, pl, hz, hEx, k⟩ := h
  rcases hz with hz | ⟨rfl, b, rows, rfl, hb, ne⟩
  · exact .inl ⟨y, z, x, sv, Ex, ts, L, ps, n, o, rfl, ra, to, hV, n1, n60, pl, hz, hEx, k⟩
  · exact .inr ⟨y, z, x, b, Ex, ts, L, ps, n, rows, rfl, ra, to, hV, hb, ne, k⟩
section
variable {P : Program} {w : World} {K : PySem.W.Frag} {mg : Str → Option Value} {base : Heap}
theorem ok_changeM {f fF fL fA fC CF CR CS p1 g1 : Addr} {mcR : Value} {fd fdF fdL fdA fdC fd1 : FuncData} (F : Fun K "change" "Rollout.change" s_Rollout_change f fd) (T : Nm mg) (R : RoC K mg CR mcR) (NF : Dn P w K mg base (L2.CX P w) 5 "need_feasible" ["forest", "users", "sizes"] (spFeasM K CF CS) fF fdF)
    (DL : Dn P w K mg base CX0 3 "listed_sizes" ["forest", "lists"] (spLSizes CF) fL fdL) (DA : Dn P w K mg base CX0 3 "amounts_of" ["forest", "sizes", "new"] (spAmtOf CF) fA fdA) (DC : Dn P w K mg base CX0 5 "changed_lists" ["forest", "lists", "changed"] (spChanged CF) fC fdC) (PT : PrN P w K mg base 1 CR "total" (spRTotal CF CR) p1 g1 fd1) :
    FnOk P w K mg base (L2.CX P w) 6 f fd ["self", "new"] (spChangeM K CF CR CS) := by
  refine FnOk.or (ok_change F T R ⟨NF.ok.imp fun _ _ _ _ h => .inl h, NF.kp, NF.bn, NF.mgn⟩ DL DA DC PT) ?_
  refine F.okX scCg (fun vs H Q E h => ?_) (fun cdv A outer s H vs Q E hr h => ?_)
  · obtain ⟨y, z, x, b, Ex, ts, L, ps, n, rows, rfl, _⟩ := h
    rfl
  · obtain ⟨y, z, x, b, Ex, ts, L, ps, n, rows, rfl, ra, o, hV, hb, ne, k⟩ := h
    have hu := hu_of hr
    have nd := scCg.nd
    have hr2 : Room 2 _ := hr.mono (by decide)
    have hr3 : Room 3 _ := hr.mono (by decide)
    refine ⟨_, pss_cons (ps_expr (pe_call NF.ok hr rfl NF.mgn NF.kp NF.bn .nil (passes_call (takes_of rfl rfl rfl rfl) (fun _ _ _ _ h => h)) (pa_cons (pe_fld (pv 0) rfl) (pa_cons (pe_prop (pv 0) R.cl PT.pr PT.fn hr2 PT.bn .nil pass0 (by rfl)) (pa_cons (pv 1) pa_nil)))))
      (pss_cons (ps_set (i := 2) nd rfl (.inl rfl) (pe_call DL.ok hr3 rfl DL.mgn DL.kp DL.bn .nil pass0 (pa_cons (pe_fld (pv 0) rfl) (pa_cons (pe_fld (pv 0) rfl) pa_nil))))
      (pss_cons (ps_set (i := 3) nd rfl (.inl rfl) (pe_call DA.ok hr3 rfl DA.mgn DA.kp DA.bn .nil pass0 (pa_cons (pe_fld (pv 0) rfl) (pa_cons (pv 2) (pa_cons (pv 1) pa_nil)))))
      (pss_cons (ps_fld (pv 0) (pe_call DC.ok hr rfl DC.mgn DC.kp DC.bn .nil pass0 (pa_cons (pe_fld (pv 0) rfl) (pa_cons (pe_fld (pv 0) rfl) (pa_cons (pv 3) pa_nil)))) rfl)
      (pss_cons (ps_expr (pe_bm PySem.F.plainAttrs_list PySem.F.slot_list_append PySem.F.type_list_append mt_append (pe_fld (pv 0) rfl) (pa_cons (pv 2) pa_nil)))
      (pss_one (ps_ret (pe_callB (cr_sum rfl) (by rfl) T.sum (by decide +kernel) (pa_cons (pe_lock (pe_lc (own := [("amount", 4)]) (g := gName 4) (tt := tYes) rfl nd (pi_values (pv 3)) (blkOk_by (N := NCg) (sc := defScope s_Rollout_change) (by decide +kernel))
        (fun _ _ _ _ _ => pg_name (i := 4) nd rfl (Or.inl rfl)) (fun _ _ _ _ _ => pts_nil) (fun _ _ _ _ _ => pe_callB call_abs (by rfl) T.abs (by decide +kernel) (pa_cons (pv 4) pa_nil)))) pa_nil)))))))), ?_⟩
    have fa := ra.fa
    have ra0 := ra
    obtain ⟨dy, q, dx, dq, r, rs, hy, hL, hz0, hps, hx, hd, off1, off2⟩ := ra
    refine ⟨_, rfl, y, CR, dy, _, .ref x, rfl, hy, R.cl, R.nG, rfl, _, rfl, y, dy, _, rfl, hy, y, z, x, Ex, ts, L, ps, n, rfl, ra0, o, hV, fun H1 s1 => ⟨_, rfl, .inr ⟨x, b, (n : Int), ts, rows, rfl, fa.mono s1, o, s1 _ _ hb, ne, Out.mono s1 k⟩⟩⟩
end
end FT


/-! what stands while a law with lambdas draws (cut from K18P) -/
namespace FT
open PySem L2 TL ClX LiI LamX
/-- an object that is no table and none of one's own kind -/
def Solid (H : Hp) (b : Addr) : Prop := ∃ u, H b = some u ∧ (∀ ps, u ≠ .tbl ps) ∧ ∀ φ, u ≠ .ext φ
theorem Tabs.kx {T : List (Addr × Str)} {Z : List Addr} {H H' : Hp} (k : KeepX Z H H') (hz : ∀ b ∈ Z, Solid H b) (tb : Tabs T H) : Tabs T H' := fun p hp => by
  obtain ⟨ps, e1, e2, e3⟩ := tb p hp
  have off : ∀ {b : Addr} {o : HO}, H b = some o → ((∃ ps, o = .tbl ps) ∨ ∃ φ, o = .ext φ) → H' b = some o := fun {b o} e n => k _ _ (fun m => by
    obtain ⟨u, h1, h2, h3⟩ := hz b m
    rw [e] at h1
    cases h1
    rcases n with ⟨ps, n⟩ | ⟨φ, n⟩
    · exact h2 ps n
    · exact h3 φ n) e
  refine ⟨ps, off e1 (.inl ⟨ps, rfl⟩), e2, fun pos cv hc => ?_⟩
  obtain ⟨c', q1, q2⟩ := e3 pos cv hc
  exact ⟨c', q1, off q2 (.inr ⟨_, rfl⟩)⟩
theorem DrawB.ext {H H' : Hp} {d l i : Addr} {b : Int} (k : ExtN H H') (x : DrawB H d l i b) : DrawB H' d l i b := by
  obtain ⟨lf, tn, lg, it, a1, a2, a3, r⟩ := x
  exact ⟨lf, tn, lg, it, k _ _ a1 (by intro _ z; cases z), k _ _ a2 (by intro _ z; cases z), k _ _ a3 (by intro _ z; cases z), r⟩
theorem DrawB.solid {H : Hp} {d l i : Addr} {b : Int} (x : DrawB H d l i b) : Solid H d ∧ Solid H l ∧ Solid H i := by
  obtain ⟨lf, tn, lg, it, a1, a2, a3, _⟩ := x
  exact ⟨⟨_, a1, (by intro _ z; cases z), (by intro _ z; cases z)⟩, ⟨_, a2, (by intro _ z; cases z), (by intro _ z; cases z)⟩, ⟨_, a3, (by intro _ z; cases z), (by intro _ z; cases z)⟩⟩
theorem Solid.some {H : Hp} {b : Addr} (h : Solid H b) : ∃ u, H b = some u := let ⟨u, e, _⟩ := h; ⟨u, e⟩
theorem IsDat.ext {K : PySem.W.Frag} {H H' : Hp} {v : V} {T : String} (k : ExtN H H') (d : Dat K H v T) : Dat K H' v T := by
  cases d with
  | non => exact .non
  | bl b => exact .bl b
  | int i => exact .int i
  | str z => exact .str z
  | lst h => exact .lst (k _ _ h (by intro _ z; cases z))
  | tup h => exact .tup (k _ _ h (by intro _ z; cases z))
  | dct h => exact .dct (k _ _ h (by intro _ z; cases z))
theorem SzM.ext {K : PySem.W.Frag} {H H' : Hp} {m : Nat} {sv : V} {o : Option (List (Key × V))} (k : ExtN H H') (h : SzM K H m sv o) : SzM K H' m sv o := by
  rcases h with h | ⟨e, b, rows, e1, e2, e3⟩
  · cases o with
    | none => exact let ⟨T, d, n⟩ := h; .inl ⟨T, IsDat.ext k d, n⟩
    | some kvs => exact let ⟨q, e, h, a⟩ := h; .inl ⟨q, e, k _ _ h (by intro _ z; cases z), fun p hp => let ⟨T, d⟩ := a p hp; ⟨T, IsDat.ext k d⟩⟩
  · exact .inr ⟨e, b, rows, e1, k _ _ e2 (by intro _ z; cases z), e3⟩
theorem FAt.extS {CF x : Addr} {H H' : Hp} {ts : List (Str × Str)} (k : ExtN H H') (h : FAt CF H x ts) : FAt CF H' x ts := let ⟨dx, dq, e1, e2⟩ := h; ⟨dx, dq, k _ _ e1 (by intro _ z; cases z), k _ _ e2 (by intro _ z; cases z)⟩
theorem FAt.drawS {CF : Addr} {H H' : Hp} {d l i x : Addr} {b : Int} {ts : List (Str × Str)} (w : DrawB H d l i b) (k : KeepX [d, l] H H') (h : FAt CF H x ts) : FAt CF H' x ts := by
  obtain ⟨dx, q, e1, e2⟩ := h
  have o2 := w.off_prs e2
  obtain ⟨lf, tn, lg, it, a1, a2, a3, _⟩ := w
  exact ⟨dx, q, kx_at k e1 (ne_of e1 a1 (by intro z; cases z)) (ne_of e1 a2 (by intro z; cases z)), kx_at k e2 o2.1 o2.2.1⟩
/-- the draws, the lambdas, the parents, the forest -/
structure S23 (T : List (Addr × Str)) (CF d l i q x : Addr) (t ts : List (Str × Str)) (b : Int) (H : Hp) : Prop where
  dr : DrawB H d l i b
  tb : Tabs T H
  hq : H q = some (.dK (prs t))
  fa : FAt CF H x ts
section
variable {T : List (Addr × Str)} {CF d l i q x : Addr} {t ts : List (Str × Str)} {b : Int} {H H' : Hp}
theorem S23.more {b' : Int} (s : S23 T CF d l i q x t ts b H) (h : b ≤ b') : S23 T CF d l i q x t ts b' H := ⟨s.dr.more h, s.tb, s.hq, s.fa⟩
theorem S23.same (s : S23 T CF d l i q x t ts b H) (k : Same H H') : S23 T CF d l i q x t ts b H' := ⟨s.dr.mono k, s.tb.ext k, k _ _ s.hq, s.fa.mono k⟩
theorem S23.ext (s : S23 T CF d l i q x t ts b H) (k : ExtN H H') (tb : Tabs T H') : S23 T CF d l i q x t ts b H' := ⟨s.dr.ext k, tb, k _ _ s.hq (by intro _ z; cases z), s.fa.extS k⟩
theorem S23.draw {b' : Int} (s : S23 T CF d l i q x t ts b H) (k : KeepX [d, l] H H') (dr : DrawB H' d l i b') : S23 T CF d l i q x t ts b' H' := by
  have qd := s.dr.off_prs s.hq
  have sd := s.dr.solid
  refine ⟨dr, Tabs.kx k (fun c hc => ?_) s.tb, k _ _ (by simp [qd.1, qd.2.1]) s.hq, s.fa.drawS s.dr k⟩
  simp only [List.mem_cons, List.not_mem_nil, or_false] at hc
  rcases hc with rfl | rfl
  · exact sd.1
  · exact sd.2.1
end
end FT


/-! plain: pairs in order and turned about -/
namespace FT
open PySem L2 TL ClX LiI
theorem pair_app {α β : Type} {F : α → β → Prop} : ∀ {xs xs' : List α} {ys ys' : List β}, Paired F xs ys → Paired F xs' ys' → Paired F (xs ++ xs') (ys ++ ys')
  | _, _, _, _, .nil, q => q
  | _, _, _, _, .cons h t, q => .cons h (pair_app t q)
theorem pair_rev {α β : Type} {F : α → β → Prop} : ∀ {xs : List α} {ys : List β}, Paired F xs ys → Paired F xs.reverse ys.reverse
  | _, _, .nil => .nil
  | _, _, .cons h t => by
    rw [List.reverse_cons, List.reverse_cons]
    exact pair_app (pair_rev t) (.cons h .nil)
theorem pair_imp {α β : Type} {F G : α → β → Prop} (m : ∀ x y, F x y → G x y) : ∀ {xs : List α} {ys : List β}, Paired F xs ys → Paired G xs ys
  | _, _, .nil => .nil
  | _, _, .cons h t => .cons (m _ _ h) (pair_imp m t)
theorem tblI_rev (l : List Str) (s : Str → Int) : (tblI l s).reverse = tblI l.reverse s := by
  rw [tblV_int, tblV_int]
  unfold tblV kvT
  rw [← List.map_reverse, ← List.map_reverse]
def spFlip : Sp := fun vs H Q _ => ∃ (q : Addr) (l : List Str) (s : Str → Int), vs = [.ref q] ∧ H q = some (.dK (tblI l s)) ∧ l.Nodup ∧ l.length ≤ 64 ∧ ∀ (p : Addr) (H' : Hp), Same H H' → H p = none → H' p = some (.dK (tblI l.reverse s)) → Q (.ref p) H'
end FT


/-! _law_bent_sizes -/
namespace FT
open PySem L2 TL ClX LiI
def spBentB (K : PySem.W.Frag) : Sp := fun vs H Q _ => ∃ (d l i q qw : Addr) (b : Int) (t : List (Str × Str)) (lo : List Str) (s : Str → Int), vs = [.ref d, .ref q, .ref qw] ∧ DrawB H d l i b ∧ b + 10 ≤ 10 ^ 12 ∧ H q = some (.dK (prs t)) ∧ TreeOk t ∧ H qw = some (.dK (tblI lo s)) ∧ lo.Perm (t.map Prod.fst) ∧
  ∀ (sv : V) (o : Option (List (Key × V))) (H' : Hp), (∀ H'', KeepX [d, l] H' H'' → BentV K H'' t.length sv o) → DrawB H' d l i (b + 10) → KeepX [d, l] H H' → Q sv H'
theorem putK_mem {kvs : List (Key × V)} {k : Key} {v : V} {p : Key × V} (h : p ∈ putK kvs k v) : (p.1 = k ∧ p.2 = v) ∨ p ∈ kvs := by
  unfold putK at h
  split at h
  · obtain ⟨c, hc, e⟩ := List.mem_map.mp h
    by_cases z : c.1 = k
    · rw [if_pos z] at e
      exact .inl ⟨by rw [← e]; exact z, by rw [← e]⟩
    · rw [if_neg z] at e
      exact .inr (e ▸ hc)
  · rcases List.mem_append.mp h with h | h
    · exact .inr h
    · rw [List.mem_singleton.mp h]
      exact .inl ⟨rfl, rfl⟩
theorem putK_keys {kvs : List (Key × V)} {k : Key} {v : V} (h : k ∈ kvs.map (·.1)) : (putK kvs k v).map (·.1) = kvs.map (·.1) := by
  unfold putK
  have a : (kvs.any fun kv => decide (kv.1 = k)) = true := by
    obtain ⟨c, hc, e⟩ := List.mem_map.mp h
    exact List.any_eq_true.mpr ⟨c, hc, decide_eq_true e⟩
  rw [if_pos a, List.map_map]
  refine List.map_congr_left fun c _ => ?_
  show (if c.1 = k then (c.1, v) else c).1 = c.1
  split <;> rfl
theorem tblI_mem {l : List Str} {s : Str → Int} {p : Key × V} (h : p ∈ tblI l s) : ∃ a, a ∈ l ∧ p = (Sum.inr a, V.int (s a)) := by
  unfold tblI kvT at h
  rw [List.map_map] at h
  obtain ⟨a, ha, e⟩ := List.mem_map.mp h
  exact ⟨a, ha, e.symm⟩
theorem tblI_nd {l : List Str} {s : Str → Int} (h : l.Nodup) : ((tblI l s).map (·.1)).Nodup := by
  rw [tblI_keys]
  exact List.Pairwise.map _ (fun a b n e => n (Sum.inr.inj e)) h
abbrev NBeB : List Str := ["_law_draw", "_law_parents", "_law_wide", "_law_bent", "_law_way", "_law_name", "_law_size"]
section
variable {P : Program} {w : World} {K : PySem.W.Frag} {mg : Str → Option Value} {base : Heap}
end
end FT


/-! Own: repr of a dict whose values are data without dicts. -/
namespace L2
open PySem PySem.Spec PyProof.Rows
def kD : Key → PyData
  | .inl i => .int i
  | .inr x => .str x
/-- an entry: the key, the value, the value as data -/
abbrev EntD := Key × V × PyData
abbrev dcD (es : List EntD) : PyData := .dict (es.map fun e => (kD e.1, e.2.2))
def rReprD (K : PySem.W.Frag) : List V → Hp → VK → Prop := fun xs H Q => ∃ (a : Addr) (es : List EntD), xs = [.ref a] ∧ H a = some (.dK (es.map fun e => (e.1, e.2.1))) ∧ (∀ e ∈ es, Dp K H e.2.1 e.2.2 ∧ e.2.2.hasDict = false) ∧
  (dcD es).showable = true ∧ (dcD es).depth ≤ 60 ∧ (dcD es).shown.length ≤ sizeLine ∧ Q (.str (dcD es).shown) H
section
variable {X : Cx} {pins : List (Addr × Obj)} {σ : St} {H : Hp} {s : Shared}
theorem ents_reads (I : Inv X pins σ H s) : ∀ {es : List EntD} {ds : List DictEntry} {vs : List (Key × Value)}, Pairs (mixKind X.prog X.w) ds vs → KV (es.map fun e => (e.1, e.2.1)) vs → (∀ e ∈ es, Dp X.K H e.2.1 e.2.2 ∧ e.2.2.hasDict = false) →
    (∃ as, ReadsAll s.heap (ds.map (·.key)) ((es.map fun e => (kD e.1, e.2.2)).map (·.1)) as) ∧ (∃ bs, ReadsAll s.heap (ds.map (·.val)) ((es.map fun e => (kD e.1, e.2.2)).map (·.2)) bs) ∧ PyData.hasDictAll ((es.map fun e => (kD e.1, e.2.2)).map (·.1)) = false ∧ PyData.hasDictAll ((es.map fun e => (kD e.1, e.2.2)).map (·.2)) = false
  | [], ds, vs, p, kv, _ => by
    cases kv
    cases p
    exact ⟨⟨_, .nil⟩, ⟨_, .nil⟩, rfl, rfl⟩
  | e :: es, ds, vs, p, kv, h => by
    cases kv with
    | cons hq kv =>
      cases p with
      | cons pk pv p =>
        obtain ⟨⟨as, r1⟩, ⟨bs, r2⟩, n1, n2⟩ := ents_reads I p kv fun x hx => h x (List.mem_cons_of_mem _ hx)
        obtain ⟨d1, d2⟩ := h e (List.mem_cons_self ..)
        obtain ⟨k, v, d⟩ := e
        obtain ⟨e1, rv⟩ := hq
        have e1 : k = _ := e1
        subst e1
        rw [← pv] at rv
        obtain ⟨cs, r3⟩ := Dp.reads I _ _ _ d1 rv
        have hd : d.hasDict = false := d2
        refine ⟨?_, ⟨_, .cons r3 r2⟩, ?_, ?_⟩
        · rcases keyIs_shape pk with ⟨i, t, ek, ev⟩ | ⟨x, t, ek, ev⟩
          · rw [List.map_cons, ev]
            exact ⟨_, .cons (by show Reads _ _ (kD _) _; rw [ek]; exact .int i t) r1⟩
          · rw [List.map_cons, ev]
            exact ⟨_, .cons (by show Reads _ _ (kD _) _; rw [ek]; exact .str x t) r1⟩
        · show (PyData.hasDict (kD _) || PyData.hasDictAll _) = false
          rw [n1, Bool.or_false]
          rcases keyIs_shape pk with ⟨i, t, ek, _⟩ | ⟨x, t, ek, _⟩ <;> (rw [ek]; rfl)
        · show (PyData.hasDict d || PyData.hasDictAll _) = false
          rw [n2, hd] <;> rfl
theorem call_reprD (clr : Clr X.A) (hu : X.A.units + 64 < cLine) : CallR X (.builtin "repr") (rReprD X.K) := by
  intro pins s σ H xs us Q I r h
  obtain ⟨a, es, rfl, ha, hd, sh, dep, few, q⟩ := h
  obtain ⟨u, rfl, ru⟩ := vals1 r
  obtain rfl : u = Value.ref a := ru
  obtain ⟨_, ns, vs, kv, o, ds, ep, h1, h2, h3, _, h4, _⟩ := (show ObjOk X.prog X.w H s.heap a (.dK (es.map fun e => (e.1, e.2.1))) from I.hok a _ ha)
  obtain ⟨⟨as, r1⟩, ⟨bs, r2⟩, n1, n2⟩ := ents_reads I h4 kv hd
  have few' : (dictText (PyData.shownKv (es.map fun e => (kD e.1, e.2.2)))).length ≤ sizeLine := by simpa only [PyData.shown] using few
  obtain ⟨s1, s2⟩ := PyData.showableKv_split (es.map fun e => (kD e.1, e.2.2)) (by simpa [PyData.showable] using sh)
  obtain ⟨b1, m1, k1⟩ := ReprAllK.of_readsAll (prog := X.prog) (w := X.w) r1 s1 (fun z => by rw [n1] at z; cases z) fun t ht => let ⟨p, hp, hl⟩ := PyData.shownKv_key_le _ t ht; Nat.le_trans hl (Nat.le_trans (dictText_mem_le hp) few')
  obtain ⟨b2, m2, k2⟩ := ReprAllK.of_readsAll (prog := X.prog) (w := X.w) r2 s2 (fun z => by rw [n2] at z; cases z) fun t ht => let ⟨p, hp, hl⟩ := PyData.shownKv_val_le _ t ht; Nat.le_trans hl (Nat.le_trans (dictText_mem_le hp) few')
  have hb : ReadAtMost s.heap (PyData.depthKv (es.map fun e => (kD e.1, e.2.2))) (b1 ++ b2) := (m1.mono (PyData.depthAll_keys_le _)).append (m2.mono (PyData.depthAll_vals_le _))
  have hna : a ∉ b1 ++ b2 := not_mem_of_deeper (.dict h1 h2.1 h3 r1 r2) (by simp only [PyData.depth]; omega) hb
  have dep' : PyData.depthKv (es.map fun e => (kD e.1, e.2.2)) + 1 ≤ 60 := by simpa only [PyData.depth] using dep
  refine call_repr_slot (by omega) ⟨o, h1, h2.1⟩ PySem.F.slot_dict_repr (call_dict_reprK h1 h2.1 h3 ns hna (ReprEntriesK.of_two ds.toList _ _ (k1.more_le (fun b hb => List.mem_append_left _ hb) (PyData.depthAll_keys_le _)) (k2.more_le (fun b hb => List.mem_append_right _ hb) (PyData.depthAll_vals_le _)))
    (g := []) clr (fun b _ => Clear.nil b) (by show X.A.units + 1 + _ < cLine; omega) (fun _ _ z => z) (fun h' t tk kp => ⟨_, _, rfl, ?_⟩) (by rw [← PyData.shownKv_eq]; exact few'))
  refine ⟨.str (dcD es).shown, H, I.kept kp, ?_, q⟩
  exact ⟨t, by rw [show (dcD es).shown = dictText (PyData.shownKv (es.map fun e => (kD e.1, e.2.2))) by simp only [PyData.shown], PyData.shownKv_eq]⟩
end
end L2


/-! Own: repr of data with dicts anywhere (lists of dicts, dicts of lists) -/
namespace L2
open PySem PySem.Spec PyProof.Rows
mutual
/-- data, dicts among it -/
inductive DR (K : PySem.W.Frag) (H : Hp) : V → PyData → Prop
  | dat {x : V} {d : PyData} : Dp K H x d → d.hasDict = false → DR K H x d
  | dict {a : Addr} {es : List EntD} : H a = some (.dK (es.map fun e => (e.1, e.2.1))) → DRE K H es → DR K H (.ref a) (dcD es)
  | list {a : Addr} {xs : List V} {ds : List PyData} : SqL K H a xs → DRA K H xs ds → DR K H (.ref a) (.list ds)
  | tup {a : Addr} {xs : List V} {ds : List PyData} : SqT K H a xs → DRA K H xs ds → DR K H (.ref a) (.tuple ds)
inductive DRA (K : PySem.W.Frag) (H : Hp) : List V → List PyData → Prop
  | nil : DRA K H [] []
  | cons {x : V} {d : PyData} {xs : List V} {ds : List PyData} : DR K H x d → DRA K H xs ds → DRA K H (x :: xs) (d :: ds)
inductive DRE (K : PySem.W.Frag) (H : Hp) : List EntD → Prop
  | nil : DRE K H []
  | cons {k : Key} {v : V} {d : PyData} {es : List EntD} : DR K H v d → DRE K H es → DRE K H ((k, v, d) :: es)
end
section
variable {X : Cx} {pins : List (Addr × Obj)} {σ : St} {H : Hp} {s : Shared}
theorem keys_rd : ∀ {es : List EntD} {ds : List DictEntry} {vs : List (Key × Value)}, Pairs (mixKind X.prog X.w) ds vs → KV (es.map fun e => (e.1, e.2.1)) vs → (∃ as, ReadsAll s.heap (ds.map (·.key)) ((es.map fun e => (kD e.1, e.2.2)).map (·.1)) as) ∧ PyData.hasDictAll ((es.map fun e => (kD e.1, e.2.2)).map (·.1)) = false
  | [], ds, vs, p, kv => by
    cases kv
    cases p
    exact ⟨⟨_, .nil⟩, rfl⟩
  | e :: es, ds, vs, p, kv => by
    cases kv with
    | cons hq kv =>
      cases p with
      | cons pk pv p =>
        obtain ⟨⟨as, r1⟩, n1⟩ := keys_rd p kv
        obtain ⟨k, v, d⟩ := e
        obtain ⟨e1, _⟩ := hq
        have e1 : k = _ := e1
        subst e1
        rcases keyIs_shape pk with ⟨i, t, ek, ev⟩ | ⟨x, t, ek, ev⟩
        · refine ⟨?_, ?_⟩
          · rw [List.map_cons, ev]
            exact ⟨_, .cons (by show Reads _ _ (kD _) _; rw [ek]; exact .int i t) r1⟩
          · show (PyData.hasDict (kD _) || PyData.hasDictAll _) = false
            rw [n1, ek] <;> rfl
        · refine ⟨?_, ?_⟩
          · rw [List.map_cons, ev]
            exact ⟨_, .cons (by show Reads _ _ (kD _) _; rw [ek]; exact .str x t) r1⟩
          · show (PyData.hasDict (kD _) || PyData.hasDictAll _) = false
            rw [n1, ek] <;> rfl
mutual
theorem DR.rk (I : Inv X pins σ H s) : ∀ {x : V} {d : PyData}, DR X.K H x d → ∀ {u : Value}, RelV x u → d.showable = true → d.shown.length ≤ sizeLine →
    ∃ as bs, Reads s.heap u d as ∧ ReadAtMost s.heap d.depth bs ∧ ReprK X.prog X.w bs s.heap d.depth u d.shown
  | _, d, .dat h nd, u, r, ok, few => by
    obtain ⟨as, q⟩ := Dp.reads I d _ u h r
    obtain ⟨bs, h1, h2⟩ := ReprK.of_reads (prog := X.prog) (w := X.w) q ok (PyData.noDict_hsm nd) few
    exact ⟨as, bs, q, h1, h2⟩
  | _, _, .dict (a := a) (es := es) ha he, u, r, ok, few => by
    obtain rfl : u = Value.ref a := r
    obtain ⟨_, ns, vs, kv, o, ds, ep, h1, h2, h3, _, h4, _⟩ := (show ObjOk X.prog X.w H s.heap a (.dK (es.map fun e => (e.1, e.2.1))) from I.hok a _ ha)
    have few' : (dictText (PyData.shownKv (es.map fun e => (kD e.1, e.2.2)))).length ≤ sizeLine := by simpa only [PyData.shown] using few
    obtain ⟨ok1, ok2⟩ := PyData.showableKv_split (es.map fun e => (kD e.1, e.2.2)) (by simpa [PyData.showable] using ok)
    obtain ⟨⟨as, r1⟩, n1⟩ := keys_rd (s := s) h4 kv
    obtain ⟨b1, m1, k1⟩ := ReprAllK.of_readsAll (prog := X.prog) (w := X.w) r1 ok1 (fun z => by rw [n1] at z; cases z) fun t ht => let ⟨p, hp, hl⟩ := PyData.shownKv_key_le _ t ht; Nat.le_trans hl (Nat.le_trans (dictText_mem_le hp) few')
    obtain ⟨cs, b2, r2, m2, k2⟩ := DRE.rk I he h4 kv ok2 fun t ht => let ⟨p, hp, hl⟩ := PyData.shownKv_val_le _ t ht; Nat.le_trans hl (Nat.le_trans (dictText_mem_le hp) few')
    have rd : Reads s.heap (.ref a) (dcD es) _ := .dict h1 h2.1 h3 r1 r2
    have hb : ReadAtMost s.heap (PyData.depthKv (es.map fun e => (kD e.1, e.2.2))) (b1 ++ b2) := (m1.mono (PyData.depthAll_keys_le _)).append (m2.mono (PyData.depthAll_vals_le _))
    have hna : a ∉ b1 ++ b2 := not_mem_of_deeper rd (by simp only [PyData.depth]; omega) hb
    refine ⟨_, a :: (b1 ++ b2), rd, ReadAtMost.cons rd (by simp only [PyData.depth]; omega) hb, ?_⟩
    simp only [PyData.depth, PyData.shown, PyData.shownKv_eq]
    exact ReprK.dict h1 h2.1 h3 ns hna (ReprEntriesK.of_two ds.toList _ _ (k1.more_le (fun b hb => List.mem_append_left _ hb) (PyData.depthAll_keys_le _)) (k2.more_le (fun b hb => List.mem_append_right _ hb) (PyData.depthAll_vals_le _)))
  | _, _, .list (a := a) (xs := xs) (ds := ds) hx h, u, r, ok, few => by
    obtain rfl : u = Value.ref a := r
    obtain ⟨its, rv, pl, hz⟩ := I.list hx
    obtain ⟨o, n, ho, hc, hd, hdat⟩ := pl
    have few' : (listText (PyData.shownAll ds)).length ≤ sizeLine := by simpa only [PyData.shown] using few
    obtain ⟨as, bs, r1, m1, k1⟩ := DRA.rk I h rv (by simpa [PyData.showable] using ok) fun t ht => Nat.le_trans (listText_mem_le ht) few'
    have rd : Reads s.heap (.ref a) (.list ds) _ := .list ho hc hdat (by simpa using r1)
    have hna : a ∉ bs := not_mem_of_deeper rd (by simp only [PyData.depth]; omega) m1
    refine ⟨_, a :: bs, rd, ReadAtMost.cons rd (by simp only [PyData.depth]; omega) m1, ?_⟩
    simp only [PyData.depth, PyData.shown]
    cases its with
    | nil =>
      cases r1
      simp only [PyData.shownAll, listText_nil]
      exact ReprK.listEmpty ho hc hdat
    | cons x l => exact ReprK.list ho hc hdat hna (by simpa using k1.length_eq) (fun i y e => k1.item i y (by simpa using e))
  | _, _, .tup (a := a) (xs := xs) (ds := ds) hx h, u, r, ok, few => by
    obtain rfl : u = Value.ref a := r
    obtain ⟨its, rv, ⟨o, ho, hc, n, hdat⟩, hz⟩ := I.tuple hx
    have few' : (tupleText (PyData.shownAll ds)).length ≤ sizeLine := by simpa only [PyData.shown] using few
    obtain ⟨as, bs, r1, m1, k1⟩ := DRA.rk I h rv (by simpa [PyData.showable] using ok) fun t ht => Nat.le_trans (tupleText_mem_le ht) few'
    have rd : Reads s.heap (.ref a) (.tuple ds) _ := .tuple ho hc hdat (by simpa using r1)
    have hna : a ∉ bs := not_mem_of_deeper rd (by simp only [PyData.depth]; omega) m1
    refine ⟨_, a :: bs, rd, ReadAtMost.cons rd (by simp only [PyData.depth]; omega) m1, ?_⟩
    simp only [PyData.depth, PyData.shown]
    exact ReprK.tuple ho hc hdat hna (by simpa using k1)
theorem DRA.rk (I : Inv X pins σ H s) : ∀ {xs : List V} {ds : List PyData}, DRA X.K H xs ds → ∀ {us : List Value}, Vals xs us → PyData.showableAll ds = true → (∀ t ∈ PyData.shownAll ds, t.length ≤ sizeLine) →
    ∃ as bs, ReadsAll s.heap us ds as ∧ ReadAtMost s.heap (PyData.depthAll ds) bs ∧ ReprAllK X.prog X.w bs s.heap (PyData.depthAll ds) us (PyData.shownAll ds)
  | _, _, .nil, _, .nil, _, _ => ⟨[], [], .nil, (fun _ h => nomatch h), by simp only [PyData.shownAll]; exact .nil⟩
  | _, _, .cons (d := d) (ds := ds) h hs, _, .cons r rs, ok, few => by
    have ok' : d.showable = true ∧ PyData.showableAll ds = true := by simpa [PyData.showableAll] using ok
    obtain ⟨a1, b1, r1, m1, k1⟩ := DR.rk I h r ok'.1 (few _ (by simp only [PyData.shownAll]; exact List.mem_cons_self ..))
    obtain ⟨a2, b2, r2, m2, k2⟩ := DRA.rk I hs rs ok'.2 (fun t ht => few t (by simp only [PyData.shownAll]; exact List.mem_cons_of_mem _ ht))
    refine ⟨_, b1 ++ b2, .cons r1 r2, ?_, ?_⟩
    · intro b hm
      simp only [PyData.depthAll]
      rcases List.mem_append.mp hm with hm | hm
      · obtain ⟨d', as', r', hd'⟩ := m1 b hm
        exact ⟨d', as', r', Nat.le_trans hd' (Nat.le_max_left _ _)⟩
      · obtain ⟨d', as', r', hd'⟩ := m2 b hm
        exact ⟨d', as', r', Nat.le_trans hd' (Nat.le_max_right _ _)⟩
    · simp only [PyData.depthAll, PyData.shownAll]
      exact .cons ((k1.more fun b hb => List.mem_append_left _ hb).level_le (Nat.le_max_left _ _)) (k2.more_le (fun b hb => List.mem_append_right _ hb) (Nat.le_max_right _ _))
theorem DRE.rk (I : Inv X pins σ H s) : ∀ {es : List EntD}, DRE X.K H es → ∀ {ds : List DictEntry} {vs : List (Key × Value)}, Pairs (mixKind X.prog X.w) ds vs → KV (es.map fun e => (e.1, e.2.1)) vs → PyData.showableAll ((es.map fun e => (kD e.1, e.2.2)).map (·.2)) = true → (∀ t ∈ PyData.shownAll ((es.map fun e => (kD e.1, e.2.2)).map (·.2)), t.length ≤ sizeLine) →
    ∃ as bs, ReadsAll s.heap (ds.map (·.val)) ((es.map fun e => (kD e.1, e.2.2)).map (·.2)) as ∧ ReadAtMost s.heap (PyData.depthAll ((es.map fun e => (kD e.1, e.2.2)).map (·.2))) bs ∧ ReprAllK X.prog X.w bs s.heap (PyData.depthAll ((es.map fun e => (kD e.1, e.2.2)).map (·.2))) (ds.map (·.val)) (PyData.shownAll ((es.map fun e => (kD e.1, e.2.2)).map (·.2)))
  | _, .nil, ds, vs, p, kv, _, _ => by
    cases kv
    cases p
    exact ⟨[], [], .nil, (fun _ h => nomatch h), by simp only [List.map_nil, PyData.shownAll]; exact .nil⟩
  | _, .cons (d := d) (es := es) h hs, ds, vs, p, kv, ok, few => by
    cases kv with
    | cons hq kv =>
      cases p with
      | cons pk pv p =>
        obtain ⟨e1, rv⟩ := hq
        rw [← pv] at rv
        have ok' : d.showable = true ∧ PyData.showableAll ((es.map fun e => (kD e.1, e.2.2)).map (·.2)) = true := by simpa [PyData.showableAll] using ok
        obtain ⟨a1, b1, r1, m1, k1⟩ := DR.rk I h rv ok'.1 (few _ (by simp only [List.map_cons, PyData.shownAll]; exact List.mem_cons_self ..))
        obtain ⟨a2, b2, r2, m2, k2⟩ := DRE.rk I hs p kv ok'.2 (fun t ht => few t (by simp only [List.map_cons, PyData.shownAll]; exact List.mem_cons_of_mem _ ht))
        refine ⟨_, b1 ++ b2, .cons r1 r2, ?_, ?_⟩
        · intro b hm
          simp only [List.map_cons, PyData.depthAll]
          rcases List.mem_append.mp hm with hm | hm
          · obtain ⟨d', as', r', hd'⟩ := m1 b hm
            exact ⟨d', as', r', Nat.le_trans hd' (Nat.le_max_left _ _)⟩
          · obtain ⟨d', as', r', hd'⟩ := m2 b hm
            exact ⟨d', as', r', Nat.le_trans hd' (Nat.le_max_right _ _)⟩
        · simp only [List.map_cons, PyData.depthAll, PyData.shownAll]
          exact .cons ((k1.more fun b hb => List.mem_append_left _ hb).level_le (Nat.le_max_left _ _)) (k2.more_le (fun b hb => List.mem_append_right _ hb) (Nat.le_max_right _ _))
end
def rReprR (K : PySem.W.Frag) : List V → Hp → VK → Prop := fun xs H Q => ∃ (x : V) (d : PyData), xs = [x] ∧ DR K H x d ∧ d.showable = true ∧ d.depth ≤ 60 ∧ d.shown.length ≤ sizeLine ∧ Q (.str d.shown) H
end
end L2


/-! a key of any kind is looked for in a dict that does not have it -/
namespace PySem
open Sem (wp)
section
variable {prog : Program} {w : World} {A : Around} {E : Value → Shared → Prop} {s : Shared}
/-- no stored key is this one -/
structure Away (s : Shared) (k : NestedKey) (es : Array DictEntry) : Prop where
  all : ∀ e ∈ es, ∃ k', NestedIs s.heap k' e.key ∧ k'.depth ≤ 1 ∧ NestedKey.beq k' k = false
theorem Away.asked {k : NestedKey} {key : Value} {es : Array DictEntry} (m : Away s k es) (hk : NestedIs s.heap k key) (hu : A.units + 1 < cLine) {i : Nat} {e : DictEntry} (he : es[i]? = some e) : SeqAt.EqAt A s e.key key false := by
  obtain ⟨k', a, b, c⟩ := m.all e (Array.mem_of_getElem? he)
  have z := eqAt_key k' k A s e.key key a hk (by omega)
  rw [c] at z
  exact z
theorem Away.quiet {k : NestedKey} {es : Array DictEntry} (m : Away s k es) (h : Int) : ∀ v ∈ (placesWithHash es.size (fun i => es[i]?.map (·.hash)) h).filterMap (fun i => es[i]?.map (·.key)), QuietAt prog w 8 s v := by
  intro v hv
  obtain ⟨i, _, hi⟩ := List.mem_filterMap.mp hv
  obtain ⟨e, he, rfl⟩ := Option.map_eq_some_iff.mp hi
  obtain ⟨k', a, b, _⟩ := m.all e (Array.mem_of_getElem? he)
  exact quiet_key k' e.key 8 s a (by omega)
/-- the table does not tell: keys of these kinds are asked quietly -/
theorem tells_not {key : Value} {vs : List Value} (qk : QuietAt prog w 8 s key) (qs : ∀ v ∈ vs, QuietAt prog w 8 s v) {Q : Bool → Shared → Prop} (q : Q false s) : wpAny (model prog w) A (tableMayTell key vs) Q E s := by
  unfold tableMayTell
  by_cases em : vs.isEmpty = true
  · rw [if_pos em]
    exact wpAny_pure q
  · rw [if_neg em]
    refine wpAny_bind (qk A E _ ?_)
    rw [if_neg (by decide)]
    refine wpAny_bind (wpAny_forIn_list _ (fun rest r s' => s' = s ∧ r = (none, ()) ∧ ∀ v ∈ rest, QuietAt prog w 8 s v) _ ?_ ?_ _ _ ⟨rfl, rfl, qs⟩)
    · rintro x rest r s' ⟨rfl, rfl, hr⟩
      refine wpAny_bind (hr x List.mem_cons_self A E _ ?_)
      rw [if_neg (by decide)]
      exact wpAny_pure ⟨rfl, rfl, fun v hv => hr v (List.mem_cons_of_mem _ hv)⟩
    · rintro r s' ⟨rfl, rfl, _⟩
      exact wpAny_pure q
theorem walk_away {d : Addr} {o : Obj} {es : Array DictEntry} {ep : Nat} {key : Value} {k : NestedKey} {h : Int} (ho : s.heap.get? d = some o) (hd : o.data = .dict es ep) (hk : NestedIs s.heap k key) (m : Away s k es) (hu : A.units + 1 < cLine) (places : List Nat) {Q : Option Nat → Shared → Prop} (q : Q none s) :
    wpAny (model prog w) A (dictWalkPlain d key h es places) Q E s := by
  unfold dictWalkPlain
  refine wpAny_bind (wpAny_forIn_list _ (fun _ b s' => s' = s ∧ b = (none, ())) _ ?_ ?_ _ _ ⟨rfl, rfl⟩)
  · rintro i rest b s' ⟨rfl, rfl⟩
    cases he : es[i]? with
    | none => exact wpAny_pure ⟨rfl, rfl⟩
    | some e =>
      dsimp only
      by_cases hh : (e.hash == h) = true
      · rw [if_pos hh]
        refine wpAny_bind (wpAny_dictEpoch ho hd (wpAny_bind (m.asked hk hu he _ _ _ _ (wpAny_bind (wpAny_dictEpoch ho hd ?_)))))
        rw [if_neg (by simp)]
        exact wpAny_bind (wpAny_rule (wpAny_pure ⟨rfl, rfl⟩))
      · rw [if_neg hh]
        exact wpAny_pure ⟨rfl, rfl⟩
  · rintro b s' ⟨rfl, rfl⟩
    exact wpAny_pure q
/-- a text or an int is not there -/
theorem find_val_away {d : Addr} {o : Obj} {es : Array DictEntry} {ep : Nat} {key : Value} {k : NestedKey} {h : Int} (ho : s.heap.get? d = some o) (hd : o.data = .dict es ep) (cv : (∃ i t, key = .int i t) ∨ ∃ x t, key = .str x t ∧ ¬ (es.all fun e => isExactStrKey e.key) = true) (hk : NestedIs s.heap k key) (k0 : k.depth ≤ 1) (m : Away s k es) (hu : A.units + 1 < cLine) {Q : Option Nat → Shared → Prop} (q : Q none s) :
    wpAny (model prog w) A (dictFind d key h) Q E s := by
  have qk : QuietAt prog w 8 s key := quiet_key k key 8 s hk (by omega)
  unfold dictFind
  refine wpAny_holding ?_
  refine wpAny_bind (wpAny_dictEntries ho hd ?_)
  rcases cv with ⟨i, t, rfl⟩ | ⟨x, t, rfl, ns⟩
  · dsimp only
    by_cases hall : ((Value.int i t :: (placesWithHash es.size (fun i => es[i]?.map (·.hash)) h).filterMap fun i => es[i]?.map (·.key)).all carriedByValue) = true
    · rw [if_pos hall]
      exact walk_away ho hd hk m hu _ q
    · rw [if_neg hall]
      by_cases one : (((placesWithHash es.size (fun i => es[i]?.map (·.hash)) h).filterMap (fun i => es[i]?.map (·.key))) == [Value.int i t]) = true <;>
      (first | rw [if_pos one] | rw [if_neg one]) <;> (first | refine wpAny_bind (wpAny_pure ?_) | refine wpAny_bind (tells_not qk (m.quiet _) ?_)) <;> (
        rw [if_neg (by simp)]
        refine wpAny_bind (wpAny_forIn_list _ (fun _ b s' => s' = s ∧ b = (none, none)) _ ?_ ?_ _ _ ⟨rfl, rfl⟩)
        · rintro i' rest b s' ⟨rfl, rfl⟩
          cases he : es[i']? with
          | none => exact wpAny_pure ⟨rfl, rfl⟩
          | some e =>
            dsimp only
            by_cases hh : (e.hash == h) = true
            · rw [if_pos hh]
              refine wpAny_bind (wpAny_dictEpoch ho hd (wpAny_bind (m.asked hk hu he _ _ _ _ (wpAny_bind (wpAny_dictEpoch ho hd ?_)))))
              rw [if_neg (by simp)]
              simp only [Bool.false_eq_true, if_false]
              refine wpAny_bind (wpAny_rule ?_)
              first
                | exact wpAny_pure ⟨rfl, rfl⟩
                | exact wpAny_bind (wpAny_pure (wpAny_pure ⟨rfl, rfl⟩))
            · rw [if_neg hh]
              exact wpAny_pure ⟨rfl, rfl⟩
        · rintro b s' ⟨rfl, rfl⟩
          exact wpAny_pure q)
  · dsimp only
    rw [if_neg ns]
    by_cases hall : ((Value.str x t :: (placesWithHash es.size (fun i => es[i]?.map (·.hash)) h).filterMap fun i => es[i]?.map (·.key)).all carriedByValue) = true
    · rw [if_pos hall]
      exact walk_away ho hd hk m hu _ q
    · rw [if_neg hall]
      by_cases one : (((placesWithHash es.size (fun i => es[i]?.map (·.hash)) h).filterMap (fun i => es[i]?.map (·.key))) == [Value.str x t]) = true <;>
      (first | rw [if_pos one] | rw [if_neg one]) <;> (first | refine wpAny_bind (wpAny_pure ?_) | refine wpAny_bind (tells_not qk (m.quiet _) ?_)) <;> (
        rw [if_neg (by simp)]
        refine wpAny_bind (wpAny_forIn_list _ (fun _ b s' => s' = s ∧ b = (none, none)) _ ?_ ?_ _ _ ⟨rfl, rfl⟩)
        · rintro i rest b s' ⟨rfl, rfl⟩
          cases he : es[i]? with
          | none => exact wpAny_pure ⟨rfl, rfl⟩
          | some e =>
            dsimp only
            by_cases hh : (e.hash == h) = true
            · rw [if_pos hh]
              refine wpAny_bind (wpAny_dictEpoch ho hd (wpAny_bind (m.asked hk hu he _ _ _ _ (wpAny_bind (wpAny_dictEpoch ho hd ?_)))))
              rw [if_neg (by simp)]
              simp only [Bool.false_eq_true, if_false]
              refine wpAny_bind (wpAny_rule ?_)
              first
                | exact wpAny_pure ⟨rfl, rfl⟩
                | exact wpAny_bind (wpAny_pure (wpAny_pure ⟨rfl, rfl⟩))
            · rw [if_neg hh]
              exact wpAny_pure ⟨rfl, rfl⟩
        · rintro b s' ⟨rfl, rfl⟩
          exact wpAny_pure q)
end
end PySem


/-! dict(pairs), the first key of another kind -/
namespace PySem
open Sem (wp)
section
variable {prog : Program} {w : World} {A : Around} {E : Value → Shared → Prop} {s : Shared}
theorem dictSet_away {d : Addr} {o : Obj} {es : Array DictEntry} {ep : Nat} {key v : Value} {k : NestedKey} {Q : Unit → Shared → Prop} (ho : s.heap.get? d = some o) (hx : o.ExactDict) (hd : o.data = .dict es ep) (hk : NestedIs s.heap k key) (hu : A.units + k.depth < cLine) (hz : es.size ≤ sizeLine)
    (fnd : ∀ (t : Nat) (h : Int) (Q' : Option Nat → Shared → Prop), Q' none { s with toks := t } → wpAny (model prog w) A (dictFind d key h) Q' E { s with toks := t })
    (q : ∀ h' hh, h'.DictRaw d (es.push ⟨hh, key, v⟩) (ep + 1) → Heap.SameBut d s.heap h' → Q () { s with heap := h', toks := s.toks + k.draws }) : wpAny (model prog w) A (dictSet d key v) Q E s := by
  unfold dictSet
  refine wpAny_holding (wpAny_bind (pyHash_key k key A s _ hk hu ?_))
  unfold dictSetHashed
  refine wpAny_holding (wpAny_bind (fnd _ _ _ ?_))
  refine wpAny_bind (wpAny_rule (wpAny_updateDictKeys (hz := hz) (s := { s with toks := s.toks + k.draws }) ho hd ?_))
  exact q _ _ ⟨_, Heap.get?_update_self _ ho (Obj.isFreed_of_dict (Obj.data_mapDictKeys hd _)), hx.mapDictKeys _, Obj.data_mapDictKeys hd _⟩ (Heap.SameBut.update ..)
end
end PySem
namespace L2
open PySem PySem.Spec PyProof.Rows
/-- all but the two stays -/
def Kp (h0 : Heap) (S I : Addr) (h : Heap) : Prop := ∀ b o, b ≠ S → b ≠ I → h0.get? b = some o → h.get? b = some o
abbrev RRow := NestedKey × Value × Value
abbrev InRow : RRow → DictEntry → Prop := fun r e => e.key = r.2.1 ∧ e.val = r.2.2
/-- rows that can be stored one behind another -/
structure Storing (prog : Program) (w : World) (A : Around) (h0 : Heap) (S I : Addr) (items : Array Value) (rows : List RRow) : Prop where
  sz : items.size = rows.length
  few : rows.length ≤ sizeLine
  tup : ∀ (i : Nat) (r : RRow), rows[i]? = some r → ∃ b, items[i]? = some (.ref b) ∧ b ≠ S ∧ b ≠ I ∧ IsTup h0 b #[r.2.1, r.2.2]
  isk : ∀ (i : Nat) (r : RRow), rows[i]? = some r → r.1.depth ≤ 1 ∧ ∀ h, Kp h0 S I h → NestedIs h r.1 r.2.1
  look : ∀ (i : Nat) (r : RRow), rows[i]? = some r → ∀ (s : Shared) (o : Obj) (es : Array DictEntry) (ep : Nat) (E : Value → Shared → Prop), Kp h0 S I s.heap → s.heap.get? S = some o → o.data = .dict es ep → Paired InRow (rows.take i) es.toList →
    ∀ (h : Int) (Q : Option Nat → Shared → Prop), Q none s → wpAny (model prog w) A (dictFind S r.2.1 h) Q E s
theorem take_next {α : Type} {l : List α} {i : Nat} {x : α} (h : l[i]? = some x) : l.take (i + 1) = l.take i ++ [x] := by rw [List.take_succ, h] <;> rfl
theorem raw_loop {prog : Program} {w : World} {A : Around} {R : Result → Shared → Prop} {S I l : Addr} {items : Array Value} {rows : List RRow} {h0 : Heap} (hh : A.handled = none) (lI : l ≠ I) (SI : S ≠ I) (Sl : S ≠ l) (hu : A.in1.units + 1 < cLine) (T : Storing prog w A.in1 h0 S I items rows) :
    ∀ (n i : Nat), i + n = rows.length → ∀ (ix : Int) (t : Tok) (s : Shared) (es : Array DictEntry) (ep : Nat), Kp h0 S I s.heap → s.heap.IsListIter I l i → s.heap.IsList l items → s.heap.DictRaw S es ep → Paired InRow (rows.take i) es.toList →
      (∀ (h' : Heap) (tk : Nat) (es' : Array DictEntry) (ep' : Nat), Kp h0 S I h' → (∀ b o, b ≠ S → b ≠ I → s.heap.get? b = some o → h'.get? b = some o) → h'.DictRaw S es' ep' → Paired InRow rows es'.toList → R (.ok (.ret .none)) { s with heap := h', toks := tk }) →
      codeAny (model prog w) A (.builtin "dict.update.loop" ⟨[.ref S, .ref I, .int ix t, .none], []⟩) R s
  | 0, i, len, ix, t, s, es, ep, kp, it, hl, dr, pr, fin => by
    refine codeAny_builtin ud_entry ?_
    rw [Around.under_plainId ud_plain _]
    have last : items[i]? = none := Array.getElem?_eq_none (by rw [T.sz]; omega)
    have all : rows.take i = rows := List.take_of_length_le (by omega)
    rw [all] at pr
    show wpAny _ A.in1 (pyNext (.ref I) >>= _) _ _ s
    refine wpAny_bind (wpAny_pyNext_list_end (A := A.in1) hh it hl last fun h' he => ?_)
    show wpAny _ A.in1 (Builtin.Dict.addKeywords S [] >>= _) _ _ _
    refine wpAny_bind (wpAny_pure (wpAny_pure ?_))
    obtain ⟨o, o1, o2, o3⟩ := dr
    exact fin h' s.toks es ep (fun b o hb hb' e => he b o hb' (kp b o hb hb' e)) (fun b o _ hb e => he b o hb e) ⟨o, he _ _ SI o1, o2, o3⟩ pr
  | n + 1, i, len, ix, t, s, es, ep, kp, it, hl, dr, pr, fin => by
    obtain ⟨r, hr⟩ : ∃ r, rows[i]? = some r := ⟨_, List.getElem?_eq_getElem (by omega)⟩
    obtain ⟨b, hb, bS, bI, ht⟩ := T.tup i r hr
    obtain ⟨dep, isk⟩ := T.isk i r hr
    refine codeAny_builtin ud_entry ?_
    rw [Around.under_plainId ud_plain _]
    show wpAny _ A.in1 (pyNext (.ref I) >>= _) _ _ s
    refine wpAny_bind (wpAny_pyNext_list_item (x := .ref b) it hl hb fun h1 it1 e1 => ?_)
    have same1 : ∀ c o, c ≠ I → s.heap.get? c = some o → h1.get? c = some o := fun c o hc e => e1.extBut c o hc e
    have kp1 : Kp h0 S I h1 := fun c o hS hI e => same1 c o hI (kp c o hS hI e)
    obtain ⟨ot, ot1, ot2, nt, ot3⟩ := ht
    have got := kp1 b ot bS bI ot1
    obtain ⟨o, o1, o2, o3⟩ := dr
    have at1 := same1 S o SI o1
    show wpAny _ A.in1 (holding [Value.ref b] _ >>= _) _ _ _
    refine wpAny_bind (wpAny_holding (wpAny_bind (wpAny_tryCatch ?_)))
    unfold Builtin.Dict.pairItems
    refine wpAny_bind (wpAny_typeOf (T := "tuple") ⟨ot, got, ot2⟩ ?_)
    rw [if_pos (by first | decide | rfl | simp)]
    refine wpAny_bind (wpAny_seqItems got ot3 (wpAny_pure ?_))
    show wpAny _ A.in1 (holding [r.2.1, r.2.2] (dictSet S r.2.1 r.2.2)) _ _ _
    have few : es.size ≤ sizeLine := by
      have l1 := pr.length
      have l2 := T.few
      have l3 : es.toList.length = es.size := Array.length_toList
      rw [List.length_take, l3] at l1
      omega
    refine wpAny_holding (dictSet_away at1 o2 o3 (isk h1 kp1) (by omega) few (fun t' h' Q' q' => T.look i r hr _ o es ep _ kp1 at1 o3 pr h' Q' q') fun h2 hh2 dr2 sb => ?_)
    have same2 : ∀ c o, c ≠ S → h1.get? c = some o → h2.get? c = some o := fun c o hc e => sb.extBut c o hc e
    refine wpAny_pure ⟨plainId_quiet ud_plain _, raw_loop hh lI SI Sl hu T n (i + 1) (by omega) (ix + 1) 0 _ (es.push ⟨hh2, r.2.1, r.2.2⟩) (ep + 1) (fun c o hS hI e => same2 c o hS (kp1 c o hS hI e)) (it1.at fun o' e => same2 I o' SI.symm e) (hl.at fun o' e => same2 l o' Sl.symm (same1 l o' lI e)) dr2 ?_ fun h' tk es' ep' k2 s2 d2 p2 => ?_⟩
    · rw [take_next hr, Array.toList_push]
      exact Paired.snoc pr ⟨rfl, rfl⟩
    · exact fin h' tk es' ep' k2 (fun c o hS hI e => s2 c o hS hI (same2 c o hS (same1 c o hI e))) d2 p2
end L2


/-! dict(pairs), the first key of another kind: the call -/
namespace L2
open PySem PySem.Spec PyProof.Rows
section
variable {X : Cx} {pins : List (Addr × Obj)} {σ : St} {H : Hp} {s : Shared}
theorem rows_of (I : Inv X pins σ H s) : ∀ {ps : List Addr} {vr : List (V × V)}, Paired (fun p (r : V × V) => SqT X.K H p [r.1, r.2]) ps vr → ∃ us : List (Value × Value), Paired (fun (r : V × V) (u : Value × Value) => RelV r.1 u.1 ∧ RelV r.2 u.2) vr us ∧ Paired (fun p (u : Value × Value) => IsTup s.heap p #[u.1, u.2]) ps us
  | _, _, .nil => ⟨[], .nil, .nil⟩
  | _, _, .cons h t => by
    obtain ⟨us, p1, p2⟩ := rows_of I t
    obtain ⟨its, rv, ht, _⟩ := I.tuple h
    obtain ⟨a, b, rfl, ra, rb⟩ := vals2 rv
    exact ⟨(a, b) :: us, .cons ⟨ra, rb⟩ p1, .cons ht p2⟩
/-- a key of another kind -/
theorem odd_key (I : Inv X pins σ H s) {y : V} {u : Value} (odd : OddK H y) (ru : RelV y u) : ∃ k : NestedKey, k.depth ≤ 1 ∧ (∀ h : Heap, (∀ b o, s.heap.get? b = some o → h.get? b = some o) → NestedIs h k u) ∧ (∀ (h : Heap) (S J : Addr), Kp s.heap S J h → s.heap.objs.size ≤ S → s.heap.objs.size ≤ J → NestedIs h k u) ∧ isExactStrKey u = false ∧ (∀ kk : Key, NestedKey.beq k (nkK kk) = false) ∧
    ∀ (A : Around) (s' : Shared) (d : Addr) (o : Obj) (es : Array DictEntry) (ep : Nat) (E : Value → Shared → Prop) (h : Int) (Q : Option Nat → Shared → Prop), A.units < cLine → NestedIs s'.heap k u → s'.heap.get? d = some o → o.data = .dict es ep → es.toList = [] → Q none s' → wpAny (model X.prog X.w) A (dictFind d u h) Q E s' := by
  have nope : ∀ {es : Array DictEntry}, es.toList = [] → ∀ e, e ∉ es := fun em e h => by
    have z := Array.mem_toList_iff.mpr h
    rw [em] at z
    cases z
  rcases odd with rfl | ⟨b, ks, rfl, hb⟩
  · obtain rfl : u = Value.none := ru
    refine ⟨.none, Nat.zero_le _, fun h _ => .none, fun h _ _ _ _ _ => .none, rfl, fun kk => by cases kk <;> rfl, fun A s' d o es ep E h Q hu _ ho hd em q => ?_⟩
    exact find_none_missed ho hd ⟨fun e he => absurd he (nope em e)⟩ hu q
  · obtain rfl : u = Value.ref b := ru
    obtain ⟨_, its, rr, ob, h1, h2, n, h3⟩ := (show ObjOk X.prog X.w H s.heap b (.tup (ks.map kV)) from I.hok b _ hb)
    have dp : NestedKey.depth (.tup (ks.map nkK)) = 1 := by
      show NestedKey.depthAll (ks.map nkK) + 1 = 1
      rw [nkK_depth]
    have at_ : ∀ h : Heap, h.get? b = some ob → NestedIs h (.tup (ks.map nkK)) (.ref b) := fun h e => .tup e h2 h3 (by simpa using nested_keys rr)
    refine ⟨.tup (ks.map nkK), by omega, fun h kp => at_ h (kp _ _ h1), fun h S J kp hS hJ => at_ h (kp b ob (fun z => absurd (Heap.lt_size h1) (by rw [z]; exact Nat.not_lt.mpr hS)) (fun z => absurd (Heap.lt_size h1) (by rw [z]; exact Nat.not_lt.mpr hJ)) h1), rfl, fun kk => by cases kk <;> rfl, fun A s' d o es ep E h Q hu hk ho hd em q => ?_⟩
    exact find_ref_missed ho hd hk (by omega) ⟨fun e he => absurd he (nope em e)⟩ hu q
theorem beq_keys {a b : Key} (ne : a ≠ b) : NestedKey.beq (nkK a) (nkK b) = false := by
  cases a with
  | inl i =>
    cases b with
    | inl j => exact decide_eq_false fun e => ne (by rw [e])
    | inr z => rfl
  | inr x =>
    cases b with
    | inl j => rfl
    | inr z => exact decide_eq_false fun e => ne (by rw [e])
theorem zip_rows : ∀ {kvs : List (Key × V)} {us : List (Value × Value)}, Paired (fun (r : V × V) (u : Value × Value) => RelV r.1 u.1 ∧ RelV r.2 u.2) (rowsK kvs) us → Paired (fun (r : V × V) (z : RRow) => RelV r.1 z.2.1 ∧ RelV r.2 z.2.2) (rowsK kvs) ((kvs.zip us).map fun z => (nkK z.1.1, z.2.1, z.2.2))
  | [], _, .nil => .nil
  | _ :: _, _, .cons h t => .cons h (zip_rows t)
theorem in_row {rows : List RRow} {es : List DictEntry} (p : Paired InRow rows es) : ∀ e ∈ es, ∃ (j : Nat) (r : RRow), rows[j]? = some r ∧ e.key = r.2.1 := by
  induction p with
  | nil => exact fun e h => nomatch h
  | cons h _ ih =>
    intro e he
    rcases List.mem_cons.mp he with rfl | he
    · exact ⟨0, _, rfl, h.1⟩
    · obtain ⟨j, r, e1, e2⟩ := ih e he
      exact ⟨j + 1, r, e1, e2⟩
/-- dict(xs) of a list of pairs; the first key is None or a tuple, the others are ints and texts, once each -/
theorem storing_of (I : Inv X pins σ H s) {A : Around} (hu : A.units + 1 < cLine) {ps : List Addr} {y v : V} {kvs : List (Key × V)} (hp : Paired (fun p (r : V × V) => SqT X.K H p [r.1, r.2]) ps ((y, v) :: rowsK kvs)) (odd : OddK H y) (nd : (kvs.map (·.1)).Nodup) (few : ps.length ≤ sizeLine) :
    ∃ rows : List RRow, Paired (fun (r : V × V) (z : RRow) => RelV r.1 z.2.1 ∧ RelV r.2 z.2.2) ((y, v) :: rowsK kvs) rows ∧ ∀ (h0 : Heap) (S J : Addr), (∀ b o, s.heap.get? b = some o → h0.get? b = some o) → s.heap.objs.size ≤ S → s.heap.objs.size ≤ J → Storing X.prog X.w A h0 S J (ps.map Value.ref).toArray rows := by
  obtain ⟨us, p1, p2⟩ := rows_of I hp
  cases p1 with
  | cons r0 p1 =>
    rename_i u0 us
    obtain ⟨k, kd, _, kk, ke, kb, kl⟩ := odd_key I odd r0.1
    obtain ⟨nks, enk⟩ : ∃ nks : List NestedKey, nks = kvs.map fun p => nkK p.1 := ⟨_, rfl⟩
    have lus : kvs.length = us.length := by
      have z := p1.length
      rw [rowsK_len] at z
      exact z
    obtain ⟨tl, etl⟩ : ∃ tl : List RRow, tl = (kvs.zip us).map fun z => (nkK z.1.1, z.2.1, z.2.2) := ⟨_, rfl⟩
    have ltl : tl.length = us.length := by rw [etl, List.length_map, List.length_zip, lus, Nat.min_self]
    have at_tl : ∀ {i : Nat} {r : RRow}, tl[i]? = some r → ∃ p u, kvs[i]? = some p ∧ us[i]? = some u ∧ r = (nkK p.1, u.1, u.2) := fun {i r} h => by
      rw [etl, List.getElem?_map] at h
      obtain ⟨z, hz, rfl⟩ := Option.map_eq_some_iff.mp h
      obtain ⟨z1, z2⟩ := List.getElem?_zip_eq_some.mp hz
      exact ⟨z.1, z.2, z1, z2, rfl⟩
    have rel : ∀ {i : Nat} {p : Key × V} {u : Value × Value}, kvs[i]? = some p → us[i]? = some u → RelV (kV p.1) u.1 ∧ RelV p.2 u.2 := fun {i p u} h1 h2 => by
      have e : (rowsK kvs)[i]? = some (kV p.1, p.2) := by
        unfold rowsK
        rw [List.getElem?_map, h1] <;> rfl
      obtain ⟨u', e1, e2⟩ := paired_at p1 e
      rw [h2] at e1
      cases e1
      exact e2
    refine ⟨(k, u0.1, u0.2) :: tl, by rw [etl]; exact .cons r0 (zip_rows p1), fun h0 S J h0s hS hJ => ?_⟩
    have kp0 : ∀ {h : Heap}, Kp h0 S J h → Kp s.heap S J h := fun kp b o b1 b2 e => kp b o b1 b2 (h0s b o e)
    refine ⟨?_, ?_, fun i r hr => ?_, fun i r hr => ?_, fun i r hr s' o es ep E kp ho hd pr h Q q => ?_⟩
    · have z := p2.length
      rw [List.length_cons] at z
      rw [List.size_toArray, List.length_map, z, List.length_cons, ltl]
    · have z := p2.length
      rw [List.length_cons] at z
      rw [List.length_cons, ltl]
      omega
    · have lp := p2.length
      rw [List.length_cons] at lp
      have il := (List.getElem?_eq_some_iff.mp hr).1
      rw [List.length_cons, ltl] at il
      obtain ⟨b, hb⟩ : ∃ b, ps[i]? = some b := ⟨_, List.getElem?_eq_getElem (by omega)⟩
      obtain ⟨u, hu', ht⟩ := paired_at p2 hb
      have er : r.2 = u := by
        cases i with
        | zero =>
          cases hr
          cases hu'
          rfl
        | succ i =>
          obtain ⟨p, u', e1, e2, rfl⟩ := at_tl hr
          have hu' : us[i]? = some u := hu'
          rw [e2] at hu'
          cases hu'
          rfl
      have bl := ht.lt
      refine ⟨b, by rw [List.getElem?_toArray, List.getElem?_map, hb] <;> rfl, fun z => absurd bl (by rw [z]; exact Nat.not_lt.mpr hS), fun z => absurd bl (by rw [z]; exact Nat.not_lt.mpr hJ), ?_⟩
      rw [er]
      exact ht.keeps h0s
    · cases i with
      | zero =>
        cases hr
        exact ⟨kd, fun h kp => kk h S J (kp0 kp) hS hJ⟩
      | succ i =>
        obtain ⟨p, u, e1, e2, rfl⟩ := at_tl hr
        refine ⟨by show (nkK p.1).depth ≤ 1; cases p.1 <;> exact Nat.zero_le _, fun h kp => (nested_key (kV_keyIs (rel e1 e2).1)).1⟩
    · cases i with
      | zero =>
        cases hr
        have em : es.toList = [] := by
          generalize es.toList = l at pr
          cases pr
          rfl
        exact kl A s' S o es ep E h Q (by omega) (kk s'.heap S J (kp0 kp) hS hJ) ho hd em q
      | succ i =>
        obtain ⟨p, u, e1, e2, rfl⟩ := at_tl hr
        have il : i < kvs.length := (List.getElem?_eq_some_iff.mp e1).1
        have rk := (rel e1 e2).1
        have first : ∃ e0 l, es.toList = e0 :: l ∧ e0.key = u0.1 := by
          generalize es.toList = l at pr
          rw [List.take_succ_cons] at pr
          cases pr with
          | cons h _ => exact ⟨_, _, rfl, h.1⟩
        have away : Away s' (nkK p.1) es := ⟨fun e he => by
          obtain ⟨j, r', hj, ek⟩ := in_row pr e (Array.mem_toList_iff.mpr he)
          rw [ek]
          have jl := (List.getElem?_eq_some_iff.mp hj).1
          rw [List.length_take] at jl
          rw [List.getElem?_take, if_pos (by omega)] at hj
          cases j with
          | zero =>
            cases hj
            exact ⟨k, kk s'.heap S J (kp0 kp) hS hJ, kd, kb p.1⟩
          | succ j =>
            obtain ⟨p', u', f1, f2, rfl⟩ := at_tl hj
            have jk := (List.getElem?_eq_some_iff.mp f1).1
            refine ⟨nkK p'.1, (nested_key (kV_keyIs (rel f1 f2).1)).1, by cases p'.1 <;> exact Nat.zero_le _, beq_keys fun z => ?_⟩
            have g1 : (kvs.map (·.1))[j]? = some p'.1 := by rw [List.getElem?_map, f1] <;> rfl
            have g2 : (kvs.map (·.1))[i]? = some p'.1 := by rw [List.getElem?_map, e1, z] <;> rfl
            have := (List.getElem?_inj (by rw [List.length_map]; exact jk) nd).mp (g1.trans g2.symm)
            omega⟩
        refine find_val_away ho hd ?_ (nested_key (kV_keyIs rk)).1 (by cases p.1 <;> exact Nat.zero_le _) away hu q
        obtain ⟨pk, pv⟩ := p
        cases pk with
        | inl n =>
          obtain ⟨t, et⟩ := (show ∃ t, u.1 = Value.int n t from rk)
          exact .inl ⟨n, t, et⟩
        | inr x =>
          obtain ⟨t, et⟩ := (show ∃ t, u.1 = Value.str x t from rk)
          refine .inr ⟨x, t, et, fun al => ?_⟩
          obtain ⟨e0, l, f1, f2⟩ := first
          rw [← Array.all_toList, f1, List.all_cons, f2, ke] at al
          cases al
end
end L2


/-! dict(pairs), the first key of another kind: the rule -/
namespace L2
open PySem PySem.Spec PyProof.Rows
theorem call_rawP {prog : Program} {w : World} {A : Around} {E : Value → Shared → Prop} {s : Shared} {l : Addr} {ol : Obj} {items : Array Value} {n : Nat} {rows : List RRow} {Q : Value → Shared → Prop} (calm : A.handled = none) (hu : A.in1.in1.units + 1 < cLine) (hl : s.heap.get? l = some ol) (hc : ol.cls = .type "list") (hd : ol.dict = none) (hdat : ol.data = .seq items n)
    (T : ∀ (h0 : Heap) (S J : Addr), (∀ b o, s.heap.get? b = some o → h0.get? b = some o) → s.heap.objs.size ≤ S → s.heap.objs.size ≤ J → Storing prog w A.in1.in1 h0 S J items rows)
    (h : ∀ (h' : Heap) (tk : Nat) (es : Array DictEntry) (ep : Nat), h'.DictRaw s.heap.objs.size es ep → Paired InRow rows es.toList → (∀ b o, s.heap.get? b = some o → h'.get? b = some o) → Q (.ref s.heap.objs.size) { s with heap := h', toks := tk }) :
    wpAny (model prog w) A (call (.type "dict") [.ref l]) Q E s := by
  obtain ⟨N, eN⟩ : ∃ N, N = s.heap.objs.size := ⟨_, rfl⟩
  obtain ⟨fresh, ef⟩ : ∃ o : Obj, o = { cls := .type "dict", data := .dict #[] } := ⟨_, rfl⟩
  have lN : l < N := eN ▸ Heap.lt_size hl
  refine callType_codes (Q₁ := fun x s1 => x = .ref s.heap.objs.size ∧ s1 = { s with heap := s.heap.push { cls := .type "dict", data := .dict #[] } }) PySem.F.kt_called_dict (PySem.F.kt_typeCall_dict_1 _) PySem.F.entry_dict_init (kt_code_dict_new _ ⟨rfl, rfl⟩) ?_
  rintro _ _ ⟨rfl, rfl⟩
  have grow : ∀ b o, s.heap.get? b = some o → (s.heap.push { cls := .type "dict", data := .dict #[] }).get? b = some o := fun b o e => Heap.get?_push_of_some _ e
  have atN : (s.heap.push { cls := .type "dict", data := .dict #[] }).get? s.heap.objs.size = some { cls := .type "dict", data := .dict #[] } := Heap.get?_push_size _ rfl
  have ty : Shared.TypeIs { s with heap := s.heap.push { cls := .type "dict", data := .dict #[] } } (.ref s.heap.objs.size) "dict" := ⟨_, atN, rfl⟩
  refine ⟨ty, PySem.F.args_dict_init_2 _ _, ?_⟩
  unfold Builtin.«dict.__init__»
  refine wpAny_bind ?_
  unfold Builtin.Dict.selfAndRest
  refine wpAny_bind (wpAny_notOrdered_dict ty (wpAny_pure ?_))
  show wpAny _ _ (Builtin.Dict.updateFrom "dict.__init__" s.heap.objs.size (.ref l) [] .none) _ _ _
  unfold Builtin.Dict.updateFrom
  refine wpAny_bind (wpAny_typeOf (T := "list") ⟨ol, grow _ _ hl, hc⟩ ?_)
  rw [if_pos (by first | decide | rfl | simp)]
  refine wpAny_bind (miss_list (grow _ _ hl) hc hdat hd calm fun h1 tk1 grow1 => ?_)
  rw [if_pos (show (none : Option Value).isNone = true from rfl)]
  refine wpAny_bind (wpAny_rule (wpAny_bind (wpAny_pyIter_list (items := items) ⟨ol, grow1 _ _ (grow _ _ hl), hc, n, hdat⟩ ?_)))
  have N1 : s.heap.objs.size < h1.objs.size := Heap.lt_size (grow1 _ _ atN)
  obtain ⟨it, eit⟩ : ∃ o : Obj, o = { cls := .type "list_iterator", data := .fields #[.ref l, .int 0 0] } := ⟨_, rfl⟩
  have grow2 : ∀ b o, h1.get? b = some o → (h1.push { cls := .type "list_iterator", data := .fields #[.ref l, .int 0 0] }).get? b = some o := fun b o e => Heap.get?_push_of_some _ e
  have all : ∀ b o, s.heap.get? b = some o → (h1.push { cls := .type "list_iterator", data := .fields #[.ref l, .int 0 0] }).get? b = some o := fun b o e => grow2 _ _ (grow1 _ _ (grow b o e))
  have T1 := T (h1.push { cls := .type "list_iterator", data := .fields #[.ref l, .int 0 0] }) s.heap.objs.size h1.objs.size all (Nat.le_refl _) (Nat.le_of_lt N1)
  have go := raw_loop (A := A.in1) (R := wants (fun r s2 => r = .none ∧ Q (.ref s.heap.objs.size) s2) E) (S := s.heap.objs.size) (I := h1.objs.size) (l := l) calm (Nat.ne_of_lt (Nat.lt_trans (eN ▸ lN) N1)) (Nat.ne_of_lt N1) (Nat.ne_of_gt (eN ▸ lN)) hu T1 rows.length 0 (Nat.zero_add _) 0 0
    { s with heap := h1.push { cls := .type "list_iterator", data := .fields #[.ref l, .int 0 0] }, toks := tk1 } #[] 0 (fun b o _ _ e => e) ⟨_, Heap.get?_push_size _ rfl, rfl, rfl⟩ ⟨ol, all _ _ hl, hc, n, hdat⟩ ⟨_, grow2 _ _ (grow1 _ _ atN), ⟨rfl, rfl, rfl⟩, rfl⟩ .nil
    fun h' tk es ep _ kp d p => ⟨rfl, h h' tk es ep d p fun b o e => kp b o (Nat.ne_of_lt (Heap.lt_size e)) (Nat.ne_of_lt (Nat.lt_trans (Heap.lt_size e) N1)) (all b o e)⟩
  first
    | exact wpAny_pure ⟨plainId_quiet ud_plain _, go⟩
    | exact wpAny_bind (wpAny_pure (wpAny_pure ⟨plainId_quiet ud_plain _, go⟩))
theorem paired_two {α β γ : Type} {F : α → β → Prop} {G : β → γ → Prop} {W : α → γ → Prop} {xs : List α} {ys : List β} {zs : List γ} (p : Paired F xs ys) (q : Paired G ys zs) (m : ∀ x y z, F x y → G y z → W x z) : Paired W xs zs := by
  induction p generalizing zs with
  | nil => cases q; exact .nil
  | cons h _ ih =>
    cases q with
    | cons h2 q => exact .cons (m _ _ _ h h2) (ih q)
section
variable {X : Cx}
/-- dict(xs) of a list of pairs: the first key is None or a tuple, the others are ints and texts, once each -/
theorem call_dictPR (calm : X.calm = true) (hu : X.A.units + 64 < cLine) : CallR X (.type "dict") (fun xs H Q => ∃ (a : Addr) (ps : List Addr) (y v : V) (kvs : List (Key × V)), xs = [.ref a] ∧ SqL X.K H a (ps.map V.ref) ∧ Paired (fun p (r : V × V) => SqT X.K H p [r.1, r.2]) ps ((y, v) :: rowsK kvs) ∧ OddK H y ∧ (kvs.map (·.1)).Nodup ∧
    ∀ p, H p = none → Q (.ref p) (upd H p (RawO p ((y, v) :: rowsK kvs)))) := by
  intro pins s σ H xs us Q I r q
  obtain ⟨a, ps, y, v, kvs, rfl, hq, hp, odd, nd, q⟩ := q
  obtain ⟨u, rfl, rx⟩ := vals1 r
  cases rx
  obtain ⟨its, rv, ⟨o, n, ho, hc, hd, hdat⟩, hz⟩ := I.list hq
  obtain rfl := refs_at rv
  rw [List.length_map] at hz
  have hu2 : X.A.in1.in1.units + 1 < cLine := by
    show X.A.units + 1 + 1 + 1 < cLine
    omega
  obtain ⟨rows, pr, T⟩ := storing_of (A := X.A.in1.in1) I hu2 hp odd nd hz
  refine call_rawP (I.ok.hd calm) hu2 ho hc hd hdat T fun h' tk es ep d p k => ?_
  have lp : ps.length = kvs.length + 1 := by
    have z := Paired.length hp
    rw [List.length_cons, rowsK_len] at z
    exact z
  have big : (s.heap.objs.size == sysModules) = false := beq_eq_false_iff_ne.mpr (Nat.ne_of_gt I.big)
  have rows2 : Paired (fun (r : V × V) (e : DictEntry) => RelV r.1 e.key ∧ RelV r.2 e.val) ((y, v) :: rowsK kvs) es.toList := paired_two pr p fun r z e a b => by
    rw [b.1, b.2]
    exact a
  exact ⟨.ref s.heap.objs.size, upd H s.heap.objs.size (RawO s.heap.objs.size ((y, v) :: rowsK kvs)), I.laid (t' := tk) k (Nat.le_refl _) (raw_ok big (by rw [List.length_cons, rowsK_len]; omega) d rows2), rfl, q _ (I.hok.fresh (Nat.le_refl _))⟩
end
end L2


/-! d.clear(), d a dict of ints and texts, or of keys of any kind -/
namespace L2
open PySem PySem.Spec PyProof.Rows
/-- d.clear() -/
def tClearO (te : TE) : TE := fun σ H Q => te σ H fun x H1 => ∃ (d : Addr) (u : HO) (rows : List (V × V)), x = .ref d ∧ H1 d = some u ∧ RowsO d u rows ∧ ∀ o : HO, (o = .dK [] ∨ o = RawO d []) → Q .non (upd H1 d o)
section
variable {X : Cx} {e : Expr} {te : TE} {apos cpos : Pos}
theorem pe_clearO (he : PE X e te) (hbase : attributeBase e "clear" X.env (eval e X.env) = eval e X.env := by rfl) (hline : (apos.endLine == cpos.line) = true := by rfl) : PE X (.Call (.Attribute e "clear" apos) [] [] cpos) (tClearO te) := by
  refine ⟨fun pins s σ H Q I hq => ?_⟩
  refine wpAny_Call_method (T := "dict") (id := "dict.clear") hbase rfl hline PySem.F.plainAttrs_dict PySem.F.slot_dict_clear PySem.F.type_dict_clear (thn (he.run pins s σ H _ I hq) fun u s1 ⟨x, H1, I1, rx, d, ob, rows, ex, hd, ro, q⟩ => ?_)
  subst ex
  obtain rfl : u = Value.ref d := rx
  have raw : ∃ es ep, s1.heap.DictRaw d es ep ∧ es.size ≤ sizeLine ∧ (d == sysModules) = false := by
    rcases ro with ⟨kvs, rfl, rfl⟩ | rfl
    · obtain ⟨z, h1, vs, rel, o, es, ep, ho, hx, hdt, hk, pr, nd⟩ := dk_of I1.hok hd
      have l1 := pr.length
      have l2 : kvs.length = vs.length := Paired.length rel
      have l3 : es.toList.length = es.size := Array.length_toList
      exact ⟨es, ep, ⟨o, ho, hx, hdt⟩, by omega, h1⟩
    · obtain ⟨h1, z, es, ep, dr, p⟩ := raw_of (show ObjOk X.prog X.w H1 s1.heap d (RawO d rows) from I1.hok d _ hd)
      have l1 := Paired.length p
      have l3 : es.toList.length = es.size := Array.length_toList
      exact ⟨es, ep, dr, by omega, h1⟩
  obtain ⟨es, ep, dr, few, nsys⟩ := raw
  obtain ⟨o, o1, o2, o3⟩ := id dr
  have ty : s1.TypeIs (.ref d) "dict" := ⟨o, o1, o2.1⟩
  refine ⟨ty, fun b eb => by cases eb; exact ⟨o, o1, o2.2.1⟩, ?_⟩
  show wpAny _ _ (callWith cpos (.builtin "dict.clear") [.ref d] [] []) _ X.xe s1
  refine method_meetsIn PySem.F.slot_dict_clear PySem.F.entry_dict_clear rfl (PySem.evalArgs_none ⟨rfl, ty, PySem.F.args_dict_clear_1 _, _, meets_dict_clear_raw d, ⟨es, ep, dr, few, fun h' d' sb => ?_⟩⟩)
  have I2 : Inv X pins σ (upd H1 d (RawO d [])) { s1 with heap := h' } := d_write (t' := s1.toks) I1 (by rw [hd]; exact ro.mut) sb (let ⟨o, ho, _⟩ := d'; ⟨o, ho⟩) (raw_ok nsys (Nat.zero_le _) d' .nil)
  exact ⟨.non, _, I2, rfl, q _ (.inr rfl)⟩
end
end L2


/-! Own: list(zip(a, b)) of two lists, as a value. -/
namespace ZlI
open PySem PySem.Calls PySem.Spec PyProof.Rows PySem.W L2
structure ZlSt (h : Heap) (z TI TO i1 i2 l1 l2 S : Addr) (xs ys : Array Value) (i : Nat) : Prop where
  ti : IsPair h TI (.ref i1) (.ref i2)
  h1 : h.IsListIter i1 l1 i
  h2 : h.IsListIter i2 l2 i
  a1 : h.IsList l1 xs
  a2 : h.IsList l2 ys
  zz : (IsZip h z TI TO .none ∧ ∃ a b, IsPair h TO a b) ∨ ∃ T f oT, IsZipHeld h z TI TO T f ∧ h.get? T = some oT ∧ T ≠ z ∧ T ≠ TO ∧ T ≠ i1 ∧ T ≠ i2 ∧ T ≠ S
structure ZlLow (z TI TO i1 i2 l1 l2 S : Addr) : Prop where
  z : z < S
  TI : TI < S
  TO : TO < S
  i1 : i1 < S
  i2 : i2 < S
  l1 : l1 < S
  l2 : l2 < S
section
variable {z TI TO i1 i2 l1 l2 S : Addr} {xs ys : Array Value} {i : Nat}
theorem list_at {h h' : Heap} {l : Addr} {xs : Array Value} (a : h.IsList l xs) (k : ∀ o, h.get? l = some o → h'.get? l = some o) : h'.IsList l xs := let ⟨o, e, r⟩ := a; ⟨o, k o e, r⟩
theorem iter_at {h h' : Heap} {l a : Addr} {i : Nat} (x : h.IsListIter a l i) (k : ∀ o, h.get? a = some o → h'.get? a = some o) : h'.IsListIter a l i := let ⟨o, e, r⟩ := x; ⟨o, k o e, r⟩
theorem ZlSt.keep {h h' : Heap} (x : ZlSt h z TI TO i1 i2 l1 l2 S xs ys i) (L : ZlLow z TI TO i1 i2 l1 l2 S) (k : ∀ b o, b ≠ S → h.get? b = some o → h'.get? b = some o) : ZlSt h' z TI TO i1 i2 l1 l2 S xs ys i := by
  refine ⟨k _ _ (Nat.ne_of_lt L.TI) x.ti, iter_at x.h1 fun o e => k _ _ (Nat.ne_of_lt L.i1) e, iter_at x.h2 fun o e => k _ _ (Nat.ne_of_lt L.i2) e, list_at x.a1 fun o e => k _ _ (Nat.ne_of_lt L.l1) e, list_at x.a2 fun o e => k _ _ (Nat.ne_of_lt L.l2) e, ?_⟩
  rcases x.zz with ⟨z1, a, b, z2⟩ | ⟨T, f, oT, z1, z2, n1, n2, n3, n4, n5⟩
  · exact .inl ⟨k _ _ (Nat.ne_of_lt L.z) z1, a, b, k _ _ (Nat.ne_of_lt L.TO) z2⟩
  · exact .inr ⟨T, f, oT, k _ _ (Nat.ne_of_lt L.z) z1, k _ _ n5 z2, n1, n2, n3, n4, n5⟩
variable {prog : Program} {w : World} {A : Around} {E : Value → Shared → Prop} {s : Shared}
structure ZlG (xs ys : Array Value) (lo : Addr) (h : Heap) (as : List Addr) : Prop where
  rise : as.Pairwise (· < ·)
  above : ∀ a ∈ as, lo < a
  pairs : ∀ (j : Nat) (a : Addr), as[j]? = some a → ∃ x y, xs[j]? = some x ∧ ys[j]? = some y ∧ IsPair h a x y
theorem ZlG.there {lo : Addr} {h : Heap} {as : List Addr} (g : ZlG xs ys lo h as) {a : Addr} (ha : a ∈ as) : a < h.objs.size := by
  obtain ⟨j, hj⟩ := List.mem_iff_getElem?.mp ha
  obtain ⟨_, _, _, _, e⟩ := g.pairs j a hj
  exact Heap.lt_size e
end
section
variable {z TI TO i1 i2 l1 l2 S : Addr} {xs ys : Array Value} {prog : Program} {w : World} {A : Around} {s : Shared} {R : Result → Shared → Prop}
end
section
variable {z TI TO i1 i2 l1 l2 : Addr} {xs ys : Array Value} {prog : Program} {w : World} {A : Around} {E : Value → Shared → Prop} {s : Shared}
/-- the zip as it is made -/
structure ZlNew (h : Heap) (z TI TO i1 i2 l1 l2 : Addr) (xs ys : Array Value) : Prop where
  zz : IsZip h z TI TO .none
  ti : IsPair h TI (.ref i1) (.ref i2)
  to : ∃ a b, IsPair h TO a b
  h1 : h.IsListIter i1 l1 0
  h2 : h.IsListIter i2 l2 0
  a1 : h.IsList l1 xs
  a2 : h.IsList l2 ys
theorem ZlNew.low {h : Heap} (x : ZlNew h z TI TO i1 i2 l1 l2 xs ys) {S : Addr} (hS : h.objs.size ≤ S) : ZlLow z TI TO i1 i2 l1 l2 S := by
  obtain ⟨a, b, t⟩ := x.to
  obtain ⟨o1, e1, _⟩ := x.h1
  obtain ⟨o2, e2, _⟩ := x.h2
  obtain ⟨o3, e3, _⟩ := x.a1
  obtain ⟨o4, e4, _⟩ := x.a2
  have lt : ∀ {c : Addr} {o : Obj}, h.get? c = some o → c < S := fun e => Nat.lt_of_lt_of_le (Heap.lt_size e) hS
  exact ⟨lt x.zz, lt x.ti, lt t, lt e1, lt e2, lt e3, lt e4⟩
theorem ZlNew.st {h h' : Heap} {S : Addr} (x : ZlNew h z TI TO i1 i2 l1 l2 xs ys) (k : ∀ b o, h.get? b = some o → h'.get? b = some o) : ZlSt h' z TI TO i1 i2 l1 l2 S xs ys 0 := by
  obtain ⟨a, b, t⟩ := x.to
  exact ⟨k _ _ x.ti, iter_at x.h1 fun o e => k _ _ e, iter_at x.h2 fun o e => k _ _ e, list_at x.a1 fun o e => k _ _ e, list_at x.a2 fun o e => k _ _ e, .inl ⟨k _ _ x.zz, a, b, k _ _ t⟩⟩
end
end ZlI


namespace ZlI
open PySem PySem.Calls PySem.Spec PyProof.Rows L2 LiI
def putP : Hp → List Addr → List (V × V) → Hp
  | H, a :: as, p :: kvs => putP (upd H a (.tup [p.1, p.2])) as kvs
  | H, _, _ => H
theorem putP_off {b : Addr} : ∀ (as : List Addr) (kvs : List (V × V)) (H : Hp), b ∉ as → putP H as kvs b = H b
  | [], _, _, _ => rfl
  | _ :: _, [], _, _ => rfl
  | a :: as, p :: kvs, H, h => by
    show putP (upd H a (.tup [p.1, p.2])) as kvs b = H b
    rw [putP_off as kvs _ (fun z => h (List.mem_cons_of_mem _ z)), upd_ne (fun z => h (by rw [z]; exact List.mem_cons_self))]
theorem putP_at : ∀ (as : List Addr) (kvs : List (V × V)) (H : Hp), as.length = kvs.length → as.Nodup → Paired (fun (t : Addr) (p : V × V) => putP H as kvs t = some (.tup [p.1, p.2])) as kvs
  | [], [], _, _, _ => .nil
  | [], _ :: _, _, h, _ => by cases h
  | _ :: _, [], _, h, _ => by cases h
  | a :: as, p :: kvs, H, h, hn => by
    have hn' := List.nodup_cons.mp hn
    have ih := putP_at as kvs (upd H a (.tup [p.1, p.2])) (Nat.succ.inj h) hn'.2
    refine .cons ?_ ih
    show putP (upd H a (.tup [p.1, p.2])) as kvs a = some (.tup [p.1, p.2])
    rw [putP_off as kvs _ hn'.1, upd_same]
def tListZip (K : PySem.W.Frag) (ta : TA) : TE := fun σ H Q => ta σ H fun vs H1 => ∃ (a b : Addr) (xs ys : List V), vs = [.ref a, .ref b] ∧ SqL K H1 a xs ∧ SqL K H1 b ys ∧
  ∀ (H' : Hp) (p : Addr) (ts : List Addr), (∀ b o, H1 b = some o → H' b = some o) → H1 p = none → (∀ t ∈ ts, H1 t = none) → p ∉ ts → H' p = some (.lst (ts.map V.ref)) → Paired (fun (t : Addr) (q : V × V) => H' t = some (.tup [q.1, q.2])) ts (xs.zip ys) → Q (.ref p) H'
section
variable {X : Cx}
theorem zip_laid {pins : List (Addr × Obj)} {σ : L2.St} {H : Hp} {s : Shared} {h' : Heap} {tk : Nat} {xs ys : List V} {us vs : List Value} {acc : Array Value} {c : Nat} {as : List Addr} {S : Addr} (I : Inv X pins σ H s) (few : (xs.zip ys).length ≤ sizeLine) (r1 : Vals xs us) (r2 : Vals ys vs) (hS0 : s.heap.objs.size ≤ S)
    (hk : ∀ b o, s.heap.get? b = some o → h'.get? b = some o) (hS : h'.get? S = some { cls := .type "list", dict := none, data := .seq acc c, slots := #[] }) (hl : as.length = (xs.zip ys).length) (hG : ZlG us.toArray vs.toArray S h' as) (hacc : acc.toList = as.map Value.ref) :
    ∃ H' : Hp, (∀ b o, H b = some o → H' b = some o) ∧ H S = none ∧ (∀ t ∈ as, H t = none) ∧ S ∉ as ∧ H' S = some (.lst (as.map V.ref)) ∧ Paired (fun (t : Addr) (q : V × V) => H' t = some (.tup [q.1, q.2])) as (xs.zip ys) ∧ Inv X pins σ H' { s with heap := h', toks := tk } := by
  have hSn : S ∉ as := fun z => Nat.lt_irrefl _ (hG.above _ z)
  have nd : as.Nodup := List.Pairwise.imp (fun {a b} (h : a < b) => Nat.ne_of_lt h) hG.rise
  have big : ∀ t ∈ as, s.heap.objs.size ≤ t := fun t ht => Nat.le_trans hS0 (Nat.le_of_lt (hG.above t ht))
  have new : ∀ t ∈ as, H t = none := fun t ht => I.hok.fresh (big t ht)
  have newS : H S = none := I.hok.fresh hS0
  have atP := putP_at as (xs.zip ys) (upd H S (.lst (as.map V.ref))) hl nd
  have off : ∀ b, b ∉ as → b ≠ S → putP (upd H S (.lst (as.map V.ref))) as (xs.zip ys) b = H b := fun b h1 h2 => by rw [putP_off as _ _ h1, upd_ne h2]
  have low : ∀ b o, s.heap.get? b = some o → b ∉ as ∧ b ≠ S := fun b o e => ⟨fun z => absurd (Heap.lt_size e) (Nat.not_lt.mpr (big b z)), Nat.ne_of_lt (Nat.lt_of_lt_of_le (Heap.lt_size e) hS0)⟩
  have kp : ∀ b u, H b = some u → (putP (upd H S (.lst (as.map V.ref))) as (xs.zip ys)) b = some u := fun b u e => by
    rw [off b (fun z => by rw [new b z] at e; cases e) (fun z => by rw [z, newS] at e; cases e)]
    exact e
  have eS : putP (upd H S (.lst (as.map V.ref))) as (xs.zip ys) S = some (.lst (as.map V.ref)) := by rw [putP_off as _ _ hSn, upd_same]
  refine ⟨putP (upd H S (.lst (as.map V.ref))) as (xs.zip ys), kp, newS, new, hSn, eS, atP, ?_⟩
  refine I.call' (ch := []) rfl ⟨fun b o q _ _ _ => hk b o q, fun b o q _ _ _ => ⟨o.slots, hk b o q⟩, fun b o q n _ => ?_, fun b o q _ => ⟨o, hk b o q⟩, fun b xs q => kp b _ q, fun b o u q => kp b _ q, fun b ps q => ⟨#[], by rw [kp b _ q]; simp⟩⟩ (fun b u q => ?_) I.bare fun b z => by simp at z
  · obtain ⟨z1, z2⟩ := low b o q
    rw [off b z1 z2]
    exact n
  · by_cases hb : b ∈ as
    · obtain ⟨j, pk, e1, e2, e3⟩ := paired_ix atP hb
      rw [e3] at q
      cases q
      obtain ⟨x, y, f1, f2, f3⟩ := hG.pairs j b e1
      obtain ⟨g1, g2⟩ := List.getElem?_zip_eq_some.mp e2
      obtain ⟨u, hu, ru⟩ := r1.get g1
      obtain ⟨v, hv, rv⟩ := r2.get g2
      have ex : x = u := by
        have z : us.toArray[j]? = us[j]? := by simp
        rw [z, hu] at f1
        exact (Option.some.inj f1).symm
      have ey : y = v := by
        have z : vs.toArray[j]? = vs[j]? := by simp
        rw [z, hv] at f2
        exact (Option.some.inj f2).symm
      subst ex
      subst ey
      exact ⟨by show 2 ≤ sizeLine; decide, [x, y], .cons ru (.cons rv .nil), ⟨_, f3, rfl, _, rfl⟩⟩
    · by_cases hb2 : b = S
      · rw [hb2] at q ⊢
        rw [eS] at q
        cases q
        refine ⟨by rw [List.length_map]; omega, acc.toList, c, by rw [hacc]; exact LiI.vals_refs as, ?_⟩
        rw [Array.toArray_toList]
        exact hS
      · rw [off b hb hb2] at q
        exact (I.hok b u q).stay (fun d v _ y => hk d v y) (fun d y => kp d _ y) fun d xs y => kp d _ y
end
end ZlI


/-! list(d.items()), d a dict of ints and texts, or of keys of any kind -/
namespace ZlI
open PySem PySem.Calls PySem.Spec PyProof.Rows L2 LiI
theorem zip_back : ∀ rows : List (V × V), (rows.map (·.1)).zip (rows.map (·.2)) = rows
  | [] => rfl
  | r :: rows => by
    show (r.1, r.2) :: (rows.map (·.1)).zip (rows.map (·.2)) = r :: rows
    rw [zip_back rows]
theorem split_rows : ∀ {rows : List (V × V)} {es : List DictEntry}, Paired (fun (r : V × V) (e : DictEntry) => RelV r.1 e.key ∧ RelV r.2 e.val) rows es → Vals (rows.map (·.1)) (es.map (·.key)) ∧ Vals (rows.map (·.2)) (es.map (·.val))
  | _, _, .nil => ⟨.nil, .nil⟩
  | _, _, .cons h t => ⟨.cons h.1 (split_rows t).1, .cons h.2 (split_rows t).2⟩
/-- what stands at d, as entries -/
theorem entries_of {X : Cx} {pins : List (Addr × Obj)} {σ : L2.St} {H : Hp} {s : Shared} {d : Addr} {u : HO} {rows : List (V × V)} (I : Inv X pins σ H s) (hd : H d = some u) (ro : RowsO d u rows) :
    (d == sysModules) = false ∧ rows.length ≤ sizeLine ∧ ∃ es ep, s.heap.DictRaw d es ep ∧ Paired (fun (r : V × V) (e : DictEntry) => RelV r.1 e.key ∧ RelV r.2 e.val) rows es.toList := by
  rcases ro with ⟨kvs, rfl, rfl⟩ | rfl
  · obtain ⟨z, h1, vs, rel, o, es, ep, ho, hx, hdt, hk, pr, nd⟩ := dk_of I.hok hd
    exact ⟨h1, by unfold rowsK; rw [List.length_map]; omega, es, ep, ⟨o, ho, hx, hdt⟩, raw_rows rel pr⟩
  · exact raw_of (show ObjOk X.prog X.w H s.heap d (RawO d rows) from I.hok d _ hd)
/-- list(d.items()) -/
def tListItemsR (te : TE) : TE := fun σ H Q => te σ H fun x H1 => ∃ (d : Addr) (u : HO) (rows : List (V × V)), x = .ref d ∧ H1 d = some u ∧ RowsO d u rows ∧
  ∀ (H' : Hp) (p : Addr) (ts : List Addr), (∀ b o, H1 b = some o → H' b = some o) → H1 p = none → (∀ t ∈ ts, H1 t = none) → p ∉ ts → H' p = some (.lst (ts.map V.ref)) → Paired (fun (t : Addr) (q : V × V) => H' t = some (.tup [q.1, q.2])) ts rows → Q (.ref p) H'
section
variable {X : Cx} {e : Expr} {te : TE} {p apos cpos pos : Pos}
theorem pe_listItemsR (hc : X.calm = true) (he : PE X e te) (hg : Gl X "list") (hm : X.mg "list" = none) (hv : bootBuiltins "list" = some (.type "list") := by decide +kernel) (hbase : attributeBase e "items" X.env (eval e X.env) = eval e X.env := by rfl) (hline : (apos.endLine == cpos.line) = true := by rfl)
    (hs : starEach [.Call (.Attribute e "items" apos) [] [] cpos] X.env = (false, eval (.Call (.Attribute e "items" apos) [] [] cpos) X.env) :: starEach [] X.env := by rfl) :
    PE X (.Call (.Name "list" p) [.Call (.Attribute e "items" apos) [] [] cpos] [] pos) (tListItemsR te) := by
  refine ⟨fun pins s σ H Q I hq => ?_⟩
  refine wpAny_Call_Name_kw (ld_blt I hg hm hv ?_)
  refine PyProof.Rows.callWith_type1 ?_ hs rfl
  rw [hs]
  show wpAny _ _ (spliced ((false, eval (.Call (.Attribute e "items" apos) [] [] cpos) X.env) :: backTo pos (starEach [] X.env))) _ _ s
  refine Calls.spliced_cons ?_
  refine wpAny_Call_method (T := "dict") (id := "dict.items") hbase rfl hline F.plainAttrs_dict F.slot_dict_items F.type_dict_items (thn (he.run pins s σ H _ I hq) fun u s1 ⟨x, H1, I1, rx, d, ob, rows, ex, hd, ro, q⟩ => ?_)
  subst ex
  obtain rfl : u = Value.ref d := rx
  obtain ⟨nsys, few, es, ep, dr, pr⟩ := entries_of I1 hd ro
  have len : rows.length = es.size := (Paired.length pr).trans Array.length_toList
  obtain ⟨o, o1, o2, o3⟩ := id dr
  have ty : s1.TypeIs (.ref d) "dict" := dr.typeIs
  have I2 : Inv X pins σ H1 { s1 with heap := s1.heap.push { cls := .type "dict_items", data := .fields #[.ref d] } } := I1.kept (t' := s1.toks) fun b ob q => Heap.get?_push_of_some _ q
  refine ⟨ty, fun b eb => by cases eb; exact ⟨o, o1, o2.2.1⟩, ?_⟩
  show wpAny _ _ (callWith cpos (.builtin "dict.items") [.ref d] [] []) _ X.xe s1
  refine method_meetsIn F.slot_dict_items F.entry_dict_items rfl (PySem.evalArgs_none ⟨rfl, ty, F.args_dict_items_1 _, _, meets_dict_items_raw d nsys, ⟨es, ep, dr⟩, ?_⟩)
  refine Calls.spliced_nil ?_
  refine PySem.W.dil_call (es := es) (ep := ep) (I1.ok.hd hc) ⟨_, Heap.get?_push_size _ rfl, rfl, rfl⟩ (dr.at fun o e => Heap.get?_push_of_some _ e) (by omega) fun h' tk acc c as hk hS hl hG hacc => ?_
  obtain ⟨ks, vs⟩ := split_rows pr
  obtain ⟨H', k1, k2, k3, k4, k5, k6, J⟩ := zip_laid (xs := rows.map (·.1)) (ys := rows.map (·.2)) (tk := tk) I2 (by rw [zip_back]; exact few) ks vs (Nat.le_refl _) hk hS (by rw [zip_back, hl, len]) ⟨hG.rise, hG.above, fun j a ja => by
    obtain ⟨hj, at_⟩ := hG.pairs j a ja
    refine ⟨es[j].key, es[j].val, ?_, ?_, at_⟩ <;> simp [hj]⟩ hacc
  rw [zip_back] at k6
  exact ⟨.ref _, H', J, rfl, q H' _ as k1 k2 k3 k4 k5 k6⟩
end
end ZlI


/-! Own: repr of data with dicts anywhere (lists of dicts, dicts of lists), keys of any kind -/
namespace L2
open PySem PySem.Spec PyProof.Rows
mutual
/-- data, dicts among it -/
inductive DQ (K : PySem.W.Frag) (H : Hp) : V → PyData → Prop
  | dat {x : V} {d : PyData} : Dp K H x d → d.hasDict = false → DQ K H x d
  | dict {a : Addr} {es : List EntD} : H a = some (.dK (es.map fun e => (e.1, e.2.1))) → DQE K H es → DQ K H (.ref a) (dcD es)
  | list {a : Addr} {xs : List V} {ds : List PyData} : SqL K H a xs → DQA K H xs ds → DQ K H (.ref a) (.list ds)
  | tup {a : Addr} {xs : List V} {ds : List PyData} : SqT K H a xs → DQA K H xs ds → DQ K H (.ref a) (.tuple ds)
  | raw {a : Addr} {rows : List (V × V)} {es : List (PyData × PyData)} : H a = some (RawO a rows) → DQA K H (rows.map (·.1)) (es.map (·.1)) → DQA K H (rows.map (·.2)) (es.map (·.2)) → DQ K H (.ref a) (.dict es)
inductive DQA (K : PySem.W.Frag) (H : Hp) : List V → List PyData → Prop
  | nil : DQA K H [] []
  | cons {x : V} {d : PyData} {xs : List V} {ds : List PyData} : DQ K H x d → DQA K H xs ds → DQA K H (x :: xs) (d :: ds)
inductive DQE (K : PySem.W.Frag) (H : Hp) : List EntD → Prop
  | nil : DQE K H []
  | cons {k : Key} {v : V} {d : PyData} {es : List EntD} : DQ K H v d → DQE K H es → DQE K H ((k, v, d) :: es)
end
section
variable {X : Cx} {pins : List (Addr × Obj)} {σ : St} {H : Hp} {s : Shared}
mutual
theorem DQ.rk (I : Inv X pins σ H s) : ∀ {x : V} {d : PyData}, DQ X.K H x d → ∀ {u : Value}, RelV x u → d.showable = true → d.shown.length ≤ sizeLine →
    ∃ as bs, Reads s.heap u d as ∧ ReadAtMost s.heap d.depth bs ∧ ReprK X.prog X.w bs s.heap d.depth u d.shown
  | _, d, .dat h nd, u, r, ok, few => by
    obtain ⟨as, q⟩ := Dp.reads I d _ u h r
    obtain ⟨bs, h1, h2⟩ := ReprK.of_reads (prog := X.prog) (w := X.w) q ok (PyData.noDict_hsm nd) few
    exact ⟨as, bs, q, h1, h2⟩
  | _, _, .dict (a := a) (es := es) ha he, u, r, ok, few => by
    obtain rfl : u = Value.ref a := r
    obtain ⟨_, ns, vs, kv, o, ds, ep, h1, h2, h3, _, h4, _⟩ := (show ObjOk X.prog X.w H s.heap a (.dK (es.map fun e => (e.1, e.2.1))) from I.hok a _ ha)
    have few' : (dictText (PyData.shownKv (es.map fun e => (kD e.1, e.2.2)))).length ≤ sizeLine := by simpa only [PyData.shown] using few
    obtain ⟨ok1, ok2⟩ := PyData.showableKv_split (es.map fun e => (kD e.1, e.2.2)) (by simpa [PyData.showable] using ok)
    obtain ⟨⟨as, r1⟩, n1⟩ := keys_rd (s := s) h4 kv
    obtain ⟨b1, m1, k1⟩ := ReprAllK.of_readsAll (prog := X.prog) (w := X.w) r1 ok1 (fun z => by rw [n1] at z; cases z) fun t ht => let ⟨p, hp, hl⟩ := PyData.shownKv_key_le _ t ht; Nat.le_trans hl (Nat.le_trans (dictText_mem_le hp) few')
    obtain ⟨cs, b2, r2, m2, k2⟩ := DQE.rk I he h4 kv ok2 fun t ht => let ⟨p, hp, hl⟩ := PyData.shownKv_val_le _ t ht; Nat.le_trans hl (Nat.le_trans (dictText_mem_le hp) few')
    have rd : Reads s.heap (.ref a) (dcD es) _ := .dict h1 h2.1 h3 r1 r2
    have hb : ReadAtMost s.heap (PyData.depthKv (es.map fun e => (kD e.1, e.2.2))) (b1 ++ b2) := (m1.mono (PyData.depthAll_keys_le _)).append (m2.mono (PyData.depthAll_vals_le _))
    have hna : a ∉ b1 ++ b2 := not_mem_of_deeper rd (by simp only [PyData.depth]; omega) hb
    refine ⟨_, a :: (b1 ++ b2), rd, ReadAtMost.cons rd (by simp only [PyData.depth]; omega) hb, ?_⟩
    simp only [PyData.depth, PyData.shown, PyData.shownKv_eq]
    exact ReprK.dict h1 h2.1 h3 ns hna (ReprEntriesK.of_two ds.toList _ _ (k1.more_le (fun b hb => List.mem_append_left _ hb) (PyData.depthAll_keys_le _)) (k2.more_le (fun b hb => List.mem_append_right _ hb) (PyData.depthAll_vals_le _)))
  | _, _, .list (a := a) (xs := xs) (ds := ds) hx h, u, r, ok, few => by
    obtain rfl : u = Value.ref a := r
    obtain ⟨its, rv, pl, hz⟩ := I.list hx
    obtain ⟨o, n, ho, hc, hd, hdat⟩ := pl
    have few' : (listText (PyData.shownAll ds)).length ≤ sizeLine := by simpa only [PyData.shown] using few
    obtain ⟨as, bs, r1, m1, k1⟩ := DQA.rk I h rv (by simpa [PyData.showable] using ok) fun t ht => Nat.le_trans (listText_mem_le ht) few'
    have rd : Reads s.heap (.ref a) (.list ds) _ := .list ho hc hdat (by simpa using r1)
    have hna : a ∉ bs := not_mem_of_deeper rd (by simp only [PyData.depth]; omega) m1
    refine ⟨_, a :: bs, rd, ReadAtMost.cons rd (by simp only [PyData.depth]; omega) m1, ?_⟩
    simp only [PyData.depth, PyData.shown]
    cases its with
    | nil =>
      cases r1
      simp only [PyData.shownAll, listText_nil]
      exact ReprK.listEmpty ho hc hdat
    | cons x l => exact ReprK.list ho hc hdat hna (by simpa using k1.length_eq) (fun i y e => k1.item i y (by simpa using e))
  | _, _, .tup (a := a) (xs := xs) (ds := ds) hx h, u, r, ok, few => by
    obtain rfl : u = Value.ref a := r
    obtain ⟨its, rv, ⟨o, ho, hc, n, hdat⟩, hz⟩ := I.tuple hx
    have few' : (tupleText (PyData.shownAll ds)).length ≤ sizeLine := by simpa only [PyData.shown] using few
    obtain ⟨as, bs, r1, m1, k1⟩ := DQA.rk I h rv (by simpa [PyData.showable] using ok) fun t ht => Nat.le_trans (tupleText_mem_le ht) few'
    have rd : Reads s.heap (.ref a) (.tuple ds) _ := .tuple ho hc hdat (by simpa using r1)
    have hna : a ∉ bs := not_mem_of_deeper rd (by simp only [PyData.depth]; omega) m1
    refine ⟨_, a :: bs, rd, ReadAtMost.cons rd (by simp only [PyData.depth]; omega) m1, ?_⟩
    simp only [PyData.depth, PyData.shown]
    exact ReprK.tuple ho hc hdat hna (by simpa using k1)
  | _, _, .raw (a := a) (rows := rows) (es := es) ha hk hv, u, r, ok, few => by
    obtain rfl : u = Value.ref a := r
    obtain ⟨ns, _, ds, ep, ⟨o, h1, h2, h3⟩, pr⟩ := raw_of (show ObjOk X.prog X.w H s.heap a (RawO a rows) from I.hok a _ ha)
    obtain ⟨rk, rv⟩ := ZlI.split_rows pr
    have few' : (dictText (PyData.shownKv es)).length ≤ sizeLine := by simpa only [PyData.shown] using few
    obtain ⟨ok1, ok2⟩ := PyData.showableKv_split es (by simpa [PyData.showable] using ok)
    obtain ⟨c1, b1, r1, m1, k1⟩ := DQA.rk I hk rk ok1 fun t ht => let ⟨p, hp, hl⟩ := PyData.shownKv_key_le _ t ht; Nat.le_trans hl (Nat.le_trans (dictText_mem_le hp) few')
    obtain ⟨c2, b2, r2, m2, k2⟩ := DQA.rk I hv rv ok2 fun t ht => let ⟨p, hp, hl⟩ := PyData.shownKv_val_le _ t ht; Nat.le_trans hl (Nat.le_trans (dictText_mem_le hp) few')
    have rd : Reads s.heap (.ref a) (.dict es) _ := .dict h1 h2.1 h3 r1 r2
    have hb : ReadAtMost s.heap (PyData.depthKv es) (b1 ++ b2) := (m1.mono (PyData.depthAll_keys_le _)).append (m2.mono (PyData.depthAll_vals_le _))
    have hna : a ∉ b1 ++ b2 := not_mem_of_deeper rd (by simp only [PyData.depth]; omega) hb
    refine ⟨_, a :: (b1 ++ b2), rd, ReadAtMost.cons rd (by simp only [PyData.depth]; omega) hb, ?_⟩
    simp only [PyData.depth, PyData.shown, PyData.shownKv_eq]
    exact ReprK.dict h1 h2.1 h3 ns hna (ReprEntriesK.of_two ds.toList _ _ (k1.more_le (fun b hb => List.mem_append_left _ hb) (PyData.depthAll_keys_le _)) (k2.more_le (fun b hb => List.mem_append_right _ hb) (PyData.depthAll_vals_le _)))
theorem DQA.rk (I : Inv X pins σ H s) : ∀ {xs : List V} {ds : List PyData}, DQA X.K H xs ds → ∀ {us : List Value}, Vals xs us → PyData.showableAll ds = true → (∀ t ∈ PyData.shownAll ds, t.length ≤ sizeLine) →
    ∃ as bs, ReadsAll s.heap us ds as ∧ ReadAtMost s.heap (PyData.depthAll ds) bs ∧ ReprAllK X.prog X.w bs s.heap (PyData.depthAll ds) us (PyData.shownAll ds)
  | _, _, .nil, _, .nil, _, _ => ⟨[], [], .nil, (fun _ h => nomatch h), by simp only [PyData.shownAll]; exact .nil⟩
  | _, _, .cons (d := d) (ds := ds) h hs, _, .cons r rs, ok, few => by
    have ok' : d.showable = true ∧ PyData.showableAll ds = true := by simpa [PyData.showableAll] using ok
    obtain ⟨a1, b1, r1, m1, k1⟩ := DQ.rk I h r ok'.1 (few _ (by simp only [PyData.shownAll]; exact List.mem_cons_self ..))
    obtain ⟨a2, b2, r2, m2, k2⟩ := DQA.rk I hs rs ok'.2 (fun t ht => few t (by simp only [PyData.shownAll]; exact List.mem_cons_of_mem _ ht))
    refine ⟨_, b1 ++ b2, .cons r1 r2, ?_, ?_⟩
    · intro b hm
      simp only [PyData.depthAll]
      rcases List.mem_append.mp hm with hm | hm
      · obtain ⟨d', as', r', hd'⟩ := m1 b hm
        exact ⟨d', as', r', Nat.le_trans hd' (Nat.le_max_left _ _)⟩
      · obtain ⟨d', as', r', hd'⟩ := m2 b hm
        exact ⟨d', as', r', Nat.le_trans hd' (Nat.le_max_right _ _)⟩
    · simp only [PyData.depthAll, PyData.shownAll]
      exact .cons ((k1.more fun b hb => List.mem_append_left _ hb).level_le (Nat.le_max_left _ _)) (k2.more_le (fun b hb => List.mem_append_right _ hb) (Nat.le_max_right _ _))
theorem DQE.rk (I : Inv X pins σ H s) : ∀ {es : List EntD}, DQE X.K H es → ∀ {ds : List DictEntry} {vs : List (Key × Value)}, Pairs (mixKind X.prog X.w) ds vs → KV (es.map fun e => (e.1, e.2.1)) vs → PyData.showableAll ((es.map fun e => (kD e.1, e.2.2)).map (·.2)) = true → (∀ t ∈ PyData.shownAll ((es.map fun e => (kD e.1, e.2.2)).map (·.2)), t.length ≤ sizeLine) →
    ∃ as bs, ReadsAll s.heap (ds.map (·.val)) ((es.map fun e => (kD e.1, e.2.2)).map (·.2)) as ∧ ReadAtMost s.heap (PyData.depthAll ((es.map fun e => (kD e.1, e.2.2)).map (·.2))) bs ∧ ReprAllK X.prog X.w bs s.heap (PyData.depthAll ((es.map fun e => (kD e.1, e.2.2)).map (·.2))) (ds.map (·.val)) (PyData.shownAll ((es.map fun e => (kD e.1, e.2.2)).map (·.2)))
  | _, .nil, ds, vs, p, kv, _, _ => by
    cases kv
    cases p
    exact ⟨[], [], .nil, (fun _ h => nomatch h), by simp only [List.map_nil, PyData.shownAll]; exact .nil⟩
  | _, .cons (d := d) (es := es) h hs, ds, vs, p, kv, ok, few => by
    cases kv with
    | cons hq kv =>
      cases p with
      | cons pk pv p =>
        obtain ⟨e1, rv⟩ := hq
        rw [← pv] at rv
        have ok' : d.showable = true ∧ PyData.showableAll ((es.map fun e => (kD e.1, e.2.2)).map (·.2)) = true := by simpa [PyData.showableAll] using ok
        obtain ⟨a1, b1, r1, m1, k1⟩ := DQ.rk I h rv ok'.1 (few _ (by simp only [List.map_cons, PyData.shownAll]; exact List.mem_cons_self ..))
        obtain ⟨a2, b2, r2, m2, k2⟩ := DQE.rk I hs p kv ok'.2 (fun t ht => few t (by simp only [List.map_cons, PyData.shownAll]; exact List.mem_cons_of_mem _ ht))
        refine ⟨_, b1 ++ b2, .cons r1 r2, ?_, ?_⟩
        · intro b hm
          simp only [List.map_cons, PyData.depthAll]
          rcases List.mem_append.mp hm with hm | hm
          · obtain ⟨d', as', r', hd'⟩ := m1 b hm
            exact ⟨d', as', r', Nat.le_trans hd' (Nat.le_max_left _ _)⟩
          · obtain ⟨d', as', r', hd'⟩ := m2 b hm
            exact ⟨d', as', r', Nat.le_trans hd' (Nat.le_max_right _ _)⟩
        · simp only [List.map_cons, PyData.depthAll, PyData.shownAll]
          exact .cons ((k1.more fun b hb => List.mem_append_left _ hb).level_le (Nat.le_max_left _ _)) (k2.more_le (fun b hb => List.mem_append_right _ hb) (Nat.le_max_right _ _))
end
def rReprO (K : PySem.W.Frag) : List V → Hp → VK → Prop := fun xs H Q => ∃ (x : V) (d : PyData), xs = [x] ∧ DQ K H x d ∧ d.showable = true ∧ d.depth ≤ 60 ∧ d.shown.length ≤ sizeLine ∧ Q (.str d.shown) H
theorem call_reprO (clr : Clr X.A) (hu : X.A.units + 64 < cLine) : CallR X (.builtin "repr") (rReprO X.K) := by
  intro pins s σ H xs us Q I r h
  obtain ⟨x, d, rfl, sh, ok, dep, few, q⟩ := h
  cases sh with
  | dat h nd => exact call_repr clr hu pins s σ H _ us Q I r ⟨x, d, rfl, .inl ⟨h, nd⟩, ok, dep, few, q⟩
  | dict ha he =>
    rename_i a es
    obtain ⟨u, rfl, ru⟩ := vals1 r
    obtain rfl : u = Value.ref a := ru
    obtain ⟨_, ns, vs, kv, o, ds, ep, h1, h2, h3, _, h4, _⟩ := (show ObjOk X.prog X.w H s.heap a (.dK (es.map fun e => (e.1, e.2.1))) from I.hok a _ ha)
    have few' : (dictText (PyData.shownKv (es.map fun e => (kD e.1, e.2.2)))).length ≤ sizeLine := by simpa only [PyData.shown] using few
    obtain ⟨ok1, ok2⟩ := PyData.showableKv_split (es.map fun e => (kD e.1, e.2.2)) (by simpa [PyData.showable] using ok)
    obtain ⟨⟨as, r1⟩, n1⟩ := keys_rd (s := s) h4 kv
    obtain ⟨b1, m1, k1⟩ := ReprAllK.of_readsAll (prog := X.prog) (w := X.w) r1 ok1 (fun z => by rw [n1] at z; cases z) fun t ht => let ⟨p, hp, hl⟩ := PyData.shownKv_key_le _ t ht; Nat.le_trans hl (Nat.le_trans (dictText_mem_le hp) few')
    obtain ⟨cs, b2, r2, m2, k2⟩ := DQE.rk I he h4 kv ok2 fun t ht => let ⟨p, hp, hl⟩ := PyData.shownKv_val_le _ t ht; Nat.le_trans hl (Nat.le_trans (dictText_mem_le hp) few')
    have rd : Reads s.heap (.ref a) (dcD es) _ := .dict h1 h2.1 h3 r1 r2
    have hb : ReadAtMost s.heap (PyData.depthKv (es.map fun e => (kD e.1, e.2.2))) (b1 ++ b2) := (m1.mono (PyData.depthAll_keys_le _)).append (m2.mono (PyData.depthAll_vals_le _))
    have hna : a ∉ b1 ++ b2 := not_mem_of_deeper rd (by simp only [PyData.depth]; omega) hb
    have dep' : PyData.depthKv (es.map fun e => (kD e.1, e.2.2)) + 1 ≤ 60 := by simpa only [PyData.depth] using dep
    refine call_repr_slot (by omega) ⟨o, h1, h2.1⟩ PySem.F.slot_dict_repr (call_dict_reprK h1 h2.1 h3 ns hna (ReprEntriesK.of_two ds.toList _ _ (k1.more_le (fun b hb => List.mem_append_left _ hb) (PyData.depthAll_keys_le _)) (k2.more_le (fun b hb => List.mem_append_right _ hb) (PyData.depthAll_vals_le _)))
      (g := []) clr (fun b _ => Clear.nil b) (by show X.A.units + 1 + _ < cLine; omega) (fun _ _ z => z) (fun h' t tk kp => ⟨_, _, rfl, ?_⟩) (by rw [← PyData.shownKv_eq]; exact few'))
    refine ⟨.str (dcD es).shown, H, I.kept kp, ?_, q⟩
    exact ⟨t, by rw [show (dcD es).shown = dictText (PyData.shownKv (es.map fun e => (kD e.1, e.2.2))) by simp only [PyData.shown], PyData.shownKv_eq]⟩
  | list hx h =>
    rename_i a xs ds
    have r0 := r
    obtain ⟨u, rfl, ru⟩ := vals1 r
    obtain rfl : u = Value.ref a := ru
    obtain ⟨its, rv, pl, hz⟩ := I.list hx
    obtain ⟨o, n, ho, hc, hd, hdat⟩ := pl
    have few' : (listText (PyData.shownAll ds)).length ≤ sizeLine := by simpa only [PyData.shown] using few
    obtain ⟨as, bs, r1, m1, k1⟩ := DQA.rk I h rv (by simpa [PyData.showable] using ok) fun t ht => Nat.le_trans (listText_mem_le ht) few'
    have rd : Reads s.heap (.ref a) (.list ds) _ := .list ho hc hdat (by simpa using r1)
    have hna : a ∉ bs := not_mem_of_deeper rd (by simp only [PyData.depth]; omega) m1
    have dep' : PyData.depthAll ds + 1 ≤ 60 := by simpa only [PyData.depth] using dep
    cases its with
    | nil =>
      cases rv
      cases h
      exact call_repr clr hu pins s σ H _ _ Q I r0 ⟨.ref a, .list [], rfl, .inl ⟨.lst hx .nil, rfl⟩, ok, dep, few, q⟩
    | cons y l =>
      refine call_repr_slot (by omega) ⟨o, ho, hc⟩ PySem.F.slot_list_repr.toG (call_list_reprK ho hc hdat hna (by simpa using k1.length_eq) (fun i y e => k1.item i y (by simpa using e)) (g := []) clr (fun b _ => Clear.nil b) (by show X.A.units + 1 + _ < cLine; omega) (fun _ _ z => z) (fun h' t tk kp => ⟨_, _, rfl, ?_⟩) few')
      exact ⟨.str (PyData.list ds).shown, H, I.kept kp, ⟨t, by simp only [PyData.shown]⟩, q⟩
  | tup hx h =>
    rename_i a xs ds
    obtain ⟨u, rfl, ru⟩ := vals1 r
    obtain rfl : u = Value.ref a := ru
    obtain ⟨its, rv, ⟨o, ho, hc, n, hdat⟩, hz⟩ := I.tuple hx
    have few' : (tupleText (PyData.shownAll ds)).length ≤ sizeLine := by simpa only [PyData.shown] using few
    obtain ⟨as, bs, r1, m1, k1⟩ := DQA.rk I h rv (by simpa [PyData.showable] using ok) fun t ht => Nat.le_trans (tupleText_mem_le ht) few'
    have rd : Reads s.heap (.ref a) (.tuple ds) _ := .tuple ho hc hdat (by simpa using r1)
    have hna : a ∉ bs := not_mem_of_deeper rd (by simp only [PyData.depth]; omega) m1
    have dep' : PyData.depthAll ds + 1 ≤ 60 := by simpa only [PyData.depth] using dep
    refine call_repr_slot (by omega) ⟨o, ho, hc⟩ PySem.F.slot_tuple_repr (call_tuple_reprK ho hc hdat hna (by simpa using k1) (g := []) clr (fun b _ => Clear.nil b) (by show X.A.units + 1 + _ < cLine; omega) (fun _ _ z => z) (fun h' t tk kp => ⟨_, _, rfl, ?_⟩) few')
    exact ⟨.str (PyData.tuple ds).shown, H, I.kept kp, ⟨t, by simp only [PyData.shown]⟩, q⟩
  | raw ha hk hv =>
    rename_i a rows es
    obtain ⟨u, rfl, ru⟩ := vals1 r
    obtain rfl : u = Value.ref a := ru
    obtain ⟨ns, _, ds, ep, ⟨o, h1, h2, h3⟩, pr⟩ := raw_of (show ObjOk X.prog X.w H s.heap a (RawO a rows) from I.hok a _ ha)
    obtain ⟨rk, rv⟩ := ZlI.split_rows pr
    have few' : (dictText (PyData.shownKv es)).length ≤ sizeLine := by simpa only [PyData.shown] using few
    obtain ⟨ok1, ok2⟩ := PyData.showableKv_split es (by simpa [PyData.showable] using ok)
    obtain ⟨c1, b1, r1, m1, k1⟩ := DQA.rk I hk rk ok1 fun t ht => let ⟨p, hp, hl⟩ := PyData.shownKv_key_le _ t ht; Nat.le_trans hl (Nat.le_trans (dictText_mem_le hp) few')
    obtain ⟨c2, b2, r2, m2, k2⟩ := DQA.rk I hv rv ok2 fun t ht => let ⟨p, hp, hl⟩ := PyData.shownKv_val_le _ t ht; Nat.le_trans hl (Nat.le_trans (dictText_mem_le hp) few')
    have rd : Reads s.heap (.ref a) (.dict es) _ := .dict h1 h2.1 h3 r1 r2
    have hb : ReadAtMost s.heap (PyData.depthKv es) (b1 ++ b2) := (m1.mono (PyData.depthAll_keys_le _)).append (m2.mono (PyData.depthAll_vals_le _))
    have hna : a ∉ b1 ++ b2 := not_mem_of_deeper rd (by simp only [PyData.depth]; omega) hb
    have dep' : PyData.depthKv es + 1 ≤ 60 := by simpa only [PyData.depth] using dep
    refine call_repr_slot (by omega) ⟨o, h1, h2.1⟩ PySem.F.slot_dict_repr (call_dict_reprK h1 h2.1 h3 ns hna (ReprEntriesK.of_two ds.toList _ _ (k1.more_le (fun b hb => List.mem_append_left _ hb) (PyData.depthAll_keys_le _)) (k2.more_le (fun b hb => List.mem_append_right _ hb) (PyData.depthAll_vals_le _)))
      (g := []) clr (fun b _ => Clear.nil b) (by show X.A.units + 1 + _ < cLine; omega) (fun _ _ z => z) (fun h' t tk kp => ⟨_, _, rfl, ?_⟩) (by rw [← PyData.shownKv_eq]; exact few'))
    refine ⟨.str (PyData.dict es).shown, H, I.kept kp, ?_, q⟩
    exact ⟨t, by rw [show (PyData.dict es).shown = dictText (PyData.shownKv es) by simp only [PyData.shown], PyData.shownKv_eq]⟩
end
end L2


/-! bent sizes, told down to the last sign: what stands in them, off the addresses Z, and their text -/
namespace FT
open PySem L2 TL ClX LiI
/-- all off Z stays, tables aside -/
def KpZ (Z : List Addr) (H H' : Hp) : Prop := ∀ b u, b ∉ Z → H b = some u → (∀ ps, u ≠ HO.tbl ps) → H' b = some u
theorem KpZ.of_kx {Z A : List Addr} {H H' : Hp} (h : ∀ b ∈ A, b ∈ Z) (k : KeepX A H H') : KpZ Z H H' := fun b u n e _ => k b u (fun m => n (h b m)) e
theorem KpZ.of_same {Z : List Addr} {H H' : Hp} (k : Same H H') : KpZ Z H H' := fun b u _ e _ => k b u e
theorem KpZ.of_ext {Z : List Addr} {H H' : Hp} (k : LamX.ExtN H H') : KpZ Z H H' := fun b u _ e n => k b u e n
theorem KpZ.trans {Z : List Addr} {H H1 H2 : Hp} (a : KpZ Z H H1) (c : KpZ Z H1 H2) : KpZ Z H H2 := fun b u n e t => c b u n (a b u n e t) t
/-- a value of bent sizes, as data -/
inductive DV (Z : List Addr) (H : Hp) : V → PyData → Prop
  | int {i : Int} : -1 ≤ i → i ≤ 10 ^ 30 → DV Z H (.int i) (.int i)
  | bl : DV Z H (.bl true) (.bool true)
  | non : DV Z H .non .none
  | one : DV Z H (.str "1") (.str "1")
  | lst {p : Addr} : p ∉ Z → H p = some (.lst [.int 1]) → DV Z H (.ref p) (.list [.int 1])
theorem DV.keep {Z : List Addr} {H H' : Hp} {v : V} {d : PyData} (k : KpZ Z H H') (h : DV Z H v d) : DV Z H' v d := by
  cases h with
  | int a b => exact .int a b
  | bl => exact .bl
  | non => exact .non
  | one => exact .one
  | lst n e => exact .lst n (k _ _ n e (by intro _ z; cases z))
/-- a key of another kind -/
inductive DO (Z : List Addr) (H : Hp) : V → Prop
  | non : DO Z H .non
  | tup {c : Addr} : c ∉ Z → H c = some (.tup [.str "a"]) → DO Z H (.ref c)
theorem DO.keep {Z : List Addr} {H H' : Hp} {v : V} (k : KpZ Z H H') (h : DO Z H v) : DO Z H' v := by
  cases h with
  | non => exact .non
  | tup n e => exact .tup n (k _ _ n e (by intro _ z; cases z))
def oddRows (fl : Bool) (y : V) (kvs : List (Key × V)) : List (V × V) := if fl = true then (y, .int 0) :: rowsK kvs else rowsK kvs ++ [(y, .int 0)]
inductive BR (Z : List Addr) (H : Hp) (m : Nat) (fl : Bool) : V → Option (List (Key × V)) → Prop
  | dict {q : Addr} {kvs : List (Key × V)} : q ∉ Z → H q = some (.dK kvs) → (kvs.map (·.1)).Nodup → kvs.length ≤ 13 → (∀ p ∈ kvs, KeyB p.1) → (∀ p ∈ kvs, ∃ d, DV Z H p.2 d) → BR Z H m fl (.ref q) (some kvs)
  | non : BR Z H m fl .non none
  | five : BR Z H m fl (.int 5) none
  | txt : BR Z H m fl (.str "a=1") none
  | bl : BR Z H m fl (.bl true) none
  | nil {p : Addr} : p ∉ Z → H p = some (.lst []) → BR Z H m fl (.ref p) none
  | prs {p : Addr} {ts : List Addr} {lo : List Str} {s : Str → Int} : p ∉ Z → H p = some (.lst (ts.map V.ref)) → Paired (fun (t : Addr) (a : Str) => t ∉ Z ∧ H t = some (.tup [.str a, .int (s a)])) ts lo → lo.length ≤ 13 → (∀ a ∈ lo, NameL a ∧ 0 ≤ s a ∧ s a ≤ 60) → BR Z H m fl (.ref p) none
  | raw {b : Addr} {y : V} {lo : List Str} {s : Str → Int} : b ∉ Z → H b = some (RawO b (oddRows fl y (tblI lo s))) → DO Z H y → lo.length = m → lo.length ≤ 12 → lo.Nodup → (∀ a ∈ lo, NameL a ∧ 0 ≤ s a ∧ s a ≤ 60) → BR Z H m fl (.ref b) none
theorem BR.keep {Z : List Addr} {H H' : Hp} {m : Nat} {fl : Bool} {sv : V} {o : Option (List (Key × V))} (k : KpZ Z H H') (h : BR Z H m fl sv o) : BR Z H' m fl sv o := by
  cases h with
  | dict n e nd l kb dv => exact .dict n (k _ _ n e (by intro _ z; cases z)) nd l kb fun p hp => (dv p hp).imp fun d h => h.keep k
  | non => exact .non
  | five => exact .five
  | txt => exact .txt
  | bl => exact .bl
  | nil n e => exact .nil n (k _ _ n e (by intro _ z; cases z))
  | prs n e pr l b => exact .prs n (k _ _ n e (by intro _ z; cases z)) (pair_imp (fun t a h => ⟨h.1, k _ _ h.1 h.2 (by intro _ z; cases z)⟩) pr) l b
  | raw n e dy l l2 nd b => exact .raw n (k _ _ n e (by intro _ z; cases z)) (dy.keep k) l l2 nd b
theorem rowsK_mem {kvs : List (Key × V)} {r : V × V} (h : r ∈ rowsK kvs) : ∃ p ∈ kvs, r = (kV p.1, p.2) := by
  obtain ⟨p, hp, e⟩ := List.mem_map.mp h
  exact ⟨p, hp, e.symm⟩
theorem oddRows_mem {fl : Bool} {y : V} {kvs : List (Key × V)} {r : V × V} (h : r ∈ oddRows fl y kvs) : r = (y, .int 0) ∨ r ∈ rowsK kvs := by
  unfold oddRows at h
  cases fl with
  | true => exact List.mem_cons.mp h
  | false => exact ((List.mem_append.mp h).imp id List.mem_singleton.mp).symm
theorem oddRows_len (fl : Bool) (y : V) (kvs : List (Key × V)) : (oddRows fl y kvs).length = kvs.length + 1 := by
  unfold oddRows
  cases fl with
  | true => show (rowsK kvs).length + 1 = _; rw [rowsK_len]
  | false => show (rowsK kvs ++ [_]).length = _; rw [List.length_append, rowsK_len] <;> rfl
theorem DV.dat {K : PySem.W.Frag} {Z : List Addr} {H : Hp} {v : V} {d : PyData} (h : DV Z H v d) : IsDat K H v := by
  cases h with
  | int _ _ => exact ⟨_, .int _⟩
  | bl => exact ⟨_, .bl _⟩
  | non => exact ⟨_, .non⟩
  | one => exact ⟨_, .str _⟩
  | lst _ e => exact ⟨_, .lst e⟩
theorem BR.bentV {K : PySem.W.Frag} {Z : List Addr} {H : Hp} {m : Nat} {fl : Bool} {sv : V} {o : Option (List (Key × V))} (h : BR Z H m fl sv o) : BentV K H m sv o := by
  cases h with
  | dict n e nd l kb dv => exact ⟨_, rfl, e, fun p hp => (dv p hp).elim fun d h => h.dat, nd, l, kb⟩
  | non => exact .inl ⟨_, .non, by decide⟩
  | five => exact .inl ⟨_, .int _, by decide⟩
  | txt => exact .inl ⟨_, .str _, by decide⟩
  | bl => exact .inl ⟨_, .bl _, by decide⟩
  | nil n e => exact .inl ⟨_, .lst e, by decide⟩
  | prs n e pr l b => exact .inl ⟨_, .lst e, by decide⟩
  | raw n e dy l l2 nd b =>
    refine .inr ⟨_, _, rfl, e, by rw [oddRows_len, tblI_len, l], by rw [oddRows_len, tblI_len]; omega, fun r hr => ?_⟩
    rcases oddRows_mem hr with rfl | hr
    · cases dy with
      | non => exact .inl rfl
      | tup _ e2 => exact .inr (.inr ⟨_, rfl, e2⟩)
    · obtain ⟨p, hp, rfl⟩ := rowsK_mem hr
      obtain ⟨a, ha, rfl⟩ := tblI_mem hp
      exact .inr (.inl ⟨a, rfl, (b a ha).1⟩)
/-! ### the text -/
theorem numR {u : Int} (h0 : -1 ≤ u) (h1 : u ≤ 10 ^ 30) : (PyData.shown (.int u)).length ≤ 40 ∧ PyData.showable (.int u) = true := by
  by_cases e : u = -1
  · subst e
    exact ⟨by decide +kernel, by decide +kernel⟩
  · obtain ⟨n, rfl⟩ := Int.eq_ofNat_of_zero_le (show 0 ≤ u by omega)
    have lt : n < 10 ^ 31 := by omega
    refine ⟨?_, ?_⟩
    · have e : PyData.shown (.int (n : Int)) = Str.ofString (toString ((n : Nat) : Int)) := by
        simp only [PyData.shown]
      rw [e, len_tl, tl_num]
      exact Nat.le_trans (numL_len (by decide) lt) (by decide)
    · simp only [PyData.showable, decide_eq_true_eq]
      refine PySem.Spec.log2_small ?_
      rw [Int.natAbs_natCast]
      refine Nat.lt_of_lt_of_le lt ?_
      exact Nat.le_trans (show 10 ^ 31 ≤ 2 ^ 200 by decide) (Nat.pow_le_pow_right (by decide) (by decide))
/-- short data without a dict -/
structure Sh (d : PyData) (k b : Nat) : Prop where
  sh : d.showable = true
  lv : d.leavesShort 40 = true
  dp : d.depth ≤ k
  bk : d.bulk ≤ b
theorem str_leafR {z : Str} (h : PyData.strOk z = true) : PyData.leavesShort 40 (.str z) = true := by
  unfold PyData.leavesShort
  rw [List.all_eq_true]
  unfold PyData.strOk at h
  intro c hc
  have h := Array.all_eq_true_iff_forall_mem.mp h c (Array.mem_toList_iff.mp hc)
  have h := of_decide_eq_true h
  exact decide_eq_true (by omega)
theorem sh_int {u : Int} (h0 : -1 ≤ u) (h1 : u ≤ 10 ^ 30) : Sh (.int u) 0 0 := by
  obtain ⟨q1, q2⟩ := numR h0 h1
  exact ⟨q2, decide_eq_true q1, Nat.le_refl _, Nat.le_refl _⟩
theorem sh_str {z : Str} (h : PyData.strOk z = true) (l : z.length ≤ 8) : Sh (.str z) 0 8 := ⟨rfl, str_leafR h, Nat.le_refl _, l⟩
theorem sh_name {z : Str} (h : NameL z) : Sh (.str z) 0 8 := sh_str (strOk_name h) h.len.2
theorem DV.sh {K : PySem.W.Frag} {Z : List Addr} {H : Hp} {v : V} {d : PyData} (h : DV Z H v d) : Sh d 1 8 ∧ Dp K H v d ∧ d.hasDict = false := by
  cases h with
  | int a b => exact ⟨⟨(sh_int a b).sh, (sh_int a b).lv, Nat.zero_le _, Nat.zero_le _⟩, .int _, rfl⟩
  | bl => exact ⟨⟨rfl, by decide +kernel, Nat.zero_le _, Nat.zero_le _⟩, .bl _, rfl⟩
  | non => exact ⟨⟨rfl, by decide +kernel, Nat.zero_le _, Nat.zero_le _⟩, .non, rfl⟩
  | one => exact ⟨⟨by decide +kernel, by decide +kernel, Nat.zero_le _, by decide +kernel⟩, .str _, rfl⟩
  | lst n e => exact ⟨⟨by decide +kernel, by decide +kernel, by decide +kernel, by decide +kernel⟩, .lst (SqL.of e) (.cons (.int _) .nil), rfl⟩
theorem sh_key {k : Key} (h : KeyB k) : Sh (kD k) 0 8 := by
  cases k with
  | inl i =>
    have e : i = 3 := h
    subst e
    exact ⟨by decide +kernel, by decide +kernel, Nat.le_refl _, Nat.zero_le _⟩
  | inr z =>
    rcases h with h | rfl
    · exact sh_name h
    · exact ⟨by decide +kernel, by decide +kernel, Nat.le_refl _, by decide +kernel⟩
theorem kv_cons {a b : PyData} {r : List (PyData × PyData)} {k n x y : Nat} (ha : Sh a k x) (hb : Sh b k y) (h1 : PyData.showableKv r = true) (h2 : PyData.leavesShortKv 40 r = true) (h3 : PyData.depthKv r ≤ k) (h4 : PyData.bulkKv r ≤ n) :
    PyData.showableKv ((a, b) :: r) = true ∧ PyData.leavesShortKv 40 ((a, b) :: r) = true ∧ PyData.depthKv ((a, b) :: r) ≤ k ∧ PyData.bulkKv ((a, b) :: r) ≤ x + y + 2 + n := by
  refine ⟨?_, ?_, ?_, ?_⟩
  · show (PyData.showable a && PyData.showable b && PyData.showableKv r) = true
    rw [ha.sh, hb.sh, h1] <;> rfl
  · show (PyData.leavesShort 40 a && PyData.leavesShort 40 b && PyData.leavesShortKv 40 r) = true
    rw [ha.lv, hb.lv, h2] <;> rfl
  · show max (max (PyData.depth a) (PyData.depth b)) (PyData.depthKv r) ≤ k
    have := ha.dp
    have := hb.dp
    omega
  · show PyData.bulk a + PyData.bulk b + 2 + PyData.bulkKv r ≤ _
    have := ha.bk
    have := hb.bk
    omega
theorem fits_of {d : PyData} (h1 : d.showable = true) (h2 : d.leavesShort 40 = true) (h3 : d.depth ≤ 60) (h4 : d.bulk ≤ 1000) : d.showable = true ∧ d.depth ≤ 60 ∧ d.shown.length ≤ sizeLine := by
  refine ⟨h1, h3, ?_⟩
  have z := PyData.shown_le_bulk 40 (by decide) _ h2
  have big : 42 * 1000 + 40 ≤ sizeLine := by rw [sizeLine_eq]; decide
  have m := Nat.mul_le_mul_left 42 h4
  omega
theorem ents_dq {K : PySem.W.Frag} {Z : List Addr} {H : Hp} : ∀ {kvs : List (Key × V)}, (∀ p ∈ kvs, KeyB p.1 ∧ ∃ d, DV Z H p.2 d) → ∃ es : List EntD, (es.map fun e => (e.1, e.2.1)) = kvs ∧ (∀ H', KpZ Z H H' → DQE K H' es) ∧ PyData.showableKv (es.map fun e => (kD e.1, e.2.2)) = true ∧ PyData.leavesShortKv 40 (es.map fun e => (kD e.1, e.2.2)) = true ∧ PyData.depthKv (es.map fun e => (kD e.1, e.2.2)) ≤ 1 ∧ PyData.bulkKv (es.map fun e => (kD e.1, e.2.2)) ≤ 18 * kvs.length
  | [], _ => ⟨[], rfl, fun _ _ => .nil, rfl, rfl, Nat.zero_le _, Nat.zero_le _⟩
  | (kk, v) :: kvs, h => by
    obtain ⟨es, e1, e2, e3, e4, e5, e6⟩ := ents_dq (K := K) (kvs := kvs) fun p hp => h p (List.mem_cons_of_mem _ hp)
    obtain ⟨kb, d, dv⟩ := h (kk, v) (List.mem_cons_self ..)
    obtain ⟨sd, dp, nd⟩ := dv.sh (K := K)
    have sk := sh_key kb
    obtain ⟨f1, f2, f3, f4⟩ := kv_cons (k := 1) ⟨sk.sh, sk.lv, by have := sk.dp; omega, sk.bk⟩ sd e3 e4 e5 e6
    exact ⟨(kk, v, d) :: es, by rw [List.map_cons, e1], fun H' k => .cons (.dat ((dv.keep k).sh (K := K)).2.1 nd) (e2 H' k), f1, f2, f3, by rw [List.length_cons]; exact Nat.le_trans f4 (by omega)⟩
theorem DO.sh {K : PySem.W.Frag} {Z : List Addr} {H : Hp} {v : V} (h : DO Z H v) : ∃ d, Sh d 1 8 ∧ (∀ H', KpZ Z H H' → Dp K H' v d) ∧ d.hasDict = false := by
  cases h with
  | non => exact ⟨.none, ⟨rfl, by decide +kernel, Nat.zero_le _, Nat.zero_le _⟩, fun _ _ => .non, rfl⟩
  | tup n e => exact ⟨.tuple [.str "a"], ⟨by decide +kernel, by decide +kernel, by decide +kernel, by decide +kernel⟩, fun _ k => .tup (.inl (.inl (k _ _ n e (by intro _ z; cases z)))) (.cons (.str _) .nil), rfl⟩
theorem raw_dq {K : PySem.W.Frag} {Z : List Addr} {H : Hp} : ∀ {rows : List (V × V)}, (∀ r ∈ rows, (∃ d, Sh d 1 8 ∧ (∀ H', KpZ Z H H' → Dp K H' r.1 d) ∧ d.hasDict = false) ∧ ∃ d, Sh d 1 8 ∧ (∀ H', KpZ Z H H' → Dp K H' r.2 d) ∧ d.hasDict = false) → ∃ es : List (PyData × PyData), (∀ H', KpZ Z H H' → DQA K H' (rows.map (·.1)) (es.map (·.1)) ∧ DQA K H' (rows.map (·.2)) (es.map (·.2))) ∧ PyData.showableKv es = true ∧ PyData.leavesShortKv 40 es = true ∧ PyData.depthKv es ≤ 1 ∧ PyData.bulkKv es ≤ 18 * rows.length
  | [], _ => ⟨[], fun _ _ => ⟨.nil, .nil⟩, rfl, rfl, Nat.zero_le _, Nat.zero_le _⟩
  | r :: rows, h => by
    obtain ⟨es, e1, e3, e4, e5, e6⟩ := raw_dq (K := K) (rows := rows) fun p hp => h p (List.mem_cons_of_mem _ hp)
    obtain ⟨⟨a, sa, da, na⟩, ⟨b, sb, db, nb⟩⟩ := h r (List.mem_cons_self ..)
    obtain ⟨f1, f2, f3, f4⟩ := kv_cons (k := 1) sa sb e3 e4 e5 e6
    exact ⟨(a, b) :: es, fun H' k => ⟨.cons (.dat (da H' k) na) (e1 H' k).1, .cons (.dat (db H' k) nb) (e1 H' k).2⟩, f1, f2, f3, by rw [List.length_cons]; exact Nat.le_trans f4 (by omega)⟩
theorem prs_dp {K : PySem.W.Frag} {Z : List Addr} {H : Hp} {s : Str → Int} : ∀ {ts : List Addr} {lo : List Str}, Paired (fun (t : Addr) (a : Str) => t ∉ Z ∧ H t = some (.tup [.str a, .int (s a)])) ts lo → (∀ a ∈ lo, NameL a ∧ 0 ≤ s a ∧ s a ≤ 60) → ∃ ds : List PyData, (∀ H', KpZ Z H H' → DpAll K H' (ts.map V.ref) ds) ∧ PyData.showableAll ds = true ∧ PyData.leavesShortAll 40 ds = true ∧ PyData.depthAll ds ≤ 1 ∧ PyData.bulkAll ds ≤ 12 * lo.length ∧ PyData.hasDictAll ds = false
  | _, _, .nil, _ => ⟨[], fun _ _ => .nil, rfl, rfl, Nat.zero_le _, Nat.zero_le _, rfl⟩
  | _, _, .cons (b := a) (l₁ := ts) (l₂ := lo) h t, hb => by
    obtain ⟨ds, e1, e2, e3, e4, e5, e6⟩ := prs_dp (K := K) t fun b hm => hb b (List.mem_cons_of_mem _ hm)
    obtain ⟨n1, n2, n3⟩ := hb a (List.mem_cons_self ..)
    have s1 := sh_name n1
    have s2 := sh_int (u := s a) (by omega) (by omega)
    have b1 := s1.bk
    have b2 := s2.bk
    have d1 := s1.dp
    have d2 := s2.dp
    refine ⟨.tuple [.str a, .int (s a)] :: ds, fun H' k => .cons (.tup (.inl (.inl (k _ _ h.1 h.2 (by intro _ z; cases z)))) (.cons (.str _) (.cons (.int _) .nil))) (e1 H' k), ?_, ?_, ?_, ?_, ?_⟩
    · show ((PyData.showable (.str a) && (PyData.showable (.int (s a)) && true)) && PyData.showableAll ds) = true
      rw [s1.sh, s2.sh, e2] <;> rfl
    · show ((PyData.leavesShort 40 (.str a) && (PyData.leavesShort 40 (.int (s a)) && true)) && PyData.leavesShortAll 40 ds) = true
      rw [s1.lv, s2.lv, e3] <;> rfl
    · show max (max (PyData.depth (.str a)) (max (PyData.depth (.int (s a))) 0) + 1) (PyData.depthAll ds) ≤ 1
      omega
    · show (PyData.bulk (.str a) + 1 + (PyData.bulk (.int (s a)) + 1 + 0)) + 1 + PyData.bulkAll ds ≤ 12 * (lo.length + 1)
      omega
    · show (false || PyData.hasDictAll ds) = false
      rw [e6] <;> rfl
theorem BR.dq {K : PySem.W.Frag} {Z : List Addr} {H : Hp} {m : Nat} {fl : Bool} {sv : V} {o : Option (List (Key × V))} (h : BR Z H m fl sv o) : ∃ d, (∀ H', KpZ Z H H' → DQ K H' sv d) ∧ d.showable = true ∧ d.depth ≤ 60 ∧ d.shown.length ≤ sizeLine := by
  cases h with
  | dict n e nd l kb dv =>
    obtain ⟨es, e1, e2, e3, e4, e5, e6⟩ := ents_dq (K := K) fun p hp => ⟨kb p hp, dv p hp⟩
    exact ⟨dcD es, fun H' k => .dict (by rw [e1]; exact k _ _ n e (by intro _ z; cases z)) (e2 H' k), fits_of e3 e4 (by show PyData.depthKv _ + 1 ≤ 60; omega) (by show PyData.bulkKv _ ≤ 1000; omega)⟩
  | non => exact ⟨.none, fun _ _ => .dat .non rfl, rfl, by decide, by rw [sizeLine_eq]; decide +kernel⟩
  | five => exact ⟨.int 5, fun _ _ => .dat (.int _) rfl, by decide +kernel, by decide, by rw [sizeLine_eq]; decide +kernel⟩
  | txt => exact ⟨.str "a=1", fun _ _ => .dat (.str _) rfl, by decide +kernel, by decide, by rw [sizeLine_eq]; decide +kernel⟩
  | bl => exact ⟨.bool true, fun _ _ => .dat (.bl _) rfl, rfl, by decide, by rw [sizeLine_eq]; decide +kernel⟩
  | nil n e => exact ⟨.list [], fun _ k => .dat (.lst (SqL.of (k _ _ n e (by intro _ z; cases z))) .nil) rfl, by decide +kernel, by decide, by rw [sizeLine_eq]; decide +kernel⟩
  | prs n e pr l b =>
    obtain ⟨ds, e1, e2, e3, e4, e5, e6⟩ := prs_dp (K := K) pr b
    exact ⟨.list ds, fun H' k => .dat (.lst (SqL.of (k _ _ n e (by intro _ z; cases z))) (e1 H' k)) e6, fits_of e2 e3 (by show PyData.depthAll _ + 1 ≤ 60; omega) (by show PyData.bulkAll _ ≤ 1000; omega)⟩
  | raw n e dy l l2 nd b =>
    rename_i lo s
    obtain ⟨es, e1, e3, e4, e5, e6⟩ := raw_dq (K := K) (Z := Z) (H := H) (rows := oddRows fl _ (tblI lo s)) fun r hr => by
      rcases oddRows_mem hr with rfl | hr
      · exact ⟨dy.sh, _, ⟨rfl, by decide +kernel, Nat.zero_le _, Nat.zero_le _⟩, fun _ _ => .int _, rfl⟩
      · obtain ⟨p, hp, rfl⟩ := rowsK_mem hr
        obtain ⟨a, ha, rfl⟩ := tblI_mem hp
        obtain ⟨n1, n2, n3⟩ := b a ha
        have s1 := sh_name n1
        have s2 := sh_int (u := s a) (by omega) (by omega)
        exact ⟨⟨_, ⟨s1.sh, s1.lv, by have := s1.dp; omega, s1.bk⟩, fun _ _ => .str _, rfl⟩, _, ⟨s2.sh, s2.lv, by have := s2.dp; omega, by have := s2.bk; omega⟩, fun _ _ => .int _, rfl⟩
    rw [oddRows_len, tblI_len] at e6
    exact ⟨.dict es, fun H' k => .raw (k _ _ n e (by intro _ z; cases z)) (e1 H' k).1 (e1 H' k).2, fits_of e3 e4 (by show PyData.depthKv _ + 1 ≤ 60; omega) (by show PyData.bulkKv _ ≤ 1000; omega)⟩
theorem BR.isi {K : PySem.W.Frag} {Z : List Addr} {H : Hp} {m : Nat} {fl : Bool} {sv : V} {o : Option (List (Key × V))} (h : BR Z H m fl sv o) : ∃ bD : Bool, (bD = true → ∃ q', sv = .ref q' ∧ q' ∉ Z ∧ ((∃ kvs, o = some kvs ∧ H q' = some (.dK kvs)) ∨ ∃ rows, o = none ∧ H q' = some (RawO q' rows))) ∧ (bD = false → o = none) ∧
    ∀ Q' : VK, Q' (.bl bD) H → (rIsi K [sv, .ty "dict"] H Q' ∨ ∃ (a : Addr) (rows : List (V × V)) (_ : Option Obj), [sv, .ty "dict"] = [V.ref a, .ty "dict"] ∧ (H a = some (RawO a rows) ∨ ∃ o, H a = some (.frz o (RawO a rows))) ∧ Q' (.bl true) H) := by
  cases h with
  | dict n e nd l kb dv => exact ⟨true, fun _ => ⟨_, rfl, n, .inl ⟨_, rfl, e⟩⟩, (fun z => by cases z), fun Q' q => .inl ⟨_, _, _, _, _, rfl, .ty _, (Dat.dct (K := K) e).ty, kit_ty (r := true) (by decide +kernel), q⟩⟩
  | non => exact ⟨false, (fun z => by cases z), fun _ => rfl, fun Q' q => .inl ⟨_, _, _, _, _, rfl, .ty _, (Dat.non (K := K)).ty, kit_ty (r := false) (by decide +kernel), q⟩⟩
  | five => exact ⟨false, (fun z => by cases z), fun _ => rfl, fun Q' q => .inl ⟨_, _, _, _, _, rfl, .ty _, (Dat.int (K := K) _).ty, kit_ty (r := false) (by decide +kernel), q⟩⟩
  | txt => exact ⟨false, (fun z => by cases z), fun _ => rfl, fun Q' q => .inl ⟨_, _, _, _, _, rfl, .ty _, (Dat.str (K := K) _).ty, kit_ty (r := false) (by decide +kernel), q⟩⟩
  | bl => exact ⟨false, (fun z => by cases z), fun _ => rfl, fun Q' q => .inl ⟨_, _, _, _, _, rfl, .ty _, (Dat.bl (K := K) _).ty, kit_ty (r := false) (by decide +kernel), q⟩⟩
  | nil n e => exact ⟨false, (fun z => by cases z), fun _ => rfl, fun Q' q => .inl ⟨_, _, _, _, _, rfl, .ty _, (Dat.lst (K := K) e).ty, kit_ty (r := false) (by decide +kernel), q⟩⟩
  | prs n e pr l b => exact ⟨false, (fun z => by cases z), fun _ => rfl, fun Q' q => .inl ⟨_, _, _, _, _, rfl, .ty _, (Dat.lst (K := K) e).ty, kit_ty (r := false) (by decide +kernel), q⟩⟩
  | raw n e dy l l2 nd b => exact ⟨true, fun _ => ⟨_, rfl, n, .inr ⟨_, rfl, e⟩⟩, (fun z => by cases z), fun Q' q => .inr ⟨_, _, none, rfl, .inl e, q⟩⟩
end FT


/-! _law_bent_sizes, told down to the last sign -/
namespace FT
open PySem L2 TL ClX LiI
def spBentR : Sp := fun vs H Q _ => ∃ (d l i q qw : Addr) (b : Int) (t : List (Str × Str)) (lo : List Str) (s : Str → Int), vs = [.ref d, .ref q, .ref qw] ∧ DrawB H d l i b ∧ b + 10 ≤ 10 ^ 12 ∧ H q = some (.dK (prs t)) ∧ TreeOk t ∧ H qw = some (.dK (tblI lo s)) ∧ lo.Perm (t.map Prod.fst) ∧ (∀ a ∈ lo, 0 ≤ s a ∧ s a ≤ 60) ∧
  ∀ (sv : V) (o : Option (List (Key × V))) (H' : Hp), (∀ Z : List Addr, (∀ b ∈ Z, ∃ u, H b = some u) → BR Z H' t.length false sv o) → DrawB H' d l i (b + 10) → KeepX [d, l] H H' → Q sv H'
theorem pair_tbl {F : Addr → Str → Prop} {G : Addr → Key × V → Prop} {s : Str → Int} : ∀ {lo : List Str} {ts : List Addr}, Paired G ts (tblI lo s) → (∀ t ∈ ts, ∀ a, G t (Sum.inr a, V.int (s a)) → F t a) → Paired F ts lo
  | [], [], _, _ => .nil
  | [], _ :: _, h, _ => by cases h
  | _ :: _, [], h, _ => by cases h
  | a :: lo, t :: ts, h, m => by
    cases h with
    | cons h1 h2 => exact .cons (m t (List.mem_cons_self ..) a h1) (pair_tbl h2 fun t' ht => m t' (List.mem_cons_of_mem _ ht))
abbrev NBeR : List Str := ["_law_draw", "_law_parents", "_law_wide", "_law_bent", "_law_way", "_law_name", "_law_size"]
section
variable {P : Program} {w : World} {K : PySem.W.Frag} {mg : Str → Option Value} {base : Heap}
theorem scBeR : FnScope NBeR ["_law_draw", "_law_parents", "_law_wide"] (defScope s__law_bent_sizes) := ⟨rfl, rfl, rfl, by decide +kernel, rfl, by decide +kernel, by decide +kernel⟩
theorem ok_bentR {f fT fP : Addr} {fd fdT fdP : FuncData} (F : Fun K "_law_bent_sizes" "_law_bent_sizes" s__law_bent_sizes f fd) (T : Nm mg) (DT : Dn P w K mg base CX0 2 "_law_take" ["_law_draw", "_law_size"] spTakeB fT fdT) (DP : Dn P w K mg base CX0 3 "_law_pick" ["_law_draw", "_law_some"] spPickB fP fdP) : FnOk P w K mg base CX0 4 f fd ["_law_draw", "_law_parents", "_law_wide"] spBentR := by
  refine F.ok scBeR (fun vs H Q E h => ?_) (fun cdv A outer s H vs Q E hr h => ?_)
  · obtain ⟨d, l, i, q, qw, b, t, lo, sz, rfl, _⟩ := h
    rfl
  · obtain ⟨d, l, i, q, qw, b, t, lo, sz, rfl, hD, bb, hq, o, hw, pm, bs, k⟩ := h
    have hu := hu_of hr
    have hu3 := Nat.lt_of_le_of_lt (Nat.add_le_add_left (show 2 ≤ 64 by decide) _) hr.units
    have hr2 : Room 2 _ := hr.mono (by decide)
    have nd := scBeR.nd
    have big : 1000 ≤ sizeLine := by decide
    have few := o.few
    refine ⟨_, pss_cons (ps_par (i := 3) (j := 4) rfl nd rfl rfl (by decide) rfl rfl (pa_cons (pe_callTy call_dictD (by rfl) T.dct (by decide +kernel) (pa_cons (pv 2) pa_nil)) (pa_cons (pe_call DT.ok hr2 rfl DT.mgn DT.kp DT.bn .nil pass0 (pa_cons (pv 0) (pa_cons pe_int pa_nil))) pa_nil)) (by rfl))
      (pss_cons (ps_set (i := 5) nd rfl (.inl rfl) (pe_call DP.ok hr rfl DP.mgn DP.kp DP.bn .nil pass0 (pa_cons (pv 0) (pa_cons (pe_callB (call_sortedD rfl) (by rfl) T.srt (by decide +kernel) (pa_cons (pv 1) pa_nil)) pa_nil))))
      (pss_cons (ps_set (i := 6) nd rfl (.inl rfl) (pe_dget2 hu (pv 3) (pv 5) pe_int ⟨rfl, rfl, rfl, rfl⟩))
      (pss_cons (ps_if (PW.pt (pw_and (pt_val (pe_callB call_isi (by rfl) T.isi (by decide +kernel) (pa_cons (pv 6) (pa_cons (pe_bltn (v := .ty "int") (u := .type "int") (by rfl) T.int (by decide +kernel) rfl) pa_nil)))) (pw_and1 (pt_cmpR op_lt (pv 4) pe_int (nomark _)))))
          (pss_one (ps_dput hu (pv 3) (pv 5) (pe_call DP.ok hr rfl DP.mgn DP.kp DP.bn .nil pass0 (pa_cons (pv 0) (pa_cons (pe_lst (pa_cons (pe_op op_add (pv 6) pe_int) (pa_cons (pe_op op_sub (pv 6) pe_int) (pa_cons (pe_un un_neg pe_int) (pa_cons pe_bl (pa_cons pe_non (pa_cons pe_str (pa_cons (pe_lst (pa_cons pe_int pa_nil)) (pa_cons (pe_op op_pow pe_int pe_int) (pa_cons pe_int (pa_cons pe_int pa_nil))))))))))) pa_nil))) rfl)) pss_nil)
      (pss_cons (ps_if (pt_cmpR op_eq (pv 4) pe_int (nomark _)) (pss_one (ps_expr (pe_dpop2 (pv 3) (pv 5) pe_non ⟨rfl, rfl, rfl, rfl⟩))) pss_nil)
      (pss_cons (ps_if (pt_cmpR op_eq (pv 4) pe_int (nomark _)) (pss_one (ps_rput hu3 (pv 3) (pe_call DP.ok hr rfl DP.mgn DP.kp DP.bn .nil pass0 (pa_cons (pv 0) (pa_cons (pe_lst (pa_cons pe_str (pa_cons pe_str (pa_cons pe_int (pa_cons pe_non (pa_cons (pe_tup (pa_cons pe_str pa_nil)) pa_nil)))))) pa_nil))) pe_int rfl)) pss_nil)
      (pss_one (ps_ret (pe_ifExp (pt_cmpR op_lt (pv 4) pe_int (nomark _)) (pv 3) (pe_call DP.ok hr rfl DP.mgn DP.kp DP.bn .nil pass0 (pa_cons (pv 0) (pa_cons (pe_lst (pa_cons pe_non (pa_cons pe_int (pa_cons pe_str (pa_cons (pe_lst pa_nil) (pa_cons pe_dnewK (pa_cons (pe_listItems rfl (pv 2) (by rfl) T.lst (by decide +kernel)) (pa_cons pe_bl pa_nil)))))))) pa_nil))))))))))), ?_⟩
    refine ⟨_, rfl, qw, _, rfl, .inl hw, fun pf npf => ?_⟩
    have s1 := same_new (o := .dK (tblI lo sz)) npf
    refine ⟨_, rfl, d, l, i, b, 6, rfl, hD.mono s1, by omega, by decide, by decide, fun wy H2 w0 w6 dr2 k2 => ⟨_, _, rfl, ?_⟩⟩
    have pfd := hD.apart npf
    have qwd : qw ≠ d ∧ qw ≠ l := by
      obtain ⟨lf, tn, lg, it, a1, a2, a3, _⟩ := hD
      refine ⟨ne_of hw a1 fun z => ?_, ne_of hw a2 (by intro z; cases z)⟩
      have z := congrArg (fun kvs => (List.head? kvs).map Prod.snd) (HO.dK.inj z)
      cases lo with
      | nil => cases z
      | cons _ _ => cases z
    have qd := hD.off_prs hq
    have hq2 := kx_at k2 (s1 _ _ hq) qd.1 qd.2.1
    have hf2 := kx_at k2 (show (upd H pf (.dK (tblI lo sz))) pf = _ from upd_same) pfd.1 pfd.2.1
    refine ⟨_, rfl, _, rfl, q, prs t, t.map Prod.fst, rfl, .inl hq2, prs_keys t, by rw [List.length_map]; omega, fun ks pn pks srt npn => ?_⟩
    have s2 := same_new (o := .lst (ks.map V.str)) npn
    have pnd := dr2.apart npn
    have lks := pks.length_eq
    rw [List.length_map] at lks
    refine ⟨d, l, i, pn, _, ks.map V.str, rfl, dr2.mono s2, by omega, upd_same, pnd.2.1, (fun z => by have := List.map_eq_nil_iff.mp z; have one := o.one; rw [this, List.length_nil] at lks; omega), by rw [List.length_map]; omega, fun x H3 xm dr3 k3 => ?_⟩
    obtain ⟨a, ma, rfl⟩ := List.mem_map.mp xm
    have hf3 := kx_at k3 (s2 _ _ hf2) pfd.1 pfd.2.1
    have mlo : a ∈ lo := pm.mem_iff.mpr (pks.mem_iff.mp ma)
    refine ⟨_, rfl, pf, rfl, .inl ⟨_, .inl hf3⟩, _, rfl, some (.int (sz a)), by have z := DGet.k (k := Sum.inr a) hf3; rw [tblI_val mlo] at z; exact z, ?_⟩
    have k03 : KeepX [d, l] H H3 := ((KeepX.of_same s1).trans k2).trans ((KeepX.of_same s2).trans k3)
    have llo : lo.length = t.length := by rw [pm.length_eq, List.length_map]
    have lnd : lo.Nodup := pm.nodup_iff.mpr o.nd
    have nmlo : ∀ a ∈ lo, NameL a := fun a ha => o.nm a (pm.mem_iff.mp ha)
    have newZ : ∀ {H' : Hp} {b' : Int} {c : Addr}, KeepX [d, l] H H' → DrawB H' d l i b' → H' c = none → ∀ {Z : List Addr}, (∀ b ∈ Z, ∃ u, H b = some u) → c ∉ Z := fun {H' b' c} kx dr nc {Z} al m => by
      obtain ⟨u, hu⟩ := al c m
      obtain ⟨⟨u1, a1⟩, ⟨u2, a2⟩, _⟩ := dr.at3
      by_cases e : c ∈ [d, l]
      · simp only [List.mem_cons, List.not_mem_nil, or_false] at e
        rcases e with rfl | rfl
        · rw [nc] at a1
          cases a1
        · rw [nc] at a2
          cases a2
      · rw [kx _ _ e hu] at nc
        cases nc
    have done : ∀ (kvs : List (Key × V)) (H' : Hp), H' pf = some (.dK kvs) → (∀ Z : List Addr, (∀ b ∈ Z, ∃ u, H b = some u) → ∀ p ∈ kvs, ∃ d, DV Z H' p.2 d) → (kvs.map (·.1)).Nodup → kvs.length ≤ 13 → (∀ p ∈ kvs, KeyB p.1) → DrawB H' d l i (b + 10) → KeepX [d, l] H H' → Q (.ref pf) H' :=
      fun kvs H' h1 h2 h3 h4 h5 h6 h7 => k (.ref pf) (some kvs) H' (fun Z al => .dict (newZ (KeepX.of_same Same.refl) hD npf al) h1 h3 h4 h5 (h2 Z al)) h6 h7
    have tdat : ∀ (Z : List Addr) (H' : Hp), ∀ p ∈ tblI lo sz, ∃ d, DV Z H' p.2 d := fun Z H' p hp => by
      obtain ⟨a, ha, rfl⟩ := tblI_mem hp
      have := bs a ha
      exact ⟨_, .int (by omega) (by omega)⟩
    have tkey : ∀ p ∈ tblI lo sz, KeyB p.1 := fun p hp => by
      obtain ⟨a, ha, rfl⟩ := tblI_mem hp
      exact .inl (nmlo a ha)
    refine ⟨_, rfl, .int (sz a), _, _, _, _, rfl, .ty _, .base (.int _), kit_ty (r := true) (by decide +kernel), _, rfl, ?_⟩
    show if true = true then _ else _
    rw [if_pos rfl]
    refine ⟨_, rfl, wy, 3, rfl, rfl, _, rfl, ?_⟩
    by_cases c3 : wy < 3
    · rw [decide_eq_true c3]
      refine iteT ?_
      refine ⟨_, rfl, _, rfl, _, _, rfl, rfl, _, rfl, _, _, rfl, rfl, 1, rfl, by show 1 ≤ sizeLine; omega, fun p1 np1 => ?_⟩
      have s4 := same_new (o := .lst [.int 1]) np1
      refine ⟨_, _, rfl, rfl, ⟨by decide, by decide, by decide⟩, by show 10 ≤ sizeLine; omega, fun pl npl => ?_⟩
      obtain ⟨xs, exs⟩ : ∃ xs : List V, xs = [.int (sz a + 1), .int (sz a - 1), .int (-1), .bl true, .non, .str "1", .ref p1, .int (10 ^ (30 : Int).toNat), .int 0, .int 61] := ⟨_, rfl⟩
      have s5 : Same (upd H3 p1 (.lst [.int 1])) (upd (upd H3 p1 (.lst [.int 1])) pl (.lst xs)) := same_new npl
      obtain ⟨H5, e5⟩ : ∃ X, X = upd (upd H3 p1 (.lst [.int 1])) pl (.lst xs) := ⟨_, rfl⟩
      have s35 : Same H3 H5 := e5 ▸ s4.trans s5
      have h1 : H5 p1 = some (.lst [.int 1]) := by rw [e5]; exact s5 _ _ upd_same
      have hl5 : H5 pl = some (.lst xs) := by rw [e5]; exact upd_same
      have dr5 := dr3.mono s35
      have pld := (dr3.mono s4).apart npl
      have p1d := dr3.apart np1
      subst exs
      rw [← e5]
      refine ⟨d, l, i, pl, _, _, rfl, dr5, by omega, hl5, pld.2.1, List.cons_ne_nil _ _, (by show 10 ≤ 1000; omega), fun x H6 xm dr6 k6 => ?_⟩
      have hf6 := kx_at k6 (s35 _ _ hf3) pfd.1 pfd.2.1
      have h16 := kx_at k6 h1 p1d.1 p1d.2.1
      have mk : (Sum.inr a : Key) ∈ (tblI lo sz).map (·.1) := by rw [tblI_keys]; exact List.mem_map.mpr ⟨a, mlo, rfl⟩
      have kk := putK_keys (v := x) mk
      have kl : (putK (tblI lo sz) (Sum.inr a) x).length = lo.length := by
        have e := congrArg List.length kk
        rw [List.length_map, List.length_map, tblI_len] at e
        exact e
      refine ⟨_, rfl, _, rfl, pf, _, rfl, DPut.k (k := Sum.inr a) hf6 (by rw [tblI_len]; omega), ?_⟩
      refine ⟨_, rfl, rfl, _, rfl, ?_⟩
      rw [decide_eq_false (show ¬ V.int wy = V.int 3 from fun z => by have := V.int.inj z; omega)]
      refine iteF ?_
      refine ⟨_, rfl, rfl, _, rfl, ?_⟩
      rw [decide_eq_false (show ¬ V.int wy = V.int 4 from fun z => by have := V.int.inj z; omega)]
      refine iteF ?_
      refine ⟨_, rfl, wy, 5, rfl, rfl, _, rfl, ?_⟩
      rw [decide_eq_true (show wy < 5 by omega)]
      refine iteT ⟨_, rfl, done (putK (tblI lo sz) (Sum.inr a) x) _ upd_same (fun Z al p hp => ?_) ?_ (by omega) (fun p hp => ?_) (dr6.more (by omega) |>.off pfd.1 pfd.2.1 pfd.2.2) (fun b' u nb e => ?_)⟩
      · have h1u : (upd H6 pf (.dK (putK (tblI lo sz) (Sum.inr a) x))) p1 = some (.lst [.int 1]) := by
          rw [upd_ne (ne_of h16 hf6 (by intro z; cases z))]
          exact h16
        have xd' : ∃ d, DV Z (upd H6 pf (.dK (putK (tblI lo sz) (Sum.inr a) x))) x d := by
          have p1Z := newZ k03 dr3 np1 al
          have := bs a mlo
          simp only [List.mem_cons, List.not_mem_nil, or_false] at xm
          rcases xm with rfl | rfl | rfl | rfl | rfl | rfl | rfl | rfl | rfl | rfl
          all_goals first | exact ⟨_, .bl⟩ | exact ⟨_, .non⟩ | exact ⟨_, .one⟩ | exact ⟨_, .lst p1Z h1u⟩ | exact ⟨_, .int (by omega) (by omega)⟩ | exact ⟨_, .int (by decide) (by decide)⟩
        rcases putK_mem hp with ⟨_, e⟩ | hp
        · rw [e]
          exact xd'
        · exact tdat _ _ p hp
      · rw [kk]
        exact tblI_nd lnd
      · rcases putK_mem hp with ⟨e, _⟩ | hp
        · rw [e]
          exact .inl (nmlo a mlo)
        · exact tkey p hp
      · have z := k6 _ _ nb (s35 _ _ (k03 _ _ nb e))
        rw [upd_ne (ne_of_none e npf)]
        exact z
    rw [decide_eq_false c3]
    refine iteF ?_
    by_cases e3 : wy = 3
    · subst e3
      refine ⟨_, rfl, rfl, _, rfl, ?_⟩
      rw [decide_eq_true (rfl : V.int 3 = V.int 3)]
      refine iteT ?_
      refine ⟨_, rfl, pf, rfl, .inl ⟨_, .inl hf3⟩, _, rfl, _, Sum.inr a, hf3, rfl, fun v hv => ?_, fun hn => by rw [tblI_val mlo] at hn; cases hn⟩
      refine ⟨_, rfl, rfl, _, rfl, ?_⟩
      rw [decide_eq_false (show ¬ V.int 3 = V.int 4 from fun z => by have := V.int.inj z; omega)]
      refine iteF ?_
      refine ⟨_, rfl, 3, 5, rfl, rfl, _, rfl, ?_⟩
      rw [decide_eq_true (show (3 : Int) < 5 by omega)]
      refine iteT ⟨_, rfl, done (dropK (tblI lo sz) (Sum.inr a)) _ upd_same (fun Z al p hp => tdat _ _ p (dropK_mem hp)) (nd_dropK (tblI_nd lnd)) (Nat.le_trans (dropK_le _ _) (by rw [tblI_len]; omega)) (fun p hp => tkey p (dropK_mem hp)) (dr3.more (by omega) |>.off pfd.1 pfd.2.1 pfd.2.2) (fun b' u nb e => ?_)⟩
      rw [upd_ne (ne_of_none e npf)]
      exact k03 _ _ nb e
    refine ⟨_, rfl, rfl, _, rfl, ?_⟩
    rw [decide_eq_false (show ¬ V.int wy = V.int 3 from fun z => e3 (V.int.inj z))]
    refine iteF ?_
    refine ⟨_, rfl, rfl, _, rfl, ?_⟩
    by_cases e4 : wy = 4
    · subst e4
      rw [decide_eq_true (rfl : V.int 4 = V.int 4)]
      refine iteT ?_
      refine ⟨_, rfl, _, rfl, by show 1 ≤ sizeLine; omega, fun tp ntp => ⟨by show 5 ≤ sizeLine; omega, fun pl npl => ?_⟩⟩
      have s4 := same_new (o := .tup [.str "a"]) ntp
      have s5 : Same (upd H3 tp (.tup [.str "a"])) (upd (upd H3 tp (.tup [.str "a"])) pl (.lst [.str "other", .str "", .int 3, .non, .ref tp])) := same_new npl
      obtain ⟨H5, e5⟩ : ∃ X, X = upd (upd H3 tp (.tup [.str "a"])) pl (.lst [.str "other", .str "", .int 3, .non, .ref tp]) := ⟨_, rfl⟩
      have s35 : Same H3 H5 := e5 ▸ s4.trans s5
      have h1 : H5 tp = some (.tup [.str "a"]) := by rw [e5]; exact s5 _ _ upd_same
      have hl5 : H5 pl = some (.lst [.str "other", .str "", .int 3, .non, .ref tp]) := by rw [e5]; exact upd_same
      have pld := (dr3.mono s4).apart npl
      have tpd := dr3.apart ntp
      rw [← e5]
      refine ⟨d, l, i, pl, _, _, rfl, dr3.mono s35, by omega, hl5, pld.2.1, List.cons_ne_nil _ _, (by show 5 ≤ 1000; omega), fun y H6 ym dr6 k6 => ?_⟩
      have hf6 := kx_at k6 (s35 _ _ hf3) pfd.1 pfd.2.1
      have h16 := kx_at k6 h1 tpd.1 tpd.2.1
      have kx : ∀ (u' : HO), KeepX [d, l] H (upd H6 pf u') := fun u' b' u nb e => by
        rw [upd_ne (ne_of_none e npf)]
        exact k6 _ _ nb (s35 _ _ (k03 _ _ nb e))
      have drx : ∀ (u' : HO), DrawB (upd H6 pf u') d l i (b + 10) := fun u' => dr6.more (by omega) |>.off pfd.1 pfd.2.1 pfd.2.2
      have finK : ∀ (kk : Key), KeyB kk → Q (.ref pf) (upd H6 pf (.dK (putK (tblI lo sz) kk (.int 0)))) := fun kk kb => by
        refine done _ _ upd_same (fun Z al p hp => ?_) ?_ (Nat.le_trans (length_putK _ _ _) (by rw [tblI_len]; omega)) (fun p hp => ?_) (drx _) (kx _)
        · rcases putK_mem hp with ⟨_, e⟩ | hp
          · rw [e]
            exact ⟨_, .int (by decide) (by decide)⟩
          · exact tdat _ _ p hp
        · by_cases mk : kk ∈ (tblI lo sz).map (·.1)
          · rw [putK_keys mk]
            exact tblI_nd lnd
          · refine nd_putK _ (tblI_nd lnd) ?_
            cases e : valV (tblI lo sz) kk with
            | none => rfl
            | some v => exact absurd (valV_in e) mk
        · rcases putK_mem hp with ⟨e, _⟩ | hp
          · rw [e]
            exact kb
          · exact tkey p hp
      have finR : (∀ Z : List Addr, (∀ b ∈ Z, ∃ u, H b = some u) → DO Z (upd H6 pf (RawO pf (rowsK (tblI lo sz) ++ [(y, V.int 0)]))) y) → Q (.ref pf) (upd H6 pf (RawO pf (rowsK (tblI lo sz) ++ [(y, V.int 0)]))) := fun ry =>
        k (.ref pf) none _ (fun Z al => .raw (newZ (KeepX.of_same Same.refl) hD npf al) upd_same (ry Z al) llo (by omega) lnd (fun a ha => ⟨nmlo a ha, bs a ha⟩)) (drx _) (kx _)
      have odd : y = .non ∨ y = .ref tp → (OddK H6 y ∧ ∀ Z : List Addr, (∀ b ∈ Z, ∃ u, H b = some u) → DO Z (upd H6 pf (RawO pf (rowsK (tblI lo sz) ++ [(y, V.int 0)]))) y) := fun z => by
        rcases z with rfl | rfl
        · exact ⟨.inl rfl, fun _ _ => .non⟩
        · have h1u : (upd H6 pf (RawO pf (rowsK (tblI lo sz) ++ [(V.ref tp, V.int 0)]))) tp = some (.tup [.str "a"]) := by
            rw [upd_ne (ne_of h16 hf6 (by intro z; cases z))]
            exact h16
          exact ⟨.inr ⟨tp, [Sum.inr "a"], rfl, h16⟩, fun Z al => .tup (newZ k03 dr3 ntp al) h1u⟩
      have l15 : (tblI lo sz).length < sizeLine := by rw [tblI_len]; omega
      have four5 : decide ((4 : Int) < 5) = true := by decide
      simp only [List.mem_cons, List.not_mem_nil, or_false] at ym
      rcases ym with rfl | rfl | rfl | rfl | rfl
      · exact ⟨pf, _, rfl, .inl (DPut.k (k := Sum.inr "other") hf6 l15), _, rfl, 4, 5, rfl, rfl, _, rfl, iteT ⟨_, rfl, finK (Sum.inr "other") (.inl (by decide +kernel))⟩⟩
      · exact ⟨pf, _, rfl, .inl (DPut.k (k := Sum.inr "") hf6 l15), _, rfl, 4, 5, rfl, rfl, _, rfl, iteT ⟨_, rfl, finK (Sum.inr "") (.inr rfl)⟩⟩
      · exact ⟨pf, _, rfl, .inl (DPut.k (k := Sum.inl 3) hf6 l15), _, rfl, 4, 5, rfl, rfl, _, rfl, iteT ⟨_, rfl, finK (Sum.inl 3) rfl⟩⟩
      · obtain ⟨o1, o2⟩ := odd (.inl rfl)
        exact ⟨pf, _, rfl, .inr ⟨_, hf6, o1, l15, rfl⟩, _, rfl, 4, 5, rfl, rfl, _, rfl, iteT ⟨_, rfl, finR o2⟩⟩
      · obtain ⟨o1, o2⟩ := odd (.inr rfl)
        exact ⟨pf, _, rfl, .inr ⟨_, hf6, o1, l15, rfl⟩, _, rfl, 4, 5, rfl, rfl, _, rfl, iteT ⟨_, rfl, finR o2⟩⟩
    rw [decide_eq_false (show ¬ V.int wy = V.int 4 from fun z => e4 (V.int.inj z))]
    refine iteF ?_
    refine ⟨_, rfl, wy, 5, rfl, rfl, _, rfl, ?_⟩
    rw [decide_eq_false (show ¬ wy < 5 by omega)]
    refine iteF ?_
    have hw3 : H3 qw = some (.dK (tblI lo sz)) := k03 _ _ (by simp [qwd.1, qwd.2]) hw
    refine ⟨_, rfl, by show 0 ≤ sizeLine; omega, fun pa npa pb npb => ?_⟩
    have sa := same_new (o := .lst []) npa
    have sb : Same (upd H3 pa (.lst [])) (upd (upd H3 pa (.lst [])) pb (.dK [])) := same_new npb
    have s34 := sa.trans sb
    refine ⟨_, rfl, qw, _, rfl, s34 _ _ hw3, fun H5 p1 ts s5 np1 nts pts hp1 prd => ⟨by show 7 ≤ sizeLine; omega, fun pl npl => ?_⟩⟩
    have s35 : Same H3 H5 := Same.trans s34 (fun b o e => s5 b o e)
    have s6 : Same H5 (upd H5 pl (.lst [.non, .int 5, .str "a=1", .ref pa, .ref pb, .ref p1, .bl true])) := same_new npl
    have s36 := s35.trans s6
    have pld := (dr3.mono s35).apart npl
    have pad := dr3.apart npa
    have pbd := (dr3.mono sa).apart npb
    have p1d := (dr3.mono s34).apart np1
    refine ⟨d, l, i, pl, _, _, rfl, dr3.mono s36, by omega, upd_same, pld.2.1, List.cons_ne_nil _ _, (by show 7 ≤ 1000; omega), fun x H6 xm dr6 k6 => ?_⟩
    have kf : KeepX [d, l] H H6 := (k03.trans (KeepX.of_same s36)).trans k6
    have a6 := kx_at k6 (s6 _ _ (s5 _ _ (sb _ _ upd_same))) pad.1 pad.2.1
    have b6 := kx_at k6 (s6 _ _ (s5 _ _ upd_same)) pbd.1 pbd.2.1
    have p6 := kx_at k6 (s6 _ _ hp1) p1d.1 p1d.2.1
    have al0 : ∀ {c : Addr} {H' : Hp} {b' : Int}, KeepX [d, l] H H' → DrawB H' d l i b' → H' c = none → ∀ {Z : List Addr}, (∀ b ∈ Z, ∃ u, H b = some u) → c ∉ Z := fun {c H' b'} kx dr nc {Z} al => newZ kx dr nc al
    have oth : (∀ Z : List Addr, (∀ b ∈ Z, ∃ u, H b = some u) → BR Z H6 t.length false x none) → Q x H6 := fun dd => k x none H6 dd (dr6.more (by omega)) kf
    have k3a := k03.trans (KeepX.of_same (Ex := [d, l]) sa)
    have k34 := k03.trans (KeepX.of_same (Ex := [d, l]) s34)
    simp only [List.mem_cons, List.not_mem_nil, or_false] at xm
    rcases xm with rfl | rfl | rfl | rfl | rfl | rfl | rfl
    · exact oth fun _ _ => .non
    · exact oth fun _ _ => .five
    · exact oth fun _ _ => .txt
    · exact oth fun Z al => .nil (newZ k03 dr3 npa al) a6
    · exact k (.ref pb) (some []) H6 (fun Z al => .dict (newZ k3a (dr3.mono sa) npb al) b6 List.nodup_nil (by show 0 ≤ 13; omega) (fun p hp => by cases hp) (fun p hp => by cases hp)) (dr6.more (by omega)) kf
    · refine oth fun Z al => .prs (newZ k34 (dr3.mono s34) np1 al) p6 ?_ (lo := lo) (s := sz) (by omega) (fun a ha => ⟨nmlo a ha, bs a ha⟩)
      refine pair_tbl prd fun t' ht a e => ?_
      have nt := nts t' ht
      have td := (dr3.mono s34).apart nt
      exact ⟨newZ k34 (dr3.mono s34) nt al, kx_at k6 (s6 _ _ e) td.1 td.2.1⟩
    · exact oth fun _ _ => .bl
end
end FT


/-! Rollout.forest -/
namespace FT
open PySem L2 TL ClX LiI
def spRForest (CF CR : Addr) : Sp := fun vs H Q _ => ∃ (y z x : Addr) (Ex : List Addr) (ts : List (Str × Str)) (L : Str → List Int) (ps : List (Str → Int)), vs = [.ref y] ∧ RollAt CF CR Ex H y z x ts L ps ∧ Q (.ref x) H
section
variable {P : Program} {w : World} {K : PySem.W.Frag} {mg : Str → Option Value} {base : Heap}
theorem scRfo : FnScope ["self"] ["self"] (defScope s_Rollout_forest) := ⟨rfl, rfl, rfl, by decide +kernel, rfl, by decide +kernel, by decide +kernel⟩
theorem ok_rforest {f CF CR : Addr} {mcR : Value} {fd : FuncData} (F : Fun K "forest" "Rollout.forest" s_Rollout_forest f fd) (R : RoC K mg CR mcR) : FnOk P w K mg base CX0 1 f fd ["self"] (spRForest CF CR) := by
  refine F.ok scRfo (fun vs H Q E h => ?_) (fun cdv A outer s H vs Q E hr h => ?_)
  · obtain ⟨y, z, x, Ex, ts, L, ps, rfl, _⟩ := h
    rfl
  · obtain ⟨y, z, x, Ex, ts, L, ps, rfl, ra, k⟩ := h
    refine ⟨_, pss_one (ps_ret (pe_fld (pv 0) rfl)), ?_⟩
    obtain ⟨dy, q, dx, dq, r, rs, hy, hL, hz, hps, hx, hd, off1, off2⟩ := ra
    exact ⟨_, rfl, y, CR, dy, _, .ref x, rfl, hy, R.cl, R.nG, rfl, k⟩
end
end FT


/-! listed_places -/
namespace FT
open PySem L2 TL ClX LiI
section
variable {P : Program} {w : World} {K : PySem.W.Frag} {mg : Str → Option Value} {base : Heap}
abbrev NLp : List Str := ["lists", "places", "place", "user"]
theorem scLp : FnScope NLp ["lists"] (defScope s_listed_places) := ⟨rfl, rfl, rfl, by decide +kernel, rfl, by decide +kernel, by decide +kernel⟩
theorem ok_listedPlaces {f : Addr} {fd : FuncData} (F : Fun K "listed_places" "listed_places" s_listed_places f fd) (T : Nm mg) : FnOk P w K mg base CX0 1 f fd ["lists"] spLPlaces := by
  refine F.ok scLp (fun vs H Q E h => ?_) (fun cdv A outer s H vs Q E hr h => ?_)
  · obtain ⟨q, ts, r, L, n, rfl, _⟩ := h
    rfl
  · obtain ⟨q, ts, r, L, n, rfl, o, hL, hV, n60, k⟩ := h
    have hu := hu_of hr
    have nd := scLp.nd
    have big : 1000 ≤ sizeLine := by decide
    have few := o.few
    refine ⟨_, pss_cons (ps_set (i := 1) nd rfl (.inr rfl) (pe_lock (pe_dc2 (own := [("place", 2), ("user", 3)]) (vs1 := [3]) (g := gName 2) (tt := tYes) (wi1 := iList K (tDGet (tVar 0) (tVar 2))) (g1 := gName 3) (tt1 := tYes) (tk := tVar 3) (tv := tVar 2) rfl nd hu (pi_keys (pv 0)) (blkOk_by (N := NLp) (sc := defScope s_listed_places) (by decide +kernel)) (by decide)
        (fun _ _ _ _ _ => pg_name (i := 2) nd rfl (Or.inl rfl)) (fun _ _ _ _ _ => pts_nil) (fun _ _ _ _ _ => pi_list (pe_dget hu (pv 0) (pv 2) (fun _ _ => rfl))) (fun _ _ _ _ _ => pg_name (i := 3) nd rfl (Or.inl rfl)) (fun _ _ _ _ _ => pts_nil) (fun _ _ _ _ _ => pv 3) (fun _ _ _ _ _ => pv 2))))
      (pss_one (ps_ret (pe_lc (own := [("user", 3)]) (g := gName 3) (tt := tYes) (te := tDGet (tVar 1) (tVar 3)) rfl nd (pi_list (pe_callB (call_sortedDI rfl) (by rfl) T.srt (by decide +kernel) (pa_cons (pv 1) pa_nil)))
        (blkOk_by (N := NLp) (sc := defScope s_listed_places) (by decide +kernel)) (fun _ _ _ _ _ => pg_name (i := 3) nd rfl (Or.inl rfl)) (fun _ _ _ _ _ => pts_nil) (fun _ _ _ _ _ => pe_dget hu (pv 1) (pv 3) (fun _ _ => rfl))))), ?_⟩
    have ndX : ((pls ts).flatMap L).Nodup := hV.nodup_iff.mpr (usr_nd n)
    have lX : ((pls ts).flatMap L).length = n := by
      have e := hV.length_eq
      unfold usr at e
      rw [List.length_map, List.length_range] at e
      exact e
    have pnd := pls_nd o
    refine ⟨q, _, hL.1, trivial, fun od => ⟨_, rfl, q, od, rfl, .inl ⟨_, upd_same, fun D nD => ?_⟩⟩⟩
    have Dq : D ≠ q := (ne_of_none upd_same nD).symm
    obtain ⟨H0, e0⟩ : ∃ X, X = upd H q (.frz od (.dK (tblV (pls ts) fun p => .ref (r p)))) := ⟨_, rfl⟩
    have hq0 : H0 q = some (.frz od (.dK (tblV (pls ts) fun p => .ref (r p)))) := by rw [e0]; exact upd_same
    have hl0 : ∀ p ∈ pls ts, H0 (r p) = some (.lst ((L p).map V.int)) := fun p hp => by
      have z := hL.2 p hp
      rw [e0, upd_ne (ne_of z hL.1 (by intro z; cases z))]
      exact z
    rw [← e0] at nD ⊢
    refine dcG_it walk_keys (fun i H' => Same H0 H' ∧ H' D = some (.dK (kvU ts L (((pls ts).take i).flatMap L)))) ⟨same_new nD, upd_same⟩ (fun i H' _ z => z.1 _ _ hq0) ?_ ?_
    · intro i y Ha Hb hi ⟨q1, q2⟩ ⟨eb, kk, vv, hk, ey⟩
      subst eb
      subst ey
      obtain ⟨p, hp, rfl, rfl⟩ := tblV_at hk
      rw [show kV (Sum.inr p) = V.str p from rfl]
      have mp := List.mem_of_getElem? hp
      have pp := mem_pls.mp mp
      have lp := q1 _ _ (hl0 p mp)
      refine ⟨rfl, ?_⟩
      refine ⟨_, rfl, _, rfl, q, .ref (r p), rfl, .inl ⟨_, Sum.inr p, .inr ⟨od, q1 _ _ hq0⟩, rfl, (tblV_val (g := fun p => V.ref (r p)) mp).symm⟩, r p, rfl, ⟨_, SqL.of lp⟩, ?_⟩
      have more : ((pls ts).take (i + 1)).flatMap L = ((pls ts).take i).flatMap L ++ L p := by
        rw [take_more hp, List.flatMap_append]
        show _ ++ (L p ++ []) = _
        rw [List.append_nil]
      have split : (pls ts).flatMap L = (((pls ts).take i).flatMap L ++ L p) ++ ((pls ts).drop (i + 1)).flatMap L := by
        rw [← more, ← List.flatMap_append, List.take_append_drop]
      -- the inner source
      refine ⟨fun j m H' => m = (L p).length - j ∧ j ≤ (L p).length ∧ Same H0 H' ∧ H' D = some (.dK (kvU ts L (((pls ts).take i).flatMap L ++ (L p).take j))), ⟨(L p).length, by simp, Nat.zero_le _, q1, by rw [List.take_zero, List.append_nil]; exact q2⟩, fun j m H' ⟨em, hj, z1, z2⟩ => ?_⟩
      have lp' := z1 _ _ (hl0 p mp)
      have wl := walk_list (K := K) (a := r p) (xs := (L p).map V.int)
      rcases Nat.lt_or_ge j (L p).length with lt | ge
      · refine .inr ⟨wl.goes j H' (by rw [List.length_map]; exact lt) (SqL.of lp'), fun H' => Same H0 H' ∧ H' D = some (.dK (kvU ts L (((pls ts).take i).flatMap L ++ (L p).take (j + 1)))), fun H' z => ⟨(L p).length - (j + 1), by omega, rfl, lt, z.1, z.2⟩, fun y2 H'' yy => ?_⟩
        obtain ⟨eb2, ex2⟩ := wl.yields j H' y2 H'' (by rw [List.length_map]; exact lt) (SqL.of lp') yy
        subst eb2
        obtain ⟨u, hu', rfl⟩ := map_of ex2
        have mu := List.mem_of_getElem? hu'
        refine ⟨rfl, ?_⟩
        refine ⟨_, rfl, _, rfl, _, Sum.inl u, rfl, z2, ?_, Same.put z1 nD, ?_⟩
        · unfold kvU
          rw [List.length_map]
          have := congrArg List.length split
          rw [lX, List.length_append, List.length_append] at this
          rw [List.length_append, List.length_take]
          omega
        · rw [upd_same, kvU_put ?_ (plOf_of hV pp mu).symm, take_more hu', List.append_assoc]
          intro hm
          have nd2 := ndX
          rw [split] at nd2
          have nd3 := (List.nodup_append.mp nd2).1
          rcases List.mem_append.mp hm with hm | hm
          · exact (List.nodup_append.mp nd3).2.2 u hm u mu rfl
          · exact nat_fresh2 (List.nodup_append.mp nd3).2.1 hu' hm
      · have ej : j = (L p).length := by omega
        subst ej
        rw [List.take_length, ← more] at z2
        refine .inl ⟨?_, z1, z2⟩
        have := wl.stops H' (SqL.of lp')
        rw [List.length_map] at this
        exact this
    intro H1 ⟨s1, hD⟩
    rw [tblV_len, List.take_length] at hD
    refine ⟨s1 _ _ hq0, ?_⟩
    have sH : Same H (upd H1 q (.dK (tblV (pls ts) fun p => .ref (r p)))) := unlock_same hL.1 (by rw [← e0]; exact s1)
    have nD0 : H D = none := by rw [e0, upd_ne Dq] at nD; exact nD
    obtain ⟨H2, e2⟩ : ∃ X, X = upd H1 q (.dK (tblV (pls ts) fun p => .ref (r p))) := ⟨_, rfl⟩
    have hD2 : H2 D = some (.dK (kvU ts L ((pls ts).flatMap L))) := by rw [e2, upd_ne Dq]; exact hD
    rw [← e2] at sH ⊢
    refine ⟨_, rfl, D, _, (pls ts).flatMap L, rfl, .inl hD2, kvU_keys ts L _, by omega, fun ys p pm srt np => ⟨p, rfl, ⟨_, SqL.of upd_same⟩, fun R nR => ?_⟩⟩
    have eys := sorted_usr (pm.trans hV) srt
    subst eys
    obtain ⟨H3, e3⟩ : ∃ X, X = upd H2 p (.lst ((usr n).map V.int)) := ⟨_, rfl⟩
    have s23 : Same H2 H3 := e3 ▸ same_new np
    have hp3 : H3 p = some (.lst ((usr n).map V.int)) := by rw [e3]; exact upd_same
    rw [← e3] at nR ⊢
    have ul : (usr n).length = n := by
      unfold usr
      rw [List.length_map, List.length_range]
    refine lc_it walk_list (fun i H' => Same H3 H' ∧ H' R = some (.lst ((((usr n).take i).map (plOf ts L)).map V.str))) ⟨same_new nR, upd_same⟩ (fun i H' _ z => SqL.of (z.1 _ _ hp3)) ?_ ?_
    · intro i y Ha Hb hi ⟨z1, z2⟩ ⟨eb, ex⟩
      subst eb
      obtain ⟨u, hu', rfl⟩ := map_of ex
      have mu := List.mem_of_getElem? hu'
      refine ⟨rfl, ?_⟩
      refine ⟨_, rfl, _, rfl, D, .str (plOf ts L u), rfl, ?_, _, z2, ?_, Same.put z1 nR, ?_⟩
      · have z := DGet.k (k := Sum.inl u) (z1 _ _ (s23 _ _ hD2))
        rw [kvU_val (hV.mem_iff.mpr mu)] at z
        exact z
      · rw [List.length_map, List.length_map, List.length_take]
        omega
      · rw [upd_same, take_more hu', List.map_append, List.map_append] <;> rfl
    · intro H4 ⟨z1, z2⟩
      rw [List.length_map, List.take_length] at z2
      exact k R H4 ((sH.trans s23).trans z1) ((sH.trans s23).free nR) z2
end
end FT


/-! Rollout's assignment -/
namespace FT
open PySem L2 TL ClX LiI
section
variable {P : Program} {w : World} {K : PySem.W.Frag} {mg : Str → Option Value} {base : Heap}
theorem scRa : FnScope ["self"] ["self"] (defScope s_Rollout_assignment) := ⟨rfl, rfl, rfl, by decide +kernel, rfl, by decide +kernel, by decide +kernel⟩
theorem ok_rasg {f fS fI CF CR CA : Addr} {mcA mcR : Value} {fd fdS fdI : FuncData} (F : Fun K "assignment" "Rollout.assignment" s_Rollout_assignment f fd) (R : RoC K mg CR mcR) (B : Ac K mg CA mcA) (DS : Dn P w K mg base CX0 1 "listed_places" ["lists"] spLPlaces fS fdS)
    (M : Mk K CA fI) (FI : FnOk P w K mg base CX0 1 fI fdI ["self", "forest", "places"] (spAInit CF CA)) (bI : Binds K fdI ["self", "forest", "places"] []) : FnOk P w K mg base CX0 3 f fd ["self"] (spRAsg CF CR CA) := by
  refine F.ok scRa (fun vs H Q E h => ?_) (fun cdv A outer s H vs Q E hr h => ?_)
  · obtain ⟨y, z, x, Ex, ts, L, ps, n, rfl, _⟩ := h
    rfl
  · obtain ⟨y, z, x, Ex, ts, L, ps, n, rfl, ra, o, hV, n1, n60, k⟩ := h
    refine ⟨_, pss_one (ps_ret (pe_make M FI hr (by rfl) B.gA bI .nil pass0 (pa_cons (pe_fld (pv 0) rfl) (pa_cons (pe_call DS.ok (hr.mono (by decide)) rfl DS.mgn DS.kp DS.bn .nil pass0 (pa_cons (pe_fld (pv 0) rfl) pa_nil)) pa_nil)))), ?_⟩
    have fa := ra.fa
    obtain ⟨dy, q, dx, dq, r, rs, hy, hL, hz, hps, hx, hd, off1, off2⟩ := ra
    refine ⟨_, rfl, y, CR, dy, _, .ref x, rfl, hy, R.cl, R.nG, rfl, _, rfl, y, CR, dy, _, .ref q, rfl, hy, R.cl, R.nK, rfl, q, ts, r, L, n, rfl, o, hL, hV, n60, fun p H1 s1 np hp => ?_⟩
    refine fun a da na nda daa => ?_
    have sN : Same H1 (upd (upd H1 da (.own a)) a (.ins CA da [])) := fun b u e => by
      rw [upd_ne (ne_of_none e na), upd_ne (ne_of_none e nda)]
      exact e
    have ll : ((usr n).map (plOf ts L)).length = n := by rw [List.length_map, usr_len]
    refine ⟨a, x, p, da, ts, (usr n).map (plOf ts L), rfl, upd_same, (fa.mono s1).mono sN, o, sN _ _ hp, by omega, by omega, fun z hz => ?_, fun H2 aa oth => ⟨rfl, k a H2 (fun b u e => oth b u (ne_of_none (s1 _ _ e) na) (sN _ _ (s1 _ _ e))) (s1.free na) aa⟩⟩
    obtain ⟨u, hu, rfl⟩ := List.mem_map.mp hz
    obtain ⟨u0, u1⟩ := mem_usr.mp hu
    exact (plOf_at hV u0 u1).1
end
end FT


namespace FT
open PySem L2 TL ClX LiI
section
variable {P : Program} {w : World} {K : PySem.W.Frag} {mg : Str → Option Value} {base : Heap}
theorem scRdep : FnScope ["self"] ["self"] (defScope s_Rollout_depth) := ⟨rfl, rfl, rfl, by decide +kernel, rfl, by decide +kernel, by decide +kernel⟩
theorem ok_rdepth {f CF CR : Addr} {mcR : Value} {fd : FuncData} (F : Fun K "depth" "Rollout.depth" s_Rollout_depth f fd) (T : Nm mg) (R : RoC K mg CR mcR) : FnOk P w K mg base CX0 1 f fd ["self"] (spRDepth CF CR) := by
  refine F.ok scRdep (fun vs H Q E h => ?_) (fun cdv A outer s H vs Q E hr h => ?_)
  · obtain ⟨y, z, x, Ex, ts, L, ps, rfl, _⟩ := h
    rfl
  · obtain ⟨y, z, x, Ex, ts, L, ps, rfl, ra, k⟩ := h
    refine ⟨_, pss_one (ps_ret (pe_callB call_len_seq (by rfl) T.len PySem.boot_len (pa_cons (pe_fld (pv 0) rfl) pa_nil))), ?_⟩
    obtain ⟨dy, q, dx, dq, r, rs, hy, hL, hz, hps, hx, hd, off1, off2⟩ := ra
    refine ⟨_, rfl, y, CR, dy, _, .ref z, rfl, hy, R.cl, R.nS, rfl, z, _, rfl, .inl (SqL.of hz), ?_⟩
    rw [List.length_map, hps.len]
    exact k
end
end FT


/-! d.update(o) of a dict -/
namespace UpD
open PySem PySem.Spec PyProof.Rows L2
def rUpd : V → List V → Hp → VK → Prop := fun x vs H Q => ∃ (d o : Addr) (kd ko : List (Key × V)), x = .ref d ∧ vs = [.ref o] ∧ H d = some (.dK kd) ∧ Rd H o (.dK ko) ∧ d ≠ o ∧ kd.length + ko.length ≤ sizeLine ∧ Q .non (upd H d (.dK (mergeK kd ko)))
theorem mtd_update {X : Cx} : MtR X "dict.update" rUpd := by
  intro pins s σ H x vs v us Q I rx rv h
  obtain ⟨d, o, kd, ko, rfl, rfl, hd, ho, ne, fit, q⟩ := h
  cases rx
  rw [Vals.ref1 rv]
  obtain ⟨zd, sd, xs, rel, dd⟩ := dk_of I.hok hd
  obtain ⟨zo, so, ys, relo, doo⟩ := dk_rd I.hok ho
  have l1 := rel.length
  have l2 := relo.length
  have lm := length_mergeK ko kd
  refine call_meetsIn PySem.F.slot_dict_update dd.typeIs PySem.F.entry_dict_update (PySem.F.args_dict_update_2 _ _) (meets_dict_update (mixKind X.prog X.w) d o ne so) ⟨xs, ys, dd, doo, by omega, fun h' dd' _ same => ?_⟩
  have there : ∃ q, h'.get? d = some q := let ⟨q, _, _, hq, _⟩ := dd'; ⟨q, hq⟩
  exact ⟨.non, _, d_write (t' := s.toks) I (by rw [hd]; exact True.intro) same there (dk_new (by omega) sd (KV.merge relo rel) dd'), rfl, q⟩
end UpD


/-! paired lists -/
namespace FT
open PySem L2 TL ClX LiI
theorem pair_impW {α β : Type} {F G : α → β → Prop} (m : ∀ x y, F x y → G x y) : ∀ {xs : List α} {ys : List β}, Paired F xs ys → Paired G xs ys
  | _, _, .nil => .nil
  | _, _, .cons h t => .cons (m _ _ h) (pair_impW m t)
theorem pair_appW {α β : Type} {F : α → β → Prop} : ∀ {xs xs' : List α} {ys ys' : List β}, Paired F xs ys → Paired F xs' ys' → Paired F (xs ++ xs') (ys ++ ys')
  | _, _, _, _, .nil, q => q
  | _, _, _, _, .cons h t, q => .cons h (pair_appW t q)
end FT


/-! _law_places: the places of all users, out of lists -/
namespace FT
open PySem L2 TL ClX LiI
theorem unlock_kp {H He : Hp} {q D : Addr} {o o1 : HO} {od : Obj} (hq : H q = some o) (nD : H D = none) (kp : Kp D (upd (upd H D o1) q (.frz od o)) He) : Same H (upd He q o) := fun b u e => by
  have bD := ne_of_none e nD
  by_cases hb : b = q
  · rw [hb] at e ⊢
    rw [hq] at e
    rw [upd_same]
    exact e
  · rw [upd_ne hb]
    exact kp b u bD (by rw [upd_ne hb, upd_ne bD]; exact e)
theorem merge_u {ts : List (Str × Str)} {L : Str → List Int} : ∀ (us X : List Int), (X ++ us).Nodup → mergeK (kvU ts L X) (kvU ts L us) = kvU ts L (X ++ us)
  | [], X, _ => by rw [List.append_nil] <;> rfl
  | u :: us, X, nd => by
    have fresh : u ∉ X := fun m => (List.nodup_append.mp nd).2.2 u m u List.mem_cons_self rfl
    have e : X ++ u :: us = (X ++ [u]) ++ us := by rw [List.append_assoc] <;> rfl
    rw [e] at nd ⊢
    rw [← merge_u us (X ++ [u]) nd, ← kvU_put fresh rfl] <;> rfl
/-- pairs of users and their places -/
abbrev PrU (ts : List (Str × Str)) (L : Str → List Int) (H : Hp) (rs : List Addr) (us : List Int) : Prop := Paired (fun (r : Addr) (u : Int) => H r = some (.tup [.int u, .str (plOf ts L u)])) rs us
theorem PrU.len {ts : List (Str × Str)} {L : Str → List Int} {H : Hp} : ∀ {rs : List Addr} {us : List Int}, PrU ts L H rs us → rs.length = us.length
  | _, _, .nil => rfl
  | _, _, .cons _ t => congrArg (· + 1) (PrU.len t)
theorem PrU.kvs {K : PySem.W.Frag} {ts : List (Str × Str)} {L : Str → List Int} {H : Hp} : ∀ {rs : List Addr} {us : List Int}, PrU ts L H rs us → Paired (fun (p : Addr) (kv : Key × V) => SqT K H p [kV kv.1, kv.2]) rs (kvU ts L us)
  | _, _, .nil => .nil
  | _, _, .cons h t => .cons (.inl (.inl h)) (PrU.kvs t)
section
variable {P : Program} {w : World} {K : PySem.W.Frag} {mg : Str → Option Value} {base : Heap}
abbrev NPlc : List Str := ["_law_shelf", "_law_places_here", "_law_place", "_law_user"]
theorem scPlc : FnScope NPlc ["_law_shelf"] (defScope s__law_places) := ⟨rfl, rfl, rfl, by decide +kernel, rfl, by decide +kernel, by decide +kernel⟩
theorem ok_placesL {f : Addr} {fd : FuncData} (F : Fun K "_law_places" "_law_places" s__law_places f fd) (T : Nm mg) : FnOk P w K mg base CX0 1 f fd ["_law_shelf"] spLPlaces := by
  refine F.ok scPlc (fun vs H Q E h => ?_) (fun cdv A outer s H vs Q E hr h => ?_)
  · obtain ⟨q, ts, r, L, n, rfl, _⟩ := h
    rfl
  · obtain ⟨q, ts, r, L, n, rfl, o, hL, hV, n60, k⟩ := h
    have hu := hu_of hr
    have nd := scPlc.nd
    have big : 1000 ≤ sizeLine := by decide
    have few := o.few
    refine ⟨_, pss_cons (ps_set (i := 1) nd rfl (.inr rfl) pe_dnewK)
      (pss_cons (ps_lock (ps_for PassesOwn.never rfl (pi_keys (pv 0)) (pg_name (i := 2) nd rfl (.inr rfl))
        (pss_one (ps_expr (pe_bm PySem.F.plainAttrs_dict PySem.F.slot_dict_update PySem.F.type_dict_update UpD.mtd_update (pv 1) (pa_cons (pe_callTy (call_dictP rfl) (by rfl) T.dct (by decide +kernel) (pa_cons (pe_lc (own := [("_law_user", 3)]) (g := gName 3) (tt := tYes) (te := tTup (tCons (tVar 3) (tCons (tVar 2) tNil))) rfl nd (pi_list (pe_dget hu (pv 0) (pv 2) (fun _ _ => rfl))) (blkOk_by (N := NPlc) (sc := defScope s__law_places) (by decide +kernel))
          (fun _ _ _ _ _ => pg_name (i := 3) nd rfl (Or.inl rfl)) (fun _ _ _ _ _ => pts_nil) (fun _ _ _ _ _ => pe_tup (pa_cons (pv 3) (pa_cons (pv 2) pa_nil)))) pa_nil)) pa_nil))))))
      (pss_one (ps_ret (pe_lc (own := [("_law_user", 3)]) (g := gName 3) (tt := tYes) (te := tDGet (tVar 1) (tVar 3)) rfl nd (pi_list (pe_callB (call_sortedDI rfl) (by rfl) T.srt (by decide +kernel) (pa_cons (pv 1) pa_nil)))
        (blkOk_by (N := NPlc) (sc := defScope s__law_places) (by decide +kernel)) (fun _ _ _ _ _ => pg_name (i := 3) nd rfl (Or.inl rfl)) (fun _ _ _ _ _ => pts_nil) (fun _ _ _ _ _ => pe_dget hu (pv 1) (pv 3) (fun _ _ => rfl)))))), ?_⟩
    have ndX : ((pls ts).flatMap L).Nodup := hV.nodup_iff.mpr (usr_nd n)
    have lX : ((pls ts).flatMap L).length = n := by
      have e := hV.length_eq
      unfold usr at e
      rw [List.length_map, List.length_range] at e
      exact e
    have pnd := pls_nd o
    refine fun D nD => ?_
    have Dq : D ≠ q := (ne_of_none hL.1 nD).symm
    have sD := same_new (o := .dK []) nD
    refine ⟨q, _, sD _ _ hL.1, trivial, fun od => ⟨_, rfl, q, od, rfl, .inl ⟨_, upd_same, ?_⟩⟩⟩
    obtain ⟨H0, e0⟩ : ∃ X, X = upd (upd H D (.dK [])) q (.frz od (.dK (tblV (pls ts) fun p => .ref (r p)))) := ⟨_, rfl⟩
    have hq0 : H0 q = some (.frz od (.dK (tblV (pls ts) fun p => .ref (r p)))) := by rw [e0]; exact upd_same
    have hD0 : H0 D = some (.dK []) := by rw [e0, upd_ne Dq]; exact upd_same
    have hl0 : ∀ p ∈ pls ts, H0 (r p) = some (.lst ((L p).map V.int)) ∧ r p ≠ D := fun p hp => by
      have z := hL.2 p hp
      have zD := ne_of_none z nD
      rw [e0, upd_ne (ne_of z hL.1 (by intro z; cases z)), upd_ne zD]
      exact ⟨z, zD⟩
    rw [← e0]
    refine for_it walk_keys (fun i σ' H' => (∃ u2, σ' = [some (.ref q), some (.ref D), u2, none]) ∧ Kp D H0 H' ∧ H' D = some (.dK (kvU ts L (((pls ts).take i).flatMap L)))) ⟨⟨_, rfl⟩, Kp.of_same Same.refl, hD0⟩ (fun i σ' H' _ z => z.2.1 _ _ Dq.symm hq0) ?_ ?_
    · intro i y σ' Ha Hb hi ⟨⟨u2, e⟩, kp, hD⟩ ⟨eb, kk, vv, hk, ey⟩
      subst e
      subst eb
      subst ey
      obtain ⟨p, hp, rfl, rfl⟩ := tblV_at hk
      rw [show kV (Sum.inr p) = V.str p from rfl]
      have mp := List.mem_of_getElem? hp
      have pp := mem_pls.mp mp
      obtain ⟨lp0, rpD⟩ := hl0 p mp
      have lp := kp _ _ rpD lp0
      have more : ((pls ts).take (i + 1)).flatMap L = ((pls ts).take i).flatMap L ++ L p := by
        rw [take_more hp, List.flatMap_append]
        show _ ++ (L p ++ []) = _
        rw [List.append_nil]
      have split : (pls ts).flatMap L = (((pls ts).take i).flatMap L ++ L p) ++ ((pls ts).drop (i + 1)).flatMap L := by
        rw [← more, ← List.flatMap_append, List.take_append_drop]
      have nd3 : (((pls ts).take i).flatMap L ++ L p).Nodup := by
        rw [split] at ndX
        exact (List.nodup_append.mp ndX).1
      have len3 : (((pls ts).take i).flatMap L).length + (L p).length ≤ n := by
        have := congrArg List.length split
        rw [lX, List.length_append, List.length_append] at this
        omega
      refine ⟨_, rfl, .inr (.inr (.inl ⟨rfl, .inl ⟨_, hD⟩⟩)), ?_⟩
      refine ⟨_, rfl, _, rfl, q, .ref (r p), rfl, .inl ⟨_, Sum.inr p, .inr ⟨od, kp _ _ Dq.symm hq0⟩, rfl, (tblV_val (g := fun p => V.ref (r p)) mp).symm⟩, r p, rfl, ⟨_, SqL.of lp⟩, fun D2 nD2 => ?_⟩
      refine lc_it walk_list (fun j H' => Same Hb H' ∧ ∃ rs : List Addr, H' D2 = some (.lst (rs.map V.ref)) ∧ PrU ts L H' rs ((L p).take j)) ⟨same_new nD2, [], upd_same, .nil⟩ (fun j H' _ z => SqL.of (z.1 _ _ lp)) ?_ ?_
      · intro j y Hy Hz hj ⟨q1, rs, hD2, pr⟩ ⟨eb, ex⟩
        subst eb
        obtain ⟨u, hu', rfl⟩ := map_of ex
        have mu := List.mem_of_getElem? hu'
        have lr := pr.len
        rw [List.length_take] at lr
        refine ⟨rfl, ?_⟩
        refine ⟨_, rfl, _, rfl, by show 2 ≤ sizeLine; omega, fun tq ntq => ?_⟩
        have sq : Same Hz (upd Hz tq (.tup [.int u, .str p])) := same_new ntq
        refine ⟨_, sq _ _ hD2, by rw [List.length_map]; omega, (q1.trans sq).put nD2, rs ++ [tq], by rw [upd_same, List.map_append] <;> rfl, ?_⟩
        rw [take_more hu']
        have pr2 : PrU ts L (upd Hz tq (.tup [.int u, .str p])) (rs ++ [tq]) ((L p).take j ++ [u]) := pair_appW (pair_impW (fun r u e => sq _ _ e) pr) (.cons (by rw [upd_same, plOf_of hV pp mu]) .nil)
        exact pair_impW (fun r u e => by
          rw [upd_ne (ne_of e (sq _ _ hD2) (by intro z; cases z))]
          exact e) pr2
      intro H2 ⟨q1, rs, hD2, pr⟩
      rw [List.length_map, List.take_length] at pr
      refine ⟨D2, rs, kvU ts L (L p), rfl, SqL.of hD2, pr.kvs, fun pd npd => ?_⟩
      have e1 : mergeK [] (kvU ts L (L p)) = kvU ts L (L p) := merge_u (L p) [] (List.nodup_append.mp nd3).2.1
      rw [e1]
      have s3 := same_new (o := .dK (kvU ts L (L p))) npd
      have hDz := s3 _ _ (q1 _ _ hD)
      have Dpd : D ≠ pd := ne_of_none (q1 _ _ hD) npd
      refine ⟨D, pd, _, _, rfl, rfl, hDz, .inl upd_same, Dpd, ?_, ?_⟩
      · unfold kvU
        rw [List.length_map, List.length_map]
        omega
      · rw [merge_u _ _ nd3, ← more]
        exact ⟨⟨_, rfl⟩, (kp.trans (Kp.of_same (q1.trans s3))).put, upd_same⟩
    · intro σ' H1 ⟨⟨u2, e⟩, kp, hD⟩
      subst e
      rw [tblV_len, List.take_length] at hD
      refine ⟨kp _ _ Dq.symm hq0, ?_⟩
      have sH : Same H (upd H1 q (.dK (tblV (pls ts) fun p => .ref (r p)))) := unlock_kp hL.1 nD (by rw [← e0]; exact kp)
      obtain ⟨H2, e2⟩ : ∃ X, X = upd H1 q (.dK (tblV (pls ts) fun p => .ref (r p))) := ⟨_, rfl⟩
      have hD2 : H2 D = some (.dK (kvU ts L ((pls ts).flatMap L))) := by rw [e2, upd_ne Dq]; exact hD
      rw [← e2] at sH ⊢
      refine ⟨_, rfl, D, _, (pls ts).flatMap L, rfl, .inl hD2, kvU_keys ts L _, by omega, fun ys p pm srt np => ⟨p, rfl, ⟨_, SqL.of upd_same⟩, fun R nR => ?_⟩⟩
      have eys := sorted_usr (pm.trans hV) srt
      subst eys
      obtain ⟨H3, e3⟩ : ∃ X, X = upd H2 p (.lst ((usr n).map V.int)) := ⟨_, rfl⟩
      have s23 : Same H2 H3 := e3 ▸ same_new np
      have hp3 : H3 p = some (.lst ((usr n).map V.int)) := by rw [e3]; exact upd_same
      rw [← e3] at nR ⊢
      have ul : (usr n).length = n := by
        unfold usr
        rw [List.length_map, List.length_range]
      refine lc_it walk_list (fun i H' => Same H3 H' ∧ H' R = some (.lst ((((usr n).take i).map (plOf ts L)).map V.str))) ⟨same_new nR, upd_same⟩ (fun i H' _ z => SqL.of (z.1 _ _ hp3)) ?_ ?_
      · intro i y Ha Hb hi ⟨z1, z2⟩ ⟨eb, ex⟩
        subst eb
        obtain ⟨u, hu', rfl⟩ := map_of ex
        have mu := List.mem_of_getElem? hu'
        refine ⟨rfl, ?_⟩
        refine ⟨_, rfl, _, rfl, D, .str (plOf ts L u), rfl, ?_, _, z2, ?_, Same.put z1 nR, ?_⟩
        · have z := DGet.k (k := Sum.inl u) (z1 _ _ (s23 _ _ hD2))
          rw [kvU_val (hV.mem_iff.mpr mu)] at z
          exact z
        · rw [List.length_map, List.length_map, List.length_take]
          omega
        · rw [upd_same, take_more hu', List.map_append, List.map_append] <;> rfl
      · intro H4 ⟨z1, z2⟩
        rw [List.length_map, List.take_length] at z2
        exact k R H4 ((sH.trans s23).trans z1) ((sH.trans s23).free nR) z2
end
end FT


/-! users move along edges, the order of the lists left open (plain maths) -/
namespace FT
open PySem L2 TL ClX
def MovedP (ts : List (Str × Str)) (c : Str → Int) (L L' : Str → List Int) : Prop := ∃ G : Str → Str → List Int, (∀ p, Pl ts p → ∀ o ∈ adj ts p, (G p o).length = lv ts c p o) ∧ ∀ p, Pl ts p → (L p ++ ins ts G p).Perm (L' p ++ outs ts G p)
theorem Moved.p {ts : List (Str × Str)} {c : Str → Int} {L L' : Str → List Int} (m : Moved ts c L L') : MovedP ts c L L' := by
  obtain ⟨G, g1, g2⟩ := m
  exact ⟨G, g1, fun p hp => by rw [g2 p hp]⟩
end FT


/-! users moved edge by edge (plain maths) -/
namespace FT
open PySem L2 TL ClX LiI
/-- the last ones, the rest -/
def lastN (a : Int) (l : List Int) : List Int := l.drop (l.length - a.toNat)
def butN (a : Int) (l : List Int) : List Int := l.take (l.length - a.toNat)
def mvE (L : Str → List Int) (e : Str × Str × Int) : Str → List Int := fun p => if p = e.1 then butN e.2.2 (L e.1) else if p = e.2.1 then L e.2.1 ++ lastN e.2.2 (L e.1) else L p
def mvP (es : List (Str × Str × Int)) (L : Str → List Int) (p : Str) : Str → List Int := (es.filter fun e => decide (e.1 = p)).foldl mvE L
def mvA (es : List (Str × Str × Int)) (L : Str → List Int) (ds : List Str) : Str → List Int := ds.foldl (mvP es) L
structure Adv (φ : List Int → Int) : Prop where
  nil : φ [] = 0
  app : ∀ a b, φ (a ++ b) = φ a + φ b
def Bal (ts : List (Str × Str)) (L0 L : Str → List Int) (G : Str → Str → List Int) : Prop := ∀ p, Pl ts p → ∀ φ, Adv φ → φ (L0 p) + ((adj ts p).map fun x => φ (G x p)).sum = φ (L p) + ((adj ts p).map fun x => φ (G p x)).sum
/-- after some places: groups out of them are whole, out of others none -/
structure Gone (ts : List (Str × Str)) (c : Str → Int) (L0 L : Str → List Int) (D : List Str) : Prop where
  ex : ∃ G : Str → Str → List Int, Bal ts L0 L G ∧ (∀ p x, p ∉ D → G p x = []) ∧ ∀ p ∈ D, ∀ x ∈ adj ts p, (G p x).length = lv ts c p x
end FT


/-! Assignment: forest, total, sizes, users_of, at -/
namespace FT
open PySem L2 TL ClX LiI
/-- the numbers below n with a mark -/
def selU (n : Nat) (c : Nat → Bool) : List Int := ((List.range n).filter c).map fun i : Nat => (i : Int)
theorem selU_zero (c : Nat → Bool) : selU 0 c = [] := rfl
theorem selU_more (n : Nat) (c : Nat → Bool) : selU (n + 1) c = selU n c ++ if c n = true then [(n : Int)] else [] := by
  unfold selU
  rw [List.range_succ, List.filter_append, List.map_append]
  by_cases h : c n = true
  · rw [if_pos h, List.filter_cons, if_pos h] <;> rfl
  · rw [if_neg h, List.filter_cons, if_neg h] <;> rfl
theorem mem_selU {n : Nat} {c : Nat → Bool} {u : Int} : u ∈ selU n c ↔ ∃ i : Nat, u = i ∧ i < n ∧ c i = true := by
  unfold selU
  rw [List.mem_map]
  constructor
  · rintro ⟨i, hi, rfl⟩
    obtain ⟨h1, h2⟩ := List.mem_filter.mp hi
    exact ⟨i, rfl, List.mem_range.mp h1, h2⟩
  · rintro ⟨i, rfl, h1, h2⟩
    exact ⟨i, List.mem_filter.mpr ⟨List.mem_range.mpr h1, h2⟩, rfl⟩
def atC (zs : List Str) (p : Str) (i : Nat) : Bool := decide (zs[i]? = some p)
def hasC (ts : List (Str × Str)) (zs : List Str) (a : Str) (i : Nat) : Bool := match zs[i]? with
  | some z => decide (a ∈ pathOf ts z)
  | none => false
/-- the users at a place; those that have a flag; how many -/
def atU (zs : List Str) (p : Str) : List Int := selU zs.length (atC zs p)
def hasU (ts : List (Str × Str)) (zs : List Str) (a : Str) : List Int := selU zs.length (hasC ts zs a)
def szZ (ts : List (Str × Str)) (zs : List Str) (a : Str) : Int := ((zs.filter fun z => decide (a ∈ pathOf ts z)).length : Int)
theorem szZ_more {ts : List (Str × Str)} {zs : List Str} {z a : Str} {j : Nat} (h : zs[j]? = some z) : szZ ts (zs.take (j + 1)) a = szZ ts (zs.take j) a + if a ∈ pathOf ts z then 1 else 0 := by
  unfold szZ
  rw [take_more h, List.filter_append, List.length_append]
  by_cases m : a ∈ pathOf ts z
  · rw [if_pos m, List.filter_cons, if_pos (decide_eq_true m)] <;> rfl
  · rw [if_neg m, List.filter_cons, if_neg (by rw [decide_eq_false m]; decide)] <;> rfl
def spAForest (CA : Addr) : Sp := fun vs H Q _ => ∃ (y x : Addr) (zs : List Str), vs = [.ref y] ∧ AAt CA H y x zs ∧ Q (.ref x) H
def spATotal (CA : Addr) : Sp := fun vs H Q _ => ∃ (y x : Addr) (zs : List Str), vs = [.ref y] ∧ AAt CA H y x zs ∧ Q (.int (zs.length : Int)) H
def spSizesOf (CF : Addr) : Sp := fun vs H Q _ => ∃ (x l : Addr) (ts : List (Str × Str)) (zs : List Str), vs = [.ref x, .ref l] ∧ FAt CF H x ts ∧ TreeOk ts ∧ H l = some (.lst (zs.map V.str)) ∧ (∀ z ∈ zs, Pl ts z) ∧
  ∀ (p : Addr) (H' : Hp), Same H H' → H p = none → H' p = some (.dK (tblI (ts.map Prod.fst) (szZ ts zs))) → Q (.ref p) H'
def spASizes (CF CA : Addr) : Sp := fun vs H Q _ => ∃ (y x : Addr) (ts : List (Str × Str)) (zs : List Str), vs = [.ref y] ∧ AAt CA H y x zs ∧ FAt CF H x ts ∧ TreeOk ts ∧ (∀ z ∈ zs, Pl ts z) ∧
  ∀ (p : Addr) (H' : Hp), Same H H' → H p = none → H' p = some (.dK (tblI (ts.map Prod.fst) (szZ ts zs))) → Q (.ref p) H'
def spAAt (CF CA : Addr) : Sp := fun vs H Q _ => ∃ (y x : Addr) (ts : List (Str × Str)) (zs : List Str) (a : Str), vs = [.ref y, .str a] ∧ AAt CA H y x zs ∧ FAt CF H x ts ∧ TreeOk ts ∧ zs.length ≤ 1000 ∧ Pl ts a ∧
  ∀ (p : Addr) (H' : Hp), Same H H' → H p = none → H' p = some (.lst ((atU zs a).map V.int)) → Q (.ref p) H'
def spAUsers (CF CA : Addr) : Sp := fun vs H Q _ => ∃ (y x : Addr) (ts : List (Str × Str)) (zs : List Str) (a : Str), vs = [.ref y, .str a] ∧ AAt CA H y x zs ∧ FAt CF H x ts ∧ TreeOk ts ∧ (∀ z ∈ zs, Pl ts z) ∧ zs.length ≤ 1000 ∧ a ∈ ts.map Prod.fst ∧
  ∀ (p : Addr) (H' : Hp), Same H H' → H p = none → H' p = some (.lst ((hasU ts zs a).map V.int)) → Q (.ref p) H'
def spNeedFl (CF : Addr) : Sp := fun vs H Q _ => ∃ (x : Addr) (ts : List (Str × Str)) (a : Str), vs = [.ref x, .str a] ∧ FAt CF H x ts ∧ TreeOk ts ∧ a ∈ ts.map Prod.fst ∧ Q .non H
section
variable {P : Program} {w : World} {K : PySem.W.Frag} {mg : Str → Option Value} {base : Heap}
theorem scAFo : FnScope ["self"] ["self"] (defScope s_Assignment_forest) := ⟨rfl, rfl, rfl, by decide +kernel, rfl, by decide +kernel, by decide +kernel⟩
theorem ok_aforest {f CA : Addr} {mcA : Value} {fd : FuncData} (F : Fun K "forest" "Assignment.forest" s_Assignment_forest f fd) (B : Ac K mg CA mcA) : FnOk P w K mg base CX0 1 f fd ["self"] (spAForest CA) := by
  refine F.ok scAFo (fun vs H Q E h => ?_) (fun cdv A outer s H vs Q E hr h => ?_)
  · obtain ⟨y, x, zs, rfl, _⟩ := h
    rfl
  · obtain ⟨y, x, zs, rfl, ⟨dy, p, hy, hp⟩, k⟩ := h
    exact ⟨_, pss_one (ps_ret (pe_fld (pv 0) rfl)), _, rfl, y, CA, dy, _, .ref x, rfl, hy, B.cl, B.nF, rfl, k⟩
abbrev NSo : List Str := ["forest", "places", "name", "found", "place"]
end
end FT


/-! best -/
namespace FT
open PySem L2 TL ClX LiI
theorem EdG.imp {H H' : Hp} (m : ∀ r xs, H r = some (.tup xs) → H' r = some (.tup xs)) : ∀ {rs : List Addr} {es : List (Str × Str × Int)}, EdG H rs es → EdG H' rs es
  | _, _, .nil => .nil
  | _, _, .cons h t => .cons (m _ _ h) (EdG.imp m t)
/-- a change of places by moves along edges -/
def BestOf (ts : List (Str × Str)) (c : Str → Int) (zs zs' : List Str) : Prop := ∃ L' : Str → List Int, MovedP ts c (atU zs) L' ∧ Val ts zs.length L' ∧ zs' = (usr zs.length).map (plOf ts L')
def spBest (K : PySem.W.Frag) (CF CA CS : Addr) : Sp := fun vs H Q E => ∃ (y x : Addr) (sv : V) (ts : List (Str × Str)) (zs : List Str) (so : Option (List (Key × V))), vs = [.ref y, sv] ∧ AAt CA H y x zs ∧ FAt CF H x ts ∧ TreeOk ts ∧ (∀ z ∈ zs, Pl ts z) ∧ 1 ≤ zs.length ∧ zs.length ≤ 60 ∧ SzV K H sv so ∧
  match feE CS ts (zs.length : Int) so with
  | none => ∀ (y' : Addr) (H' : Hp) (zs' : List Str), Same H H' → H y' = none → AAt CA H' y' x zs' → BestOf ts (fun a => szOf (kvsOf so) a - szZ ts zs a) zs zs' → Q (.ref y') H'
  | some e => Out H E e
/-- lists by place as counts of users with a flag -/
theorem atU_lsz {ts : List (Str × Str)} (o : TreeOk ts) {zs : List Str} (pl : ∀ z ∈ zs, Pl ts z) {a : Str} (ha : a ∈ ts.map Prod.fst) : lsz ts (atU zs) a = szZ ts zs a := by
  rw [lsz_inP]
  have key : ∀ j, j ≤ zs.length → ((ts.map Prod.fst).map fun b => inP ts a b * ((selU j (atC zs b)).length : Int)).sum = szZ ts (zs.take j) a := by
    intro j
    induction j with
    | zero =>
      intro _
      rw [List.take_zero, sum_map_zero fun b _ => by rw [selU_zero]; exact Int.mul_zero _] <;> rfl
    | succ j ih =>
      intro hj
      have e : zs[j]? = some zs[j] := List.getElem?_eq_getElem (by omega)
      obtain ⟨z, ez⟩ : ∃ z, z = zs[j] := ⟨_, rfl⟩
      rw [← ez] at e
      rw [szZ_more e, ← ih (by omega)]
      have e1 : ∀ b ∈ ts.map Prod.fst, inP ts a b * ((selU (j + 1) (atC zs b)).length : Int) = inP ts a b * ((selU j (atC zs b)).length : Int) + if b = z then inP ts a b else 0 := fun b _ => by
        rw [selU_more, List.length_append, Int.natCast_add, Int.mul_add]
        congr 1
        have ec : atC zs b j = decide (z = b) := by
          unfold atC
          rw [e]
          by_cases w : z = b
          · rw [decide_eq_true w, decide_eq_true (by rw [w])]
          · rw [decide_eq_false w, decide_eq_false fun h => w (Option.some.inj h)]
        by_cases w : b = z
        · rw [if_pos w, ec, decide_eq_true w.symm, if_pos rfl]
          show inP ts a b * 1 = _
          rw [Int.mul_one]
        · rw [if_neg w, ec, decide_eq_false (fun h => w h.symm), if_neg (by decide)]
          exact Int.mul_zero _
      rw [List.map_congr_left e1, sum_map_add, sum_one (f := fun b => inP ts a b) o.nd]
      congr 1
      by_cases m : z ∈ ts.map Prod.fst
      · rw [if_pos m] <;> rfl
      · have z0 : z = "" := (pl z (List.mem_of_getElem? e)).resolve_right m
        rw [if_neg m, z0, path_root, if_neg (by simp)]
  have z := key zs.length (Nat.le_refl _)
  rw [List.take_length] at z
  exact z
end FT


/-! plain: the sizes of the places of all users are the sizes of the lists -/
namespace FT
open PySem L2 TL ClX LiI
theorem plZ_get {ts : List (Str × Str)} {n : Nat} {L : Str → List Int} {i : Nat} {z : Str} (h : ((usr n).map (plOf ts L))[i]? = some z) : i < n ∧ z = plOf ts L (i : Int) := by
  unfold usr at h
  rw [List.getElem?_map, List.getElem?_map] at h
  obtain ⟨u, hu, rfl⟩ := Option.map_eq_some_iff.mp h
  obtain ⟨k, hk, rfl⟩ := Option.map_eq_some_iff.mp hu
  have lt := (List.getElem?_eq_some_iff.mp hk).1
  rw [List.length_range] at lt
  rw [List.getElem?_range lt] at hk
  cases hk
  exact ⟨lt, rfl⟩
theorem plZ_len (ts : List (Str × Str)) (n : Nat) (L : Str → List Int) : ((usr n).map (plOf ts L)).length = n := by
  unfold usr
  rw [List.length_map, List.length_map, List.length_range]
theorem plZ_at {ts : List (Str × Str)} {n : Nat} {L : Str → List Int} (v : Val ts n L) {i : Nat} {z : Str} (h : ((usr n).map (plOf ts L))[i]? = some z) : Pl ts z ∧ (i : Int) ∈ L z := by
  obtain ⟨lt, rfl⟩ := plZ_get h
  exact plOf_at v (by omega) (by omega)
theorem plZ_pl {ts : List (Str × Str)} {n : Nat} {L : Str → List Int} (v : Val ts n L) : ∀ z ∈ (usr n).map (plOf ts L), Pl ts z := fun z hz => by
  obtain ⟨i, hi⟩ := List.mem_iff_getElem?.mp hz
  exact (plZ_at v hi).1
theorem szZ_plZ {ts : List (Str × Str)} (o : TreeOk ts) {n : Nat} {L : Str → List Int} (v : Val ts n L) {a : Str} (ha : a ∈ ts.map Prod.fst) : szZ ts ((usr n).map (plOf ts L)) a = lsz ts L a := by
  rw [← atU_lsz o (plZ_pl v) ha]
  have le0 := lsz_lens o (val_len v)
  have le' : Lens ts (n : Int) (lsz ts L) (atU ((usr n).map (plOf ts L))) := fun p hp => by
    rw [← le0 p hp]
    congr 1
    refine List.Perm.length_eq ((List.perm_ext_iff_of_nodup ?_ ?_).mpr fun u => ?_)
    · unfold atU selU
      refine List.nodup_iff_pairwise_ne.mpr (List.pairwise_map.mpr (((List.nodup_iff_pairwise_ne.mp List.nodup_range).filter _).imp fun h e => h ?_))
      omega
    · have nd : ((pls ts).flatMap L).Nodup := v.nodup_iff.mpr (usr_nd _)
      exact List.nodup_iff_pairwise_ne.mpr ((List.pairwise_flatMap.mp (List.nodup_iff_pairwise_ne.mp nd)).1 p (mem_pls.mpr hp))
    · constructor
      · intro hu
        obtain ⟨i, rfl, i1, i2⟩ := mem_selU.mp hu
        exact (plZ_at v (of_decide_eq_true i2)).2
      · intro hu
        obtain ⟨u0, u1⟩ := mem_usr.mp (v.mem_iff.mp (List.mem_flatMap.mpr ⟨p, mem_pls.mpr hp, hu⟩))
        have lt : u.toNat < ((usr n).map (plOf ts L)).length := by rw [plZ_len]; omega
        have e := List.getElem?_eq_getElem lt
        obtain ⟨q1, q2⟩ := plZ_at v e
        rw [show ((u.toNat : Nat) : Int) = u by omega] at q2
        have pq := one_place v hp q1 hu q2
        exact mem_selU.mpr ⟨u.toNat, by omega, lt, decide_eq_true (by rw [e, pq])⟩
  exact lens_lsz o le' ha
end FT


/-! Assignment.at -/
namespace FT
open PySem L2 TL ClX LiI
section
variable {P : Program} {w : World} {K : PySem.W.Frag} {mg : Str → Option Value} {base : Heap}
abbrev NAt : List Str := ["self", "place", "user", "other"]
end
end FT


/-! the law's own paths as lists, upwards -/
namespace FT
open PySem L2 TL ClX LiI
def rankL (t : List (Str × Str)) (rk : Str → Nat) (σ : St) : Nat := match σ[1]? with
  | some (some (V.str a)) => if a ∈ t.map Prod.fst then rk a + 1 else 0
  | _ => 0
def spPathL : Sp := fun vs H Q _ => ∃ (q : Addr) (a : Str) (t : List (Str × Str)), vs = [.ref q, .str a] ∧ Rd H q (.dK (prs t)) ∧ TreeOk t ∧ Pl t a ∧ ∀ p H', Same H H' → H p = none → H' p = some (.lst ((pathOf t a).reverse.map V.str)) → Q (.ref p) H'
section
variable {P : Program} {w : World} {K : PySem.W.Frag} {mg : Str → Option Value} {base : Heap}
abbrev NPl : List Str := ["_law_parents", "_law_place", "_law_found"]
theorem scPl : FnScope NPl ["_law_parents", "_law_place"] (defScope s__law_path) := ⟨rfl, rfl, rfl, by decide +kernel, rfl, by decide +kernel, by decide +kernel⟩
theorem ok_pathL {f : Addr} {fd : FuncData} (F : Fun K "_law_path" "_law_path" s__law_path f fd) : FnOk P w K mg base CX0 1 f fd ["_law_parents", "_law_place"] spPathL := by
  refine F.ok scPl (fun vs H Q E h => ?_) (fun cdv A outer s H vs Q E hr h => ?_)
  · obtain ⟨q, a, t, rfl, _⟩ := h
    rfl
  · obtain ⟨q, a, t, rfl, hq, o, pl, k⟩ := h
    have hu := hu_of hr
    obtain ⟨rk, r⟩ := o.up
    refine ⟨_, pss_cons (ps_set (i := 2) scPl.nd rfl (.inl rfl) (pe_lst pa_nil))
      (pss_cons (ps_while PassesOwn.never (pt_cmpR op_ne (pv 1) pe_str (nomark _))
        (pss_cons (ps_expr (pe_bm PySem.F.plainAttrs_list PySem.F.slot_list_append PySem.F.type_list_append mt_append (pv 2) (pa_cons (pv 1) pa_nil)))
        (pss_one (ps_set (i := 1) scPl.nd rfl (.inl rfl) (pe_dget hu (pv 0) (pv 1) (fun _ _ => rfl))))))
      (pss_one (ps_ret (pv 2)))), ?_⟩
    have big : 1000 ≤ sizeLine := by decide
    have few := o.few
    have rdm : ∀ {H'}, Same H H' → Rd H' q (.dK (prs t)) := fun s => hq.imp (s _ _) fun ⟨ob, e⟩ => ⟨ob, s _ _ e⟩
    refine ⟨by show 0 ≤ sizeLine; omega, fun p0 n0 => ?_⟩
    refine while_by (fun σ H' => ∃ (x : Str) (ws : List Str), σ = [some (.ref q), some (.str x), some (.ref p0)] ∧ Same H H' ∧ H' p0 = some (.lst (ws.map V.str)) ∧ Pl t x ∧ pathOf t a = pathOf t x ++ ws.reverse)
      (fun σ _ => rankL t rk σ) ⟨a, [], rfl, same_new n0, upd_same, pl, by rw [List.reverse_nil, List.append_nil]⟩ ?_ ?_
    · rintro σ H1 ⟨x, ws, rfl, s1, aw, px, epath⟩
      refine ⟨_, rfl, rfl, _, rfl, ?_⟩
      have lws : ws.length ≤ 12 := by
        have z := congrArg List.length epath
        rw [List.length_append, List.length_reverse] at z
        have := path_len t a
        omega
      by_cases e : x = ""
      · rw [decide_eq_true (show V.str x = V.str "" by rw [e])]
        refine iteF ?_
        rw [e, path_root, List.nil_append] at epath
        exact ⟨_, rfl, k p0 H1 s1 n0 (by rw [epath, List.reverse_reverse]; exact aw)⟩
      · rw [decide_eq_false (show ¬ V.str x = V.str "" from fun z => e (V.str.inj z))]
        show if true = true then _ else _
        rw [if_pos rfl]
        have mx := px.resolve_left e
        obtain ⟨pa, ep, hpa, lx⟩ := o.step r mx
        refine ⟨_, rfl, .inl ⟨rfl, _, SqL.of aw⟩, _, rfl, p0, _, _, rfl, rfl, aw, by rw [List.length_map]; omega, ?_⟩
        obtain ⟨H2, e2⟩ : ∃ X, X = upd H1 p0 (.lst (ws.map V.str ++ [V.str x])) := ⟨_, rfl⟩
        have s2 : Same H H2 := e2 ▸ s1.put n0
        rw [← e2]
        have dg : DGet H2 q (.str x) (some (.str pa)) := .inl ⟨_, Sum.inr x, rdm s2, rfl, by rw [val_prs, ep] <;> rfl⟩
        refine ⟨_, rfl, _, rfl, q, .str pa, rfl, dg, ⟨pa, ws ++ [x], rfl, s2, by rw [e2, upd_same, List.map_append] <;> rfl, hpa.imp id And.left, by rw [epath, path_step o mx ep, List.reverse_append, List.append_assoc] <;> rfl⟩, ?_⟩
        show (if pa ∈ t.map Prod.fst then rk pa + 1 else 0) < (if x ∈ t.map Prod.fst then rk x + 1 else 0)
        rw [if_pos mx]
        split
        · rename_i m
          have := (hpa.resolve_left fun z => o.root (by rw [← z]; exact m)).2
          omega
        · omega
    · exact fun σ H Q Q' hm ⟨v, e, z, b, eb, q⟩ => ⟨v, e, z, b, eb, hm _ _ q⟩
end
end FT


/-! _law_counted: the sizes of a list of places -/
namespace FT
open PySem L2 TL ClX LiI
def spCounted : Sp := fun vs H Q _ => ∃ (q l : Addr) (t : List (Str × Str)) (zs : List Str), vs = [.ref q, .ref l] ∧ H q = some (.dK (prs t)) ∧ TreeOk t ∧ H l = some (.lst (zs.map V.str)) ∧ (∀ z ∈ zs, Pl t z) ∧
  ∀ (ks : List Str) (p : Addr) (H' : Hp), Same H H' → H p = none → ks.Perm (t.map Prod.fst) → PyProof.Rows.sortedS ks = true → H' p = some (.dK (tblI ks (szZ t zs))) → Q (.ref p) H'
section
variable {P : Program} {w : World} {K : PySem.W.Frag} {mg : Str → Option Value} {base : Heap}
abbrev NCd : List Str := ["_law_parents", "_law_places_here", "_law_name", "_law_wide", "_law_place"]
theorem scCd : FnScope NCd ["_law_parents", "_law_places_here"] (defScope s__law_counted) := ⟨rfl, rfl, rfl, by decide +kernel, rfl, by decide +kernel, by decide +kernel⟩
theorem ok_counted {f fP : Addr} {fd fdP : FuncData} (F : Fun K "_law_counted" "_law_counted" s__law_counted f fd) (T : Nm mg) (DP : Dn P w K mg base CX0 1 "_law_path" ["_law_parents", "_law_place"] spPathL fP fdP) : FnOk P w K mg base CX0 2 f fd ["_law_parents", "_law_places_here"] spCounted := by
  refine F.ok scCd (fun vs H Q E h => ?_) (fun cdv A outer s H vs Q E hr h => ?_)
  · obtain ⟨q, l, t, zs, rfl, _⟩ := h
    rfl
  · obtain ⟨q, l, t, zs, rfl, hq, o, hl, pl, k⟩ := h
    have hu := hu_of hr
    have nd := scCd.nd
    have big : 1000 ≤ sizeLine := by decide
    have few := o.few
    refine ⟨_, pss_cons (ps_set (i := 3) nd rfl (.inl rfl) (pe_callTy (call_dictP rfl) (by rfl) T.dct (by decide +kernel) (pa_cons (pe_lc (own := [("_law_name", 2)]) (g := gName 2) (tt := tYes) rfl nd (pi_list (pe_callB (call_sortedD rfl) (by rfl) T.srt (by decide +kernel) (pa_cons (pv 0) pa_nil)))
          (blkOk_by (N := NCd) (sc := defScope s__law_counted) (by decide +kernel)) (fun _ _ _ _ _ => pg_name (i := 2) nd rfl (Or.inl rfl)) (fun _ _ _ _ _ => pts_nil) (fun _ _ _ _ _ => pe_tup (pa_cons (pv 2) (pa_cons pe_int pa_nil)))) pa_nil)))
      (pss_cons (ps_for PassesOwn.never rfl (pi_list (pv 1)) (pg_name (i := 4) nd rfl (.inl rfl))
        (pss_one (ps_for PassesOwn.never rfl (pi_list (pe_call DP.ok hr rfl DP.mgn DP.kp DP.bn .nil pass0 (pa_cons (pv 0) (pa_cons (pv 4) pa_nil)))) (pg_name (i := 2) nd rfl (.inl rfl))
          (pss_one (ps_dput hu (pv 3) (pv 2) (pe_op op_add (pe_dget hu (pv 3) (pv 2) (fun _ _ => rfl)) pe_int) rfl)))))
      (pss_one (ps_ret (pv 3)))), ?_⟩
    refine ⟨_, rfl, q, prs t, t.map Prod.fst, rfl, .inl hq, prs_keys t, by rw [List.length_map]; omega, fun ks pf perm srt nf => ⟨pf, rfl, ⟨_, SqL.of upd_same⟩, fun D nD => ?_⟩⟩
    have lk := perm.length_eq
    rw [List.length_map] at lk
    have ndk : ks.Nodup := perm.nodup_iff.mpr o.nd
    obtain ⟨H1, e1⟩ : ∃ X, X = upd H pf (.lst (ks.map V.str)) := ⟨_, rfl⟩
    have s1 : Same H H1 := e1 ▸ same_new nf
    have a1 : H1 pf = some (.lst (ks.map V.str)) := by rw [e1]; exact upd_same
    rw [← e1] at nD ⊢
    refine lc_it walk_list (fun i H' => Same H1 H' ∧ ∃ rs : List Addr, H' D = some (.lst (rs.map V.ref)) ∧ PrG (fun _ => .int 0) H' rs (ks.take i)) ⟨same_new nD, [], upd_same, .nil⟩ (fun i H' _ z => SqL.of (z.1 _ _ a1)) ?_ ?_
    · intro i y Hz Ha hi ⟨z1, rs, hD, pr⟩ ⟨eb, ex⟩
      subst eb
      obtain ⟨a, ha, rfl⟩ := map_of ex
      have lr := pr.len
      rw [List.length_take] at lr
      refine ⟨rfl, ?_⟩
      refine ⟨_, rfl, by show 2 ≤ sizeLine; omega, fun tq ntq => ?_⟩
      have sq : Same Ha (upd Ha tq (.tup [.str a, .int 0])) := same_new ntq
      refine ⟨_, sq _ _ hD, by rw [List.length_map]; omega, (z1.trans sq).put nD, rs ++ [tq], by rw [upd_same, List.map_append] <;> rfl, ?_⟩
      rw [take_more ha]
      exact PrG.push (sq _ _ hD) (PrG.snoc upd_same (pr.mono sq))
    intro H2 ⟨z1, rs, hD, pr⟩
    rw [List.length_map, List.take_length] at pr
    refine ⟨D, rs, _, rfl, SqL.of hD, pr.kvs, fun pd npd => ?_⟩
    rw [merge_nd (by rw [map_fst]; exact ndk)]
    have s02 : Same H H2 := s1.trans z1
    have np0 : H pd = none := s02.free npd
    obtain ⟨H3, e3⟩ : ∃ X, X = upd H2 pd (.dK (kvT (ks.map fun a => (a, V.int 0)))) := ⟨_, rfl⟩
    have s03 : Same H H3 := e3 ▸ s02.trans (same_new npd)
    have hp3 : H3 pd = some (.dK (tblI ks (szZ t []))) := by rw [e3, upd_same] <;> rfl
    rw [← e3]
    refine ⟨_, rfl, l, rfl, ⟨_, SqL.of (s03 _ _ hl)⟩, ?_⟩
    refine for_it walk_list (fun j σ' H' => (∃ u2 u4, σ' = [some (.ref q), some (.ref l), u2, some (.ref pd), u4]) ∧ Same H H' ∧ H' pd = some (.dK (tblI ks (szZ t (zs.take j))))) ⟨⟨_, _, rfl⟩, s03, by rw [List.take_zero]; exact hp3⟩ (fun j σ' H' _ z => SqL.of (z.2.1 _ _ hl)) ?_ ?_
    · intro j y σ' Hz Ha hj ⟨⟨u2, u4, e⟩, sa, hpd⟩ ⟨eb, ex⟩
      subst e
      subst eb
      obtain ⟨z, hz, rfl⟩ := map_of ex
      have mz := pl z (List.mem_of_getElem? hz)
      refine ⟨_, rfl, _, rfl, q, z, t, rfl, .inl (sa _ _ hq), o, mz, fun pt H4 s4 npt hpt => ?_⟩
      have pdt : pd ≠ pt := ne_of_none hpd npt
      have nt0 : H pt = none := sa.free npt
      refine ⟨pt, rfl, ⟨_, SqL.of hpt⟩, ?_⟩
      have nodup : (pathOf t z).reverse.Nodup := (List.reverse_perm _).nodup_iff.mpr (path_nd o mz)
      refine for_it walk_list (fun i σ' H' => (∃ u2, σ' = [some (.ref q), some (.ref l), u2, some (.ref pd), some (.str z)]) ∧ Same H H' ∧ H' pt = some (.lst ((pathOf t z).reverse.map V.str)) ∧ H' pd = some (.dK (tblI ks fun a => szZ t (zs.take j) a + if a ∈ (pathOf t z).reverse.take i then 1 else 0)))
        ⟨⟨_, rfl⟩, sa.trans s4, hpt, by rw [s4 _ _ hpd]; congr 2⟩ (fun i σ' H' _ w => SqL.of w.2.2.1) ?_ ?_
      · intro i y2 σ2 Hy Hb hi ⟨⟨u2', e⟩, sb, hpt', hpd'⟩ ⟨eb, ex⟩
        subst e
        subst eb
        obtain ⟨b, hb, rfl⟩ := map_of ex
        have mb := perm.mem_iff.mpr (path_all o mz b (List.mem_reverse.mp (List.mem_of_getElem? hb)))
        have nb := nat_fresh nodup hb
        have dg : DGet Hb pd (.str b) (some (.int (szZ t (zs.take j) b + 0))) := by
          have w := DGet.k (k := Sum.inr b) hpd'
          rw [tblI_val mb, if_neg nb] at w
          exact w
        refine ⟨_, rfl, _, rfl, pd, _, rfl, dg, _, _, rfl, rfl, _, rfl, _, rfl, pd, _, rfl, DPut.k (k := Sum.inr b) hpd' (by rw [tblI_len]; omega), ?_⟩
        rw [tblI_put mb]
        refine ⟨⟨_, rfl⟩, sb.put np0, by rw [upd_ne pdt.symm]; exact hpt', ?_⟩
        rw [upd_same, take_more hb]
        congr 2
        refine tblI_congr fun a _ => ?_
        by_cases w : a = b
        · rw [if_pos w, w, if_pos (List.mem_append_right _ (List.mem_singleton_self _)), Int.add_zero]
        · rw [if_neg w]
          by_cases m : a ∈ (pathOf t z).reverse.take i
          · rw [if_pos m, if_pos (List.mem_append_left _ m)]
          · rw [if_neg m, if_neg fun h => (List.mem_append.mp h).elim m fun h => w (List.mem_singleton.mp h)]
      · intro σ2 Hb ⟨⟨u2', e⟩, sb, hpt', hpd'⟩
        subst e
        rw [List.length_map, List.take_length] at hpd'
        refine ⟨⟨_, _, rfl⟩, sb, ?_⟩
        rw [hpd']
        congr 2
        refine tblI_congr fun a _ => ?_
        rw [szZ_more hz]
        by_cases m : a ∈ pathOf t z
        · rw [if_pos m, if_pos (List.mem_reverse.mpr m)]
        · rw [if_neg m, if_neg fun h => m (List.mem_reverse.mp h)]
    · intro σ' H4 ⟨⟨u2, u4, e⟩, sa, hpd⟩
      subst e
      rw [List.length_map, List.take_length] at hpd
      exact ⟨_, rfl, k ks pd H4 sa np0 perm srt hpd⟩
end
end FT


/-! the text of a dict of sizes -/
namespace FT
open PySem L2 TL ClX LiI
def szEn (l : List Str) (s : Str → Int) : List EntD := l.map fun p => (Sum.inr p, V.int (s p), .int (s p))
def szKv (l : List Str) (s : Str → Int) : List (PyData × PyData) := l.map fun p => (PyData.str p, .int (s p))
theorem szEn_D (l : List Str) (s : Str → Int) : dcD (szEn l s) = .dict (szKv l s) := by
  unfold dcD szEn szKv
  rw [List.map_map] <;> rfl
theorem szEn_kv (l : List Str) (s : Str → Int) : ((szEn l s).map fun e => (e.1, e.2.1)) = tblI l s := by
  unfold szEn tblI kvT
  rw [List.map_map, List.map_map] <;> rfl
theorem int_shortI : ∀ k : Fin 61, (PyData.shown (.int ((k.1 : Nat) : Int))).length ≤ 8 := by decide +kernel
theorem int_showI : ∀ k : Fin 61, PyData.showable (.int ((k.1 : Nat) : Int)) = true := by decide +kernel
theorem int_smallI {u : Int} (h0 : 0 ≤ u) (h1 : u ≤ 60) : (PyData.shown (.int u)).length ≤ 8 ∧ PyData.showable (.int u) = true := by
  have h := int_shortI ⟨u.toNat, by omega⟩
  have g := int_showI ⟨u.toNat, by omega⟩
  rw [show ((u.toNat : Nat) : Int) = u by omega] at h g
  exact ⟨h, g⟩
theorem str_leafI {z : Str} (h : PyData.strOk z = true) : PyData.leavesShort 8 (.str z) = true := by
  unfold PyData.leavesShort
  rw [List.all_eq_true]
  unfold PyData.strOk at h
  intro c hc
  have h := Array.all_eq_true_iff_forall_mem.mp h c (Array.mem_toList_iff.mp hc)
  have h := of_decide_eq_true h
  exact decide_eq_true (by omega)
theorem szKv_show : ∀ {l : List Str} {s : Str → Int}, (∀ p ∈ l, PyData.strOk p = true ∧ p.length ≤ 8 ∧ 0 ≤ s p ∧ s p ≤ 60) → PyData.showableKv (szKv l s) = true ∧ PyData.leavesShortKv 8 (szKv l s) = true ∧ PyData.depthKv (szKv l s) ≤ 1 ∧ PyData.bulkKv (szKv l s) ≤ 70 * l.length
  | [], _, _ => ⟨rfl, rfl, Nat.zero_le _, Nat.zero_le _⟩
  | p :: l, s, h => by
    obtain ⟨h1, h2, h3, h4⟩ := szKv_show (l := l) (s := s) fun v hv => h v (List.mem_cons_of_mem _ hv)
    obtain ⟨p1, p2, p3, p4⟩ := h p (List.mem_cons_self ..)
    obtain ⟨q1, q2⟩ := int_smallI p3 p4
    refine ⟨?_, ?_, ?_, ?_⟩
    · show (true && PyData.showable (.int (s p)) && PyData.showableKv (szKv l s)) = true
      rw [q2, h1] <;> rfl
    · show (PyData.leavesShort 8 (.str p) && decide ((PyData.shown (.int (s p))).length ≤ 8) && PyData.leavesShortKv 8 (szKv l s)) = true
      rw [str_leafI p1, decide_eq_true q1, h2] <;> rfl
    · show max (max 0 0) (PyData.depthKv (szKv l s)) ≤ 1
      omega
    · show p.cps.size + 0 + 2 + PyData.bulkKv (szKv l s) ≤ 70 * (p :: l).length
      rw [List.length_cons]
      have : p.cps.size = p.length := rfl
      omega
theorem sz_repr {K : PySem.W.Frag} {H : Hp} {q : Addr} {ks : List Str} {s : Str → Int} {t : List (Str × Str)} (o : TreeOk t) (p : ks.Perm (t.map Prod.fst)) (b : ∀ a ∈ ks, 0 ≤ s a ∧ s a ≤ 60) (h : H q = some (.dK (tblI ks s))) :
    H q = some (.dK ((szEn ks s).map fun e => (e.1, e.2.1))) ∧ (∀ e ∈ szEn ks s, Dp K H e.2.1 e.2.2 ∧ e.2.2.hasDict = false) ∧ (dcD (szEn ks s)).showable = true ∧ (dcD (szEn ks s)).depth ≤ 60 ∧ (dcD (szEn ks s)).shown.length ≤ sizeLine := by
  have few := o.few
  have lk := p.length_eq
  rw [List.length_map] at lk
  obtain ⟨z1, z2, z3, z4⟩ := szKv_show (l := ks) (s := s) fun a ha => ⟨strOk_name (o.nm a (p.mem_iff.mp ha)), (o.nm a (p.mem_iff.mp ha)).len.2, b a ha⟩
  refine ⟨by rw [szEn_kv]; exact h, fun e he => ?_, ?_⟩
  · obtain ⟨a, ha, rfl⟩ := List.mem_map.mp he
    exact ⟨.int _, rfl⟩
  · rw [szEn_D]
    refine ⟨z1, by show PyData.depthKv (szKv ks s) + 1 ≤ 60; omega, PyData.shown_fits_bulk (B := 8) (by decide) (by decide) z2 ?_⟩
    show PyData.bulkKv (szKv ks s) ≤ 2 ^ 20
    omega
end FT


/-! the text of lists by place -/
namespace FT
open PySem L2 TL ClX LiI
def iD (ns : List Int) : PyData := .list (ns.map PyData.int)
def lsE (l : List Str) (r : Str → Addr) (L : Str → List Int) : List EntD := l.map fun p => (Sum.inr p, V.ref (r p), iD (L p))
def lsK (l : List Str) (L : Str → List Int) : List (PyData × PyData) := l.map fun p => (PyData.str p, iD (L p))
theorem lsE_D (l : List Str) (r : Str → Addr) (L : Str → List Int) : dcD (lsE l r L) = .dict (lsK l L) := by
  unfold dcD lsE lsK
  rw [List.map_map] <;> rfl
theorem lsE_kv (l : List Str) (r : Str → Addr) (L : Str → List Int) : ((lsE l r L).map fun e => (e.1, e.2.1)) = tblV l fun p => .ref (r p) := by
  unfold lsE tblV kvT
  rw [List.map_map, List.map_map] <;> rfl
theorem int_short : ∀ k : Fin 60, (PyData.shown (.int ((k.1 : Nat) : Int))).length ≤ 8 := by decide +kernel
theorem int_short' {u : Int} (h0 : 0 ≤ u) (h1 : u < 60) : (PyData.shown (.int u)).length ≤ 8 := by
  have h := int_short ⟨u.toNat, by omega⟩
  rw [show ((u.toNat : Nat) : Int) = u by omega] at h
  exact h
theorem int_showable : ∀ k : Fin 60, PyData.showable (.int ((k.1 : Nat) : Int)) = true := by decide +kernel
theorem int_showable' {u : Int} (h0 : 0 ≤ u) (h1 : u < 60) : PyData.showable (.int u) = true := by
  have h := int_showable ⟨u.toNat, by omega⟩
  rw [show ((u.toNat : Nat) : Int) = u by omega] at h
  exact h
theorem ints_show : ∀ {ns : List Int}, (∀ u ∈ ns, 0 ≤ u ∧ u < 60) → PyData.showableAll (ns.map PyData.int) = true ∧ PyData.leavesShortAll 8 (ns.map PyData.int) = true ∧ PyData.depthAll (ns.map PyData.int) = 0 ∧ PyData.bulkAll (ns.map PyData.int) = ns.length ∧ PyData.hasDictAll (ns.map PyData.int) = false
  | [], _ => ⟨rfl, rfl, rfl, rfl, rfl⟩
  | u :: ns, h => by
    obtain ⟨h1, h2, h3, h4, h5⟩ := ints_show (ns := ns) fun v hv => h v (List.mem_cons_of_mem _ hv)
    obtain ⟨u0, u1⟩ := h u (List.mem_cons_self ..)
    refine ⟨?_, ?_, ?_, ?_, ?_⟩
    · show (PyData.showable (.int u) && PyData.showableAll (ns.map PyData.int)) = true
      rw [int_showable' u0 u1, h1] <;> rfl
    · show (decide ((PyData.shown (.int u)).length ≤ 8) && PyData.leavesShortAll 8 (ns.map PyData.int)) = true
      rw [decide_eq_true (int_short' u0 u1), h2] <;> rfl
    · show max 0 (PyData.depthAll (ns.map PyData.int)) = 0
      rw [h3] <;> rfl
    · show 0 + 1 + PyData.bulkAll (ns.map PyData.int) = (u :: ns).length
      rw [h4, List.length_cons]
      omega
    · show (false || PyData.hasDictAll (ns.map PyData.int)) = false
      rw [h5] <;> rfl
theorem str_leaf {z : Str} (h : PyData.strOk z = true) : PyData.leavesShort 8 (.str z) = true := by
  unfold PyData.leavesShort
  rw [List.all_eq_true]
  unfold PyData.strOk at h
  intro c hc
  have h := Array.all_eq_true_iff_forall_mem.mp h c (Array.mem_toList_iff.mp hc)
  have h := of_decide_eq_true h
  exact decide_eq_true (by omega)
theorem lsK_show : ∀ {l : List Str} {L : Str → List Int}, (∀ p ∈ l, PyData.strOk p = true ∧ p.length ≤ 8 ∧ (L p).length ≤ 60 ∧ ∀ u ∈ L p, 0 ≤ u ∧ u < 60) → PyData.showableKv (lsK l L) = true ∧ PyData.leavesShortKv 8 (lsK l L) = true ∧ PyData.depthKv (lsK l L) ≤ 1 ∧ PyData.bulkKv (lsK l L) ≤ 70 * l.length
  | [], _, _ => ⟨rfl, rfl, Nat.zero_le _, Nat.zero_le _⟩
  | p :: l, L, h => by
    obtain ⟨h1, h2, h3, h4⟩ := lsK_show (l := l) (L := L) fun v hv => h v (List.mem_cons_of_mem _ hv)
    obtain ⟨p1, p2, p3, p4⟩ := h p (List.mem_cons_self ..)
    obtain ⟨q1, q2, q3, q4, _⟩ := ints_show p4
    refine ⟨?_, ?_, ?_, ?_⟩
    · show (true && PyData.showableAll ((L p).map PyData.int) && PyData.showableKv (lsK l L)) = true
      rw [q1, h1] <;> rfl
    · show (PyData.leavesShort 8 (.str p) && PyData.leavesShortAll 8 ((L p).map PyData.int) && PyData.leavesShortKv 8 (lsK l L)) = true
      rw [str_leaf p1, q2, h2] <;> rfl
    · show max (max 0 (PyData.depthAll ((L p).map PyData.int) + 1)) (PyData.depthKv (lsK l L)) ≤ 1
      rw [q3]
      omega
    · show p.cps.size + PyData.bulkAll ((L p).map PyData.int) + 2 + PyData.bulkKv (lsK l L) ≤ 70 * (p :: l).length
      rw [q4, List.length_cons]
      have : p.cps.size = p.length := rfl
      omega
theorem ls_repr {K : PySem.W.Frag} {H : Hp} {q : Addr} {ts : List (Str × Str)} {r : Str → Addr} {L : Str → List Int} {n : Nat} (o : TreeOk ts) (hV : Val ts n L) (n60 : n ≤ 60) (h : LsAt H q (pls ts) r L) :
    H q = some (.dK ((lsE (pls ts) r L).map fun e => (e.1, e.2.1))) ∧ (∀ e ∈ lsE (pls ts) r L, Dp K H e.2.1 e.2.2 ∧ e.2.2.hasDict = false) ∧ (dcD (lsE (pls ts) r L)).showable = true ∧ (dcD (lsE (pls ts) r L)).depth ≤ 60 ∧ (dcD (lsE (pls ts) r L)).shown.length ≤ sizeLine := by
  have few := o.few
  have pln := pls_len ts
  have us : ∀ p ∈ pls ts, (L p).length ≤ 60 ∧ ∀ u ∈ L p, 0 ≤ u ∧ u < 60 := fun p hp => by
    refine ⟨?_, fun u hu => ?_⟩
    · have := nat_sumL (f := L) hp
      rw [val_len hV] at this
      omega
    · have := mem_usr.mp (hV.mem_iff.mp (List.mem_flatMap.mpr ⟨p, hp, hu⟩))
      omega
  have nm : ∀ p ∈ pls ts, PyData.strOk p = true ∧ p.length ≤ 8 := fun p hp => by
    rcases mem_pls.mp hp with e | m
    · rw [e]
      exact ⟨by decide +kernel, by decide +kernel⟩
    · exact ⟨strOk_name (o.nm p m), (o.nm p m).len.2⟩
  obtain ⟨z1, z2, z3, z4⟩ := lsK_show (l := pls ts) (L := L) fun p hp => ⟨(nm p hp).1, (nm p hp).2, us p hp⟩
  refine ⟨by rw [lsE_kv]; exact h.1, fun e he => ?_, ?_⟩
  · obtain ⟨p, hp, rfl⟩ := List.mem_map.mp he
    exact ⟨.lst (SqL.of (h.2 p hp)) (dp_ints _), (ints_show (us p hp).2).2.2.2.2⟩
  · rw [lsE_D]
    refine ⟨z1, by show PyData.depthKv (lsK (pls ts) L) + 1 ≤ 60; omega, PyData.shown_fits_bulk (B := 8) (by decide) (by decide) z2 ?_⟩
    show PyData.bulkKv (lsK (pls ts) L) ≤ 2 ^ 20
    omega
end FT


/-! own __eq__; Forest.__eq__; (need_match: FtEqM) -/
namespace FT
open PySem L2 TL ClX LiI
def strKey (e : DictEntry) : Bool := match e.key with
  | .str _ _ => true
  | _ => false
/-- a class of the text with its own __eq__ and no __ne__ -/
structure EqF (K : PySem.W.Frag) (C f : Addr) : Prop where
  at_ : ∃ nm q N bs sn sub ab col dd k0 k1 k2 k3 k5 newId, K.lookup C = some (excClassObj nm q C N bs [.type "object"] true sn sub ab col dd k0 k1 k2 k3 k5 newId) ∧
    ∃ (oc : Value) (od : Option Addr) (es : Array DictEntry) (ep : Nat) (sl : Array (Option Value)), K.lookup N = some ⟨oc, od, .dict es ep, sl⟩ ∧ es.toList.all strKey = true ∧ nsFind es "__eq__" = some (.ref f) ∧ nsFind es "__ne__" = none
  ty : ∃ o : Obj, K.lookup f = some o ∧ o.cls = .type "function"
theorem EqF.own {K : PySem.W.Frag} {C f : Addr} (e : EqF K C f) {h : Heap} (X : K.In h) {a : Addr} {o : Obj} (ho : h.get? a = some o) (hc : o.cls = .ref C) : h.OwnEqNoNe a C f "object" [.type "object"] := by
  obtain ⟨nm, q, N, bs, sn, sub, ab, col, dd, k0, k1, k2, k3, k5, newId, hC, oc, od, es, ep, sl, hN, hk, h1, h2⟩ := e.at_
  obtain ⟨of, hf, tf⟩ := e.ty
  have keys : StrKeys es := fun x hx => by
    have := List.all_eq_true.mp hk x (Array.mem_toList_iff.mpr hx)
    unfold strKey at this
    cases ek : x.key with
    | str n t => exact ⟨n, t, rfl⟩
    | _ => rw [ek] at this; cases this
  exact ⟨o, of, nm, q, N, bs, true, sn, sub, ab, col, dd, k0, k1, k2, k3, k5, newId, nsFind es, _, ho, hc, X _ _ hC, ⟨_, es, ep, X _ _ hN, rfl, keys, fun _ => rfl⟩, h1, X _ _ hf, tf, PySem.F.cmp_object.mro, PySem.F.cmp_object.eq.lookup, h2⟩
/-- x != y, two instances that are equal by their own __eq__ -/
def rNeG (D : Eqv) : R2 := fun x y H Q => D x y H ∧ ∀ H', Ext H H' → Q (.bl false) H'
/-- what isinstance asks of an own class -/
structure IsF (K : PySem.W.Frag) (C : Addr) : Prop where
  ha : PySem.W.findIn K (.ref C) "__class__" = some (some (.builtin "object.__class__"))
  hn : PySem.W.specialIn K (.builtin "object.__class__") "__get__" = some (some (.builtin "getset_descriptor.__get__"))
  ht : PySem.W.takesIn K (.builtin "object.__class__") = some true
  hm : PySem.W.mroIn K C (.type "object") = some true
theorem kit_self {K : PySem.W.Frag} {C : Addr} : PySem.W.kitOne K (.ref C) (.ref C) = some true := if_pos (beq_self_eq_true _)
def RFo (CF : Addr) : Addr → Addr → Hp → Prop := fun a b H => ∃ ts, FAt CF H a ts ∧ FAt CF H b ts ∧ TreeOk ts
theorem prs_all {ts : List (Str × Str)} (nd : (ts.map Prod.fst).Nodup) : ∀ p ∈ prs ts, valV (prs ts) p.1 = some p.2 ∧ flatB p.2 = true := fun p hp => by
  unfold prs kvT at hp
  rw [List.map_map] at hp
  obtain ⟨⟨a, r⟩, hm, rfl⟩ := List.mem_map.mp hp
  refine ⟨?_, rfl⟩
  show valV (prs ts) (Sum.inr a) = some (V.str r)
  rw [val_prs, par_of nd hm] <;> rfl
section
variable {P : Program} {w : World} {K : PySem.W.Frag} {mg : Str → Option Value} {base : Heap}
theorem scFEq : FnScope ["self", "other"] ["self", "other"] (defScope s_Forest___eq__) := ⟨rfl, rfl, rfl, by decide +kernel, rfl, by decide +kernel, by decide +kernel⟩
theorem ok_feq {f CF : Addr} {mc : Value} {fd : FuncData} (F : Fun K "__eq__" "Forest.__eq__" s_Forest___eq__ f fd) (T : Nm mg) (O : FoC K CF) (Z : Fc K mg CF mc) (S : IsF K CF) : FnOk P w K mg base CX0 1 f fd ["self", "other"] (spEq (RFo CF)) := by
  refine F.ok scFEq (fun vs H Q E h => ?_) (fun cdv A outer s H vs Q E hr h => ?_)
  · obtain ⟨a, b, rfl, _⟩ := h
    rfl
  · obtain ⟨a, b, rfl, ⟨ts, ⟨da, qa, ha, hda⟩, ⟨db, qb, hb, hdb⟩, o⟩, k⟩ := h
    have hu := hu_of hr
    refine ⟨_, pss_one (ps_ret (pe_and (pe_callB call_isi (by rfl) T.isi (by decide +kernel) (pa_cons (pv 1) (pa_cons (pe_glob (v := .ref CF) (by rfl) Z.gF rfl) pa_nil))) (pe_one (pe_cmpR (op_eq_dictA (Nat.lt_of_succ_lt hu)) (pe_fld (pv 0) rfl) (pe_fld (pv 1) rfl) (nomark _))))), ?_⟩
    refine ⟨_, rfl, .ref b, _, .ref CF, _, true, rfl, .own _, .base (.ins hb O.cl S.ha S.hn S.ht S.hm), kit_self, true, rfl, ?_⟩
    show if true = true then _ else _
    rw [if_pos rfl]
    exact ⟨_, rfl, a, CF, da, _, .ref qa, rfl, ha, O.cl, O.nA, rfl, _, rfl, b, CF, db, _, .ref qb, rfl, hb, O.cl, O.nA, rfl, qa, qb, _, _, rfl, rfl, hda, hdb, rfl, prs_all o.nd, k _ fun _ _ e => e⟩
end
end FT


/-! two dicts of flat values compared, equal or not -/
namespace L2
open PySem PySem.Spec PyProof.Rows
def rowEq (ls : List (Key × V)) (p : Key × V) : Bool := match valV ls p.1 with
  | some u => eqV p.2 u
  | none => false
def eqDK (ks ls : List (Key × V)) : Bool := ks.length == ls.length && ks.all (rowEq ls)
theorem valV_mem {ls : List (Key × V)} {k : Key} {u : V} (h : valV ls k = some u) : ∃ p ∈ ls, p.2 = u := by
  induction ls with
  | nil => cases h
  | cons p ls ih =>
    by_cases e : p.1 = k
    · rw [valV_pos e] at h
      exact ⟨p, List.mem_cons_self .., Option.some.inj h⟩
    · rw [valV_neg e] at h
      obtain ⟨q, hq, eq⟩ := ih h
      exact ⟨q, List.mem_cons_of_mem _ hq, eq⟩
section
variable {X : Cx}
def rEqDC : R2 := fun x y H Q => ∃ a b ks ls, x = .ref a ∧ y = .ref b ∧ H a = some (.dK ks) ∧ H b = some (.dK ls) ∧ (∀ p ∈ ks, flatV p.2 = true) ∧ (∀ p ∈ ls, flatV p.2 = true) ∧ Q (.bl (eqDK ks ls)) H
def rNeDC : R2 := fun x y H Q => ∃ a b ks ls, x = .ref a ∧ y = .ref b ∧ H a = some (.dK ks) ∧ H b = some (.dK ls) ∧ (∀ p ∈ ks, flatV p.2 = true) ∧ (∀ p ∈ ls, flatV p.2 = true) ∧ Q (.bl (!eqDK ks ls)) H
end
end L2


/-! own __eq__ with either answer; Forest.__eq__ -/
namespace FT
open PySem L2 TL ClX LiI
/-- what an own == promises, equal or not -/
def spEqB (R : Addr → Addr → Bool → Hp → Prop) : Sp := fun vs H Q _ => ∃ a b v, vs = [.ref a, .ref b] ∧ R a b v H ∧ ∀ H', Ext H H' → Q (.bl v) H'
def rNeB (C : Addr) (R : Addr → Addr → Bool → Hp → Prop) : R2 := fun x y H Q => ∃ a b dx dy fs gs v, x = .ref a ∧ y = .ref b ∧ H a = some (.ins C dx fs) ∧ H b = some (.ins C dy gs) ∧ R a b v H ∧ ∀ H', Ext H H' → Q (.bl (!v)) H'
def RFoB (CF : Addr) : Addr → Addr → Bool → Hp → Prop := fun a b v H => ∃ ts us, FAt CF H a ts ∧ FAt CF H b us ∧ v = eqDK (prs ts) (prs us)
section
variable {P : Program} {w : World} {K : PySem.W.Frag} {mg : Str → Option Value} {base : Heap}
end
end FT


/-! what repr shows of a key: different keys, different texts -/
namespace FT
open PySem L2 TL ClX
theorem subset_perm {α : Type} [DecidableEq α] : ∀ {a b : List α}, a.Nodup → (∀ x ∈ a, x ∈ b) → b.length ≤ a.length → a.Perm b
  | [], b, _, _, h => by
    have : b = [] := List.length_eq_zero_iff.mp (Nat.le_zero.mp h)
    rw [this]
  | x :: a, b, nd, sub, h => by
    obtain ⟨h1, h2⟩ := List.nodup_cons.mp nd
    have hx := sub x List.mem_cons_self
    have p := List.perm_cons_erase hx
    refine List.Perm.trans (.cons x (subset_perm h2 (fun y hy => ?_) ?_)) p.symm
    · exact (List.mem_erase_of_ne fun e => h1 (by rw [← e]; exact hy)).mpr (sub y (List.mem_cons_of_mem _ hy))
    · rw [List.length_erase_of_mem hx]
      rw [List.length_cons] at h
      omega
def Low (z : Str) : Prop := ∀ c ∈ tl z, 97 ≤ c ∧ c ≤ 122
theorem low_char {c : Nat} (h0 : 97 ≤ c) (h1 : c ≤ 122) : Builtin.Str.reprChar 39 c = [c] := by
  have all : ∀ i : Fin 26, Builtin.Str.reprChar 39 (97 + i.1) = [97 + i.1] := by decide +kernel
  have z := all ⟨c - 97, by omega⟩
  have e : 97 + (⟨c - 97, by omega⟩ : Fin 26).1 = c := by show 97 + (c - 97) = c; omega
  rw [e] at z
  exact z
theorem low_fold : ∀ (l : List Nat) (acc : Array Nat), (∀ c ∈ l, 97 ≤ c ∧ c ≤ 122) → l.foldl (fun out c => out ++ (Builtin.Str.reprChar 39 c).toArray) acc = acc ++ l.toArray
  | [], acc, _ => by simp
  | c :: l, acc, h => by
    obtain ⟨h0, h1⟩ := h c List.mem_cons_self
    rw [List.foldl_cons, low_fold l _ fun d hd => h d (List.mem_cons_of_mem _ hd), low_char h0 h1]
    simp
theorem low_repr {z : Str} (h : Low z) : tl (reprText z) = 39 :: (tl z ++ [39]) := by
  have q : reprQuote z = 39 := by
    unfold reprQuote
    have no : z.cps.contains 39 = false := by
      cases e : z.cps.contains 39 with
      | false => rfl
      | true =>
        have m := Array.contains_iff_mem.mp e
        have := h 39 (Array.mem_toList_iff.mpr m)
        omega
    rw [no] <;> rfl
  unfold reprText
  rw [q, ← Array.foldl_toList, low_fold z.cps.toList #[39] h]
  show (((#[39] ++ z.cps.toList.toArray).push 39).toList) = _
  simp [tl]
theorem low_inj {a b : Str} (ha : Low a) (hb : Low b) (e : reprText a = reprText b) : a = b := by
  have z := congrArg tl e
  rw [low_repr ha, low_repr hb] at z
  have z := (List.cons.inj z).2
  exact ext_tl ((List.append_left_inj _).mp z)
theorem NameL.low {z : Str} (h : NameL z ∨ z = "") : Low z := by
  rcases h with h | rfl
  · exact h.1
  · intro c hc
    cases hc
/-- what is shown of a key -/
def keyD : Key → PyData
  | .inl i => .int i
  | .inr z => .str z
def shK (k : Key) : Str := (keyD k).shown
theorem shK_str (z : Str) : shK (Sum.inr z) = reprText z := by
  unfold shK keyD
  simp only [PyData.shown]
theorem three_ne {z : Str} (h : Low z) : shK (Sum.inl 3) ≠ reprText z := fun e => by
  have e3 : tl (shK (Sum.inl 3)) = [51] := by decide +kernel
  have z := congrArg tl e
  rw [low_repr h, e3] at z
  cases z
theorem shK_inj {k k' : Key} (h : KeyB k) (h' : KeyB k') (e : shK k = shK k') : k = k' := by
  cases k with
  | inl i =>
    obtain rfl : i = 3 := h
    cases k' with
    | inl j => rw [show j = 3 from h']
    | inr z =>
      rw [shK_str] at e
      exact absurd e (three_ne (NameL.low h'))
  | inr z =>
    cases k' with
    | inl j =>
      obtain rfl : j = 3 := h'
      rw [shK_str] at e
      exact absurd e.symm (three_ne (NameL.low h))
    | inr z' =>
      rw [shK_str, shK_str] at e
      rw [low_inj (NameL.low h) (NameL.low h') e]
/-- the same texts: as many keys, and all names are there -/
theorem shown_perm {ks : List Key} {ns : List Str} (nd : ks.Nodup) (kb : ∀ k ∈ ks, KeyB k) (nn : ns.Nodup) (hn : ∀ z ∈ ns, NameL z) : (ks.map shK).Perm (ns.map fun z => shK (Sum.inr z)) ↔ ks.length = ns.length ∧ ∀ a ∈ ns, Sum.inr a ∈ ks := by
  constructor
  · intro p
    refine ⟨by have := p.length_eq; rw [List.length_map, List.length_map] at this; exact this, fun a ha => ?_⟩
    obtain ⟨k, hk, e⟩ := List.mem_map.mp (p.mem_iff.mpr (List.mem_map.mpr ⟨a, ha, rfl⟩))
    rw [← shK_inj (kb k hk) (k' := Sum.inr a) (.inl (hn a ha)) e]
    exact hk
  · rintro ⟨hl, h⟩
    have p : (ns.map (Sum.inr (α := Int))).Perm ks := subset_perm (List.Pairwise.map _ (fun a b n e => n (Sum.inr.inj e)) nn) (fun k hk => by
      obtain ⟨a, ha, rfl⟩ := List.mem_map.mp hk
      exact h a ha) (by rw [List.length_map]; omega)
    have q := p.map shK
    rw [List.map_map] at q
    exact q.symm
end FT


/-! == of two dicts of parents (plain) -/
namespace FT
open PySem L2 TL ClX
theorem ascOne {ts us : List (Str × Str)} (o : TreeOk ts) (p : ts.Perm us) (a : Asc ts) (b : Asc us) : ts = us := by
  have e : ts.map Prod.fst = us.map Prod.fst := sorted_one (p.map _) a b
  have ou : (us.map Prod.fst).Nodup := (p.map _).nodup_iff.mp o.nd
  refine List.ext_getElem? fun i => ?_
  have ei := congrArg (fun l => l[i]?) e
  simp only [List.getElem?_map] at ei
  cases h : ts[i]? with
  | none =>
    rw [h] at ei
    cases h' : us[i]? with
    | none => rfl
    | some y =>
      rw [h'] at ei
      cases ei
  | some x =>
    rw [h] at ei
    cases h' : us[i]? with
    | none =>
      rw [h'] at ei
      cases ei
    | some y =>
      rw [h'] at ei
      have e1 : x.1 = y.1 := Option.some.inj ei
      have mx : x ∈ us := p.mem_iff.mp (List.mem_of_getElem? h)
      have my : y ∈ us := List.mem_of_getElem? h'
      have : x = y := by
        have pw := List.pairwise_map.mp (List.nodup_iff_pairwise_ne.mp ou)
        exact Classical.byContradiction fun ne => by
          obtain ⟨j, hj⟩ := List.mem_iff_getElem?.mp mx
          have lj := (List.getElem?_eq_some_iff.mp hj).1
          have li := (List.getElem?_eq_some_iff.mp h').1
          have ej := (List.getElem?_eq_some_iff.mp hj).2
          have eii := (List.getElem?_eq_some_iff.mp h').2
          rcases Nat.lt_trichotomy i j with c | c | c
          · exact (List.pairwise_iff_getElem.mp pw i j li lj c) (by rw [eii, ej, e1])
          · subst c
            exact ne (ej.symm.trans eii)
          · exact (List.pairwise_iff_getElem.mp pw j i lj li c) (by rw [eii, ej, e1])
      rw [this]
end FT


/-! Assignment.__eq__ -/
namespace FT
open PySem L2 TL ClX LiI
def RAs (CF CA : Addr) : Addr → Addr → Hp → Prop := fun a b H => ∃ x ts zs, AAt CA H a x zs ∧ AAt CA H b x zs ∧ FAt CF H x ts ∧ TreeOk ts ∧ ∀ z ∈ zs, Pl ts z
theorem pl_strOk {ts : List (Str × Str)} (o : TreeOk ts) {z : Str} (h : Pl ts z) : PyData.strOk z = true := h.elim (fun e => by rw [e]; exact strOk_root) fun m => strOk_name (o.nm _ m)
section
variable {P : Program} {w : World} {K : PySem.W.Frag} {mg : Str → Option Value} {base : Heap}
end
end FT


/-! _law_shown: whether a rollout has these lists -/
namespace FT
open PySem L2 TL ClX LiI
structure WShL (P : Program) (w : World) (K : PySem.W.Frag) (mg : Str → Option Value) (base : Heap) (CF CR CA : Addr) (mc mcR mcA : Value) (f g : Nat → Addr) (fd : Nat → FuncData) : Prop where
  Z : Fc K mg CF mc
  R : RoC K mg CR mcR
  B : Ac K mg CA mcA
  pL : PrN P w K mg base 1 CR "lists" (spRLists CF CR) (g 0) (f 0) (fd 0)
  pD : PrN P w K mg base 1 CR "depth" (spRDepth CF CR) (g 1) (f 1) (fd 1)
  pT : PrN P w K mg base 1 CR "total" (spRTotal CF CR) (g 2) (f 2) (fd 2)
  pS : PrN P w K mg base 4 CR "sizes" (spRSizes CF CR) (g 3) (f 3) (fd 3)
  pA : PrN P w K mg base 3 CR "assignment" (spRAsg CF CR CA) (g 4) (f 4) (fd 4)
  pF : PrN P w K mg base 1 CR "forest" (spRForest CF CR) (g 5) (f 5) (fd 5)
  aP : PrN P w K mg base 1 CA "places" (spAPlaces CA) (g 6) (f 6) (fd 6)
  aF : PrN P w K mg base 1 CA "forest" (spAForest CA) (g 7) (f 7) (fd 7)
  fe : FnOk P w K mg base CX0 1 (f 8) (fd 8) ["self", "other"] (spEq (RFo CF))
  feb : Binds K (fd 8) ["self", "other"] []
  fea : PySem.W.findIn K (.ref CF) "__eq__" = some (some (.ref (f 8)))
  fei : PySem.W.isFn K (.ref (f 8)) = true
  fi : FnOk P w K mg base CX0 3 (f 9) (fd 9) ["self", "parents"] (spFInit CF)
  fim : Mk K CF (f 9)
  fib : Binds K (fd 9) ["self", "parents"] []
  pl : Dn P w K mg base CX0 1 "_law_places" ["_law_shelf"] spLPlaces (f 10) (fd 10)
  cd : Dn P w K mg base CX0 2 "_law_counted" ["_law_parents", "_law_places_here"] spCounted (f 11) (fd 11)
def spShown (CF CR : Addr) : Sp := fun vs H Q _ => ∃ (y z x q sh : Addr) (dep : Int) (Ex : List Addr) (t ts : List (Str × Str)) (r : Str → Addr) (L : Str → List Int) (ps : List (Str → Int)) (n : Nat), vs = [.ref y, .ref q, .ref sh, .int dep] ∧ RollAt CF CR Ex H y z x ts L ps ∧ H q = some (.dK (prs t)) ∧ TreeOk t ∧ ts.Perm t ∧ Asc ts ∧ LsAt H sh (pls ts) r L ∧ Val ts n L ∧ 1 ≤ n ∧ n ≤ 60 ∧ dep = (ps.length : Int) ∧
  ∀ H', Same H H' → Q (.bl true) H'
abbrev NSl : List Str := ["_law_rollout", "_law_parents", "_law_shelf", "_law_depth", "_law_places_here", "_law_told", "_law_more"]
section
variable {P : Program} {w : World} {K : PySem.W.Frag} {mg : Str → Option Value} {base : Heap}
theorem scSl : FnScope NSl ["_law_rollout", "_law_parents", "_law_shelf", "_law_depth"] (defScope s__law_shown) := ⟨rfl, rfl, rfl, by decide +kernel, rfl, by decide +kernel, by decide +kernel⟩
theorem ok_shownL {f0 CF CR CA : Addr} {mc mcR mcA : Value} {f g : Nat → Addr} {fd : Nat → FuncData} {fd0 : FuncData} (F : Fun K "_law_shown" "_law_shown" s__law_shown f0 fd0) (N : Nm mg) (L : WShL P w K mg base CF CR CA mc mcR mcA f g fd) : FnG P w K mg base CX0 6 f0 fd0 ["_law_rollout", "_law_parents", "_law_shelf", "_law_depth"] (spShown CF CR) := by
  refine F.okG scSl (fun vs H Q E h => ?_) (fun cdv A outer s H vs Q E clr hr h => ?_)
  · obtain ⟨y, z, x, q, sh, dep, Ex, t, ts, r, LL, ps, n, rfl, _⟩ := h
    rfl
  · obtain ⟨y, z, x, q, sh, dep, Ex, t, ts, r, LL, ps, n, rfl, ra, hq, o, pm, asc, hL, hV, n1, n60, ed, k⟩ := h
    have hu := hu_of hr
    have hr1 : Room 1 _ := hr.mono (by decide)
    have hr2 : Room 2 _ := hr.mono (by decide)
    have hr4 : Room 4 _ := hr.mono (by decide)
    have nd := scSl.nd
    have big : 1000 ≤ sizeLine := by decide
    have ot : TreeOk ts := o.perm pm.symm
    refine ⟨_, pss_cons (ps_set (i := 4) nd rfl (.inl rfl) (pe_call L.pl.ok hr1 rfl L.pl.mgn L.pl.kp L.pl.bn .nil pass0 (pa_cons (pv 2) pa_nil)))
      (pss_cons (ps_if (PW.pt (pw_or (pt_cmpR op_ne (pe_callB (call_reprD clr.deeper hr.units) (by rfl) N.rep (by decide +kernel) (pa_cons (pe_prop (pv 0) L.R.cl L.pL.pr L.pL.fn hr2 L.pL.bn .nil pass0 (by rfl)) pa_nil)) (pe_callB (call_reprD clr.deeper hr.units) (by rfl) N.rep (by decide +kernel) (pa_cons (pv 2) pa_nil)) (nomark _))
          (pw_or (pt_cmpR op_ne (pe_prop (pv 0) L.R.cl L.pD.pr L.pD.fn hr2 L.pD.bn .nil pass0 (by rfl)) (pv 3) (nomark _))
          (pw_or1 (pt_cmpR op_ne (pe_prop (pv 0) L.R.cl L.pT.pr L.pT.fn hr2 L.pT.bn .nil pass0 (by rfl)) (pe_callB call_len_seq (by rfl) N.len PySem.boot_len (pa_cons (pv 4) pa_nil)) (nomark _)))))) (pss_one (ps_ret pe_bl)) pss_nil)
      (pss_cons (ps_if (PW.pt (pw_or (pt_cmpR op_ne (pe_callB (call_reprD clr.deeper hr.units) (by rfl) N.rep (by decide +kernel) (pa_cons (pe_prop (pv 0) L.R.cl L.pS.pr L.pS.fn hr L.pS.bn .nil pass0 (by rfl)) pa_nil)) (pe_callB (call_reprD clr.deeper hr.units) (by rfl) N.rep (by decide +kernel) (pa_cons (pe_call L.cd.ok hr2 rfl L.cd.mgn L.cd.kp L.cd.bn .nil pass0 (pa_cons (pv 1) (pa_cons (pv 4) pa_nil))) pa_nil)) (nomark _))
          (pw_or1 (pt_cmpR (op_neD hr.units) (pe_prop (pe_prop (pv 0) L.R.cl L.pA.pr L.pA.fn hr4 L.pA.bn .nil pass0 (by rfl)) L.B.cl L.aP.pr L.aP.fn hr2 L.aP.bn .nil pass0 (by rfl)) (pv 4) (nomark _))))) (pss_one (ps_ret pe_bl)) pss_nil)
      (pss_cons (ps_par (i := 5) (j := 6) rfl nd rfl rfl (by decide) rfl rfl (pa_cons (pe_prop (pv 0) L.R.cl L.pL.pr L.pL.fn hr2 L.pL.bn .nil pass0 (by rfl)) (pa_cons (pe_prop (pv 0) L.R.cl L.pS.pr L.pS.fn hr L.pS.bn .nil pass0 (by rfl)) pa_nil)) (by rfl))
      (pss_cons (ps_expr (pe_bm PySem.F.plainAttrs_list PySem.F.slot_list_append PySem.F.type_list_append mt_append (pe_dget hu (pv 5) pe_str (fun _ _ => rfl)) (pa_cons pe_int pa_nil)))
      (pss_cons (ps_expr (pe_clearO (pv 5)))
      (pss_cons (ps_expr (pe_clearO (pv 6)))
      (pss_cons (ps_if (pt_cmpR op_ne (pe_callB (call_reprD clr.deeper hr.units) (by rfl) N.rep (by decide +kernel) (pa_cons (pe_prop (pv 0) L.R.cl L.pS.pr L.pS.fn hr L.pS.bn .nil pass0 (by rfl)) pa_nil)) (pe_callB (call_reprD clr.deeper hr.units) (by rfl) N.rep (by decide +kernel) (pa_cons (pe_call L.cd.ok hr2 rfl L.cd.mgn L.cd.kp L.cd.bn .nil pass0 (pa_cons (pv 1) (pa_cons (pv 4) pa_nil))) pa_nil)) (nomark _)) (pss_one (ps_ret pe_bl)) pss_nil)
      (pss_one (ps_ret (pe_and (pe_cmpR (DaS.op_eq_dictD hr.units) (pe_prop (pv 0) L.R.cl L.pL.pr L.pL.fn hr2 L.pL.bn .nil pass0 (by rfl)) (pv 2) (nomark _))
        (pe_and (pe_cmpR (op_eqG (rcG_ins (C := CF) (E := E0) L.fe L.fea L.fei L.feb pass0) hr1) (pe_prop (pv 0) L.R.cl L.pF.pr L.pF.fn hr2 L.pF.bn .nil pass0 (by rfl)) (pe_make L.fim L.fi hr4 (by rfl) L.Z.gF L.fib .nil pass0 (pa_cons (pv 1) pa_nil)) (nomark _))
        (pe_one (pe_cmpR (op_eqG (rcG_ins (C := CF) (E := E0) L.fe L.fea L.fei L.feb pass0) hr1) (pe_prop (pe_prop (pv 0) L.R.cl L.pA.pr L.pA.fn hr4 L.pA.bn .nil pass0 (by rfl)) L.B.cl L.aF.pr L.aF.fn hr2 L.aF.bn .nil pass0 (by rfl)) (pe_prop (pv 0) L.R.cl L.pF.pr L.pF.fn hr2 L.pF.bn .nil pass0 (by rfl)) (nomark _)))))))))))))), ?_⟩
    obtain ⟨zs, ezs⟩ : ∃ zs, zs = (usr n).map (plOf ts LL) := ⟨_, rfl⟩
    have lzs : zs.length = n := by rw [ezs]; exact plZ_len ts n LL
    have plz : ∀ z ∈ zs, Pl ts z := by rw [ezs]; exact plZ_pl hV
    have ptk : ∀ a, a ∈ ts.map Prod.fst ↔ a ∈ t.map Prod.fst := fun a => (pm.map Prod.fst).mem_iff
    have plT : ∀ z ∈ zs, Pl t z := fun z hz => (plz z hz).imp id fun m => (ptk z).mp m
    have bnd : ∀ a ∈ ts.map Prod.fst, 0 ≤ lsz ts LL a ∧ lsz ts LL a ≤ 60 := fun a ha => by
      have := lsz_bd ot hV ha
      omega
    have szE : ∀ a ∈ ts.map Prod.fst, szZ t zs a = lsz ts LL a := fun a ha => by
      have e : szZ t zs a = szZ ts zs a := by
        unfold szZ
        congr 3
        funext y
        rw [path_perm o.nd pm.symm]
      rw [e, ezs, szZ_plZ ot hV ha]
    -- the places
    refine ⟨_, rfl, sh, ts, r, LL, n, rfl, ot, hL, hV, n60, fun pz H1 s1 npz hpz => ?_⟩
    rw [← ezs] at hpz
    obtain ⟨dy, qy, hy0⟩ := ra.ins
    -- what stands at every later heap
    have hyA : ∀ {H'}, Same H1 H' → H' y = some (.ins CR dy (rFs x qy z)) := fun s => s _ _ (s1 _ _ hy0)
    have raA : ∀ {H'}, Same H1 H' → RollAt CF CR Ex H' y z x ts LL ps := fun s => (ra.mono s1).mono s
    have hqA : ∀ {H'}, Same H1 H' → H' q = some (.dK (prs t)) := fun s => s _ _ (s1 _ _ hq)
    have hLA : ∀ {H'}, Same H1 H' → LsAt H' sh (pls ts) r LL := fun s => (hL.mono s1).mono s
    have zA : ∀ {H'}, Same H1 H' → H' pz = some (.lst (zs.map V.str)) := fun s => s _ _ hpz
    have s11 : Same H1 H1 := Same.refl
    refine ⟨_, rfl, y, dy, _, rfl, hyA s11, y, z, x, _, ts, LL, _, rfl, raA s11, ot, fun q2 r2 H2 s2 nq2 nr2 hL2 => ?_⟩
    obtain ⟨v1, v2, v3, v4, v5⟩ := ls_repr (K := K) ot hV n60 hL2
    refine ⟨q2, lsE (pls ts) r2 LL, rfl, v1, v2, v3, v4, v5, ?_⟩
    obtain ⟨w1, w2, w3, w4, w5⟩ := ls_repr (K := K) ot hV n60 (hLA s2)
    refine ⟨_, rfl, sh, lsE (pls ts) r LL, rfl, w1, w2, w3, w4, w5, rfl, _, rfl, ?_⟩
    rw [lsE_D, lsE_D, decide_eq_true rfl]
    refine iteF ?_
    refine ⟨_, rfl, y, dy, _, rfl, hyA s2, y, z, x, _, ts, LL, _, rfl, raA s2, ?_⟩
    refine ⟨_, rfl, rfl, _, rfl, ?_⟩
    rw [decide_eq_true (show V.int (ps.length : Int) = V.int dep by rw [ed])]
    refine iteF ?_
    refine ⟨_, rfl, y, dy, _, rfl, hyA s2, y, z, x, _, ts, LL, _, n, rfl, raA s2, ot, hV, fun H3 s23 => ⟨_, rfl, pz, _, rfl, .inl (SqL.of (zA (s2.trans s23))), rfl, _, rfl, ?_⟩⟩
    rw [decide_eq_true (show V.int (n : Int) = V.int ((zs.map V.str).length : Int) by rw [List.length_map, lzs])]
    refine iteF ?_
    have s3 := s2.trans s23
    have szEq : ∀ ks : List Str, ks = ts.map Prod.fst → szEn ks (szZ t zs) = szEn (ts.map Prod.fst) (lsz ts LL) := fun ks e => by
      rw [e]
      unfold szEn
      exact List.map_congr_left fun a ha => by rw [szE a ha]
    have plsz : TreeOk t := o
    -- the sizes
    refine ⟨_, rfl, y, dy, _, rfl, hyA s3, y, z, x, _, ts, LL, _, rfl, raA s3, ot, fun p4 H4 s34 np4 hp4 => ?_⟩
    have s4 := s3.trans s34
    obtain ⟨a1, a2, a3, a4, a5⟩ := sz_repr (K := K) ot (.refl _) bnd hp4
    refine ⟨p4, szEn (ts.map Prod.fst) (lsz ts LL), rfl, a1, a2, a3, a4, a5, ?_⟩
    refine ⟨_, rfl, _, rfl, q, pz, t, zs, rfl, hqA s4, o, zA s4, plT, fun ks p5 H5 s45 np5 pks srt hp5 => ?_⟩
    obtain rfl : ks = ts.map Prod.fst := sorted_one (pks.trans (pm.map _).symm) srt asc
    have s5 := s4.trans s45
    obtain ⟨b1, b2, b3, b4, b5⟩ := sz_repr (K := K) o pks (fun a ha => by rw [szE a ha]; exact bnd a ha) hp5
    refine ⟨p5, szEn (ts.map Prod.fst) (szZ t zs), rfl, b1, b2, b3, b4, b5, rfl, _, rfl, ?_⟩
    rw [szEq _ rfl, decide_eq_true rfl]
    refine iteF ?_
    -- the assignment's places
    refine ⟨_, rfl, y, dy, _, rfl, hyA s5, y, z, x, _, ts, LL, _, n, rfl, raA s5, ot, hV, n1, n60, fun a6 H6 s56 na6 aa6 => ?_⟩
    rw [← ezs] at aa6
    have s6 := s5.trans s56
    obtain ⟨da, pa, haa, hpa⟩ := id aa6
    have sh := strs_shaped (ts := zs) fun z hz => pl_strOk ot (plz z hz)
    refine ⟨a6, da, _, rfl, haa, a6, x, zs, rfl, aa6, fun p7 np7 => ?_⟩
    have s67 := same_new (o := .lst (zs.map V.str)) np7
    refine ⟨_, rfl, .list (zs.map PyData.str), .list (zs.map PyData.str), .lst (SqL.of upd_same) (dps_strs zs), .lst (SqL.of (zA (s6.trans s67))) (dps_strs zs), sh, sh, _, rfl, ?_⟩
    rw [SeqAt.eqv_refl _ (SeqAt.canLay_of_shaped sh)]
    refine iteF ?_
    obtain ⟨H7, e7⟩ : ∃ X, X = upd H6 p7 (.lst (zs.map V.str)) := ⟨_, rfl⟩
    have s7 : Same H1 H7 := by rw [e7]; exact s6.trans s67
    rw [← e7]
    clear e7 s67
    -- told, more
    refine ⟨_, rfl, y, dy, _, rfl, hyA s7, y, z, x, _, ts, LL, _, rfl, raA s7, ot, fun q8 r8 H8 s78 nq8 nr8 hL8 => ?_⟩
    have s8 := s7.trans s78
    refine ⟨_, rfl, y, dy, _, rfl, hyA s8, y, z, x, _, ts, LL, _, rfl, raA s8, ot, fun p9 H9 s89 np9 hp9 => ?_⟩
    have s9 := s8.trans s89
    have hL9 := hL8.mono s89
    refine ⟨_, _, rfl, ?_⟩
    have rt : ("" : Str) ∈ pls ts := List.mem_cons_self ..
    have q80 : H1 q8 = none := s7.free nq8
    have r80 : H1 (r8 "") = none := s7.free (nr8 _ rt)
    have p90 : H1 p9 = none := s8.free np9
    have L60 : (LL "").length ≤ 60 := by
      have := nat_sumL (f := LL) rt
      rw [val_len hV] at this
      omega
    refine ⟨_, rfl, q8, .ref (r8 ""), rfl, LsAt.get hL9 rt, .inl ⟨rfl, _, SqL.of (hL9.2 _ rt)⟩, r8 "", _, _, rfl, rfl, hL9.2 _ rt, by rw [List.length_map]; omega, ?_⟩
    obtain ⟨H10, e10⟩ : ∃ X, X = upd H9 (r8 "") (.lst ((LL "").map V.int ++ [.int 99])) := ⟨_, rfl⟩
    have s10 : Same H1 H10 := by rw [e10]; exact s9.put r80
    have hq10 : H10 q8 = some (.dK (tblV (pls ts) fun p => .ref (r8 p))) := by rw [e10, upd_ne (ne_of hL9.1 (hL9.2 _ rt) (by intro z; cases z))]; exact hL9.1
    have hp10 : H10 p9 = some (.dK (tblI (ts.map Prod.fst) (lsz ts LL))) := by rw [e10, upd_ne (ne_of hp9 (hL9.2 _ rt) (by intro z; cases z))]; exact hp9
    rw [← e10]
    clear e10
    have pq : p9 ≠ q8 := (ne_of_none hL8.1 np9).symm
    refine ⟨_, rfl, q8, _, _, rfl, hq10, .inl ⟨_, rfl, rfl⟩, fun o1 _ => ?_⟩
    have hp11 : (upd H10 q8 o1) p9 = some (.dK (tblI (ts.map Prod.fst) (lsz ts LL))) := (upd_ne pq).trans hp10
    have s11' : Same H1 (upd H10 q8 o1) := s10.put q80
    refine ⟨_, rfl, p9, _, _, rfl, hp11, .inl ⟨_, rfl, rfl⟩, fun o2 _ => ?_⟩
    obtain ⟨H12, e12⟩ : ∃ X, X = upd (upd H10 q8 o1) p9 o2 := ⟨_, rfl⟩
    have s12 : Same H1 H12 := by rw [e12]; exact s11'.put p90
    rw [← e12]
    clear e12
    -- the sizes again
    refine ⟨_, rfl, y, dy, _, rfl, hyA s12, y, z, x, _, ts, LL, _, rfl, raA s12, ot, fun p13 H13 s1213 np13 hp13 => ?_⟩
    have s13 := s12.trans s1213
    obtain ⟨a1, a2, a3, a4, a5⟩ := sz_repr (K := K) ot (.refl _) bnd hp13
    refine ⟨p13, szEn (ts.map Prod.fst) (lsz ts LL), rfl, a1, a2, a3, a4, a5, ?_⟩
    refine ⟨_, rfl, _, rfl, q, pz, t, zs, rfl, hqA s13, o, zA s13, plT, fun ks p14 H14 s1314 np14 pks srt hp14 => ?_⟩
    obtain rfl : ks = ts.map Prod.fst := sorted_one (pks.trans (pm.map _).symm) srt asc
    have s14 := s13.trans s1314
    obtain ⟨b1, b2, b3, b4, b5⟩ := sz_repr (K := K) o pks (fun a ha => by rw [szE a ha]; exact bnd a ha) hp14
    refine ⟨p14, szEn (ts.map Prod.fst) (szZ t zs), rfl, b1, b2, b3, b4, b5, rfl, _, rfl, ?_⟩
    rw [szEq _ rfl, decide_eq_true rfl]
    refine iteF ?_
    -- the lists, the forest
    refine ⟨_, rfl, y, dy, _, rfl, hyA s14, y, z, x, _, ts, LL, _, rfl, raA s14, ot, fun q15 r15 H15 s1415 nq15 nr15 hL15 => ?_⟩
    have s15 := s14.trans s1415
    refine ⟨_, rfl, deq_lists (hLA s15) hL15 (fun _ _ => rfl), true, rfl, ?_⟩
    show if true = true then _ else _
    rw [if_pos rfl]
    refine ⟨_, rfl, y, dy, _, rfl, hyA s15, y, z, x, _, ts, LL, _, rfl, raA s15, ?_⟩
    refine ⟨_, rfl, fun xf df nxf ndf dxf => ?_⟩
    have sN : Same H15 (upd (upd H15 df (.own xf)) xf (.ins CF df [])) := fun b u e => by
      rw [upd_ne (ne_of_none e nxf), upd_ne (ne_of_none e ndf)]
      exact e
    refine ⟨xf, q, df, t, rfl, upd_same, sN _ _ (hqA s15), o, fun H16 us pus asc' fa' oth => ⟨rfl, ?_⟩⟩
    obtain rfl : us = ts := ascOne (o.perm pus.symm) (pus.trans pm.symm) asc' asc
    have s1516 : Same H15 H16 := fun b u e => oth b u (ne_of_none e nxf) (sN _ _ e)
    have s16 := s15.trans s1516
    have fa := (raA s16).fa
    obtain ⟨dx, dq, hx, hd⟩ := id fa
    obtain ⟨dx', dq', hx', hd'⟩ := id fa'
    refine ⟨⟨x, xf, dx, dx', _, _, rfl, rfl, hx, hx', us, fa, fa', ot⟩, fun H17 e17 => ⟨true, rfl, ?_⟩⟩
    show if true = true then _ else _
    rw [if_pos rfl]
    have s17 : Same H1 H17 := s16.trans fun b u e => e17 b u e
    refine ⟨_, rfl, y, dy, _, rfl, hyA s17, y, z, x, _, us, LL, _, n, rfl, raA s17, ot, hV, n1, n60, fun a18 H18 s1718 na18 aa18 => ?_⟩
    have s18 := s17.trans s1718
    obtain ⟨da2, pa2, haa2, hpa2⟩ := id aa18
    refine ⟨a18, da2, _, rfl, haa2, a18, x, _, rfl, aa18, ?_⟩
    refine ⟨_, rfl, y, dy, _, rfl, hyA s18, y, z, x, _, us, LL, _, rfl, raA s18, ?_⟩
    have fa18 := (raA s18).fa
    obtain ⟨dx3, dq3, hx3, hd3⟩ := id fa18
    exact ⟨⟨x, x, dx3, dx3, _, _, rfl, rfl, hx3, hx3, us, fa18, fa18, ot⟩, fun H19 e19 => k H19 (s1.trans (s18.trans fun b u e => e19 b u e))⟩
end
end FT


/-! [repr(k) for k in d] -/
namespace FT
open PySem L2 TL ClX
/-- a key and what is shown of it -/
def ShT (H : Hp) (x : V) (w : Str) : Prop := ∃ d : PyData, d.shown = w ∧ ((x = .non ∧ d = .none) ∨ (∃ z, x = .str z ∧ (NameL z ∨ z = "") ∧ d = .str z) ∨ (x = .int 3 ∧ d = .int 3) ∨ ∃ c, x = .ref c ∧ H c = some (.tup [.str "a"]) ∧ d = .tuple [.str "a"])
theorem low_len {z : Str} (h : Low z) : (reprText z).length = z.length + 2 := by
  rw [len_tl, low_repr h, len_tl, List.length_cons, List.length_append] <;> rfl
theorem low_ok {z : Str} (h : Low z) : PyData.strOk (reprText z) = true := by
  unfold PyData.strOk
  simp only [Bool.and_eq_true, decide_eq_true_eq, Array.all_eq_true_iff_forall_mem]
  intro c hc
  have m : c ∈ tl (reprText z) := Array.mem_toList_iff.mpr hc
  rw [low_repr h] at m
  simp only [List.mem_cons, List.mem_append, List.not_mem_nil, or_false] at m
  rcases m with rfl | m | rfl
  · omega
  · have := h c m
    omega
  · omega
theorem ShT.facts {K : PySem.W.Frag} {H : Hp} {x : V} {w : Str} (h : ShT H x w) : PyData.strOk w = true ∧ ∃ d, Shw K H x d ∧ d.showable = true ∧ d.depth ≤ 60 ∧ d.shown = w ∧ w.length ≤ 20 := by
  obtain ⟨d, e, h⟩ := h
  rcases h with ⟨rfl, rfl⟩ | ⟨z, rfl, hz, rfl⟩ | ⟨rfl, rfl⟩ | ⟨c, rfl, hc, rfl⟩
  · refine ⟨by rw [← e]; decide +kernel, .none, .inl ⟨.non, rfl⟩, by decide +kernel, by decide +kernel, e, by rw [← e]; decide +kernel⟩
  · have lw := NameL.low hz
    have e' : w = reprText z := by rw [← e]; simp only [PyData.shown]
    refine ⟨by rw [e']; exact low_ok lw, .str z, .inl ⟨.str z, rfl⟩, rfl, by show 0 ≤ 60; omega, e, ?_⟩
    rw [e', low_len lw]
    rcases hz with hz | rfl
    · have := hz.len
      omega
    · show 0 + 2 ≤ 20
      omega
  · refine ⟨by rw [← e]; decide +kernel, .int 3, .inl ⟨.int 3, rfl⟩, by decide +kernel, by decide +kernel, e, by rw [← e]; decide +kernel⟩
  · refine ⟨by rw [← e]; decide +kernel, .tuple [.str "a"], .inl ⟨.tup (.inl (.inl hc)) (.cons (.str _) .nil), rfl⟩, by decide +kernel, by decide +kernel, e, by rw [← e]; decide +kernel⟩
theorem ShT.mono {H H' : Hp} {x : V} {w : Str} (k : ∀ c xs, H c = some (.tup xs) → H' c = some (.tup xs)) (h : ShT H x w) : ShT H' x w := by
  obtain ⟨d, e, h⟩ := h
  refine ⟨d, e, ?_⟩
  rcases h with h | h | h | ⟨c, h1, h2, h3⟩
  · exact .inl h
  · exact .inr (.inl h)
  · exact .inr (.inr (.inl h))
  · exact .inr (.inr (.inr ⟨c, h1, k _ _ h2, h3⟩))
theorem eqv_txt (a b : Str) : PyData.eqv (.str a) (.str b) = decide (a = b) := by
  simp only [PyData.eqv]
  rw [Bool.eq_iff_iff, beq_iff_eq, decide_eq_true_iff]
theorem eqv_txts : ∀ a b : List Str, PyData.eqvAll (a.map .str) (b.map .str) = decide (a = b)
  | [], [] => by simp [PyData.eqvAll]
  | [], _ :: _ => by simp [PyData.eqvAll]
  | _ :: _, [] => by simp [PyData.eqvAll]
  | x :: a, y :: b => by
    simp only [List.map_cons, PyData.eqvAll]
    rw [eqv_txt, eqv_txts a b, Bool.eq_iff_iff, Bool.and_eq_true]
    simp only [decide_eq_true_iff, List.cons.injEq]
theorem eqv_txtL (a b : List Str) : PyData.eqv (.list (a.map .str)) (.list (b.map .str)) = decide (a = b) := by
  simp only [PyData.eqv]
  exact eqv_txts a b
/-- the list of what is shown of a dict's keys -/
theorem shown_list {K : PySem.W.Frag} {σ : St} {H : Hp} {q : Addr} {u : HO} {rows : List (V × V)} {ws : List Str} {i j : Nat} {Q : VK} (hσ : σ[i]? = some (some (.ref q))) (hj : j < σ.length) (hq : H q = some u) (ro : RowsO q u rows) (few : rows.length ≤ 13) (pw : Paired (fun (r : V × V) w => ShT H r.1 w) rows ws)
    (k : ∀ D H', Same H H' → H D = none → H' D = some (.lst (ws.map V.str)) → Q (.ref D) H') : tLockE (tLc (iKeysO (tVar i)) (gName j) tYes (tCB (rRepr K) (tCons (tVar j) tNil)) [j]) σ H Q := by
  have big : 1000 ≤ sizeLine := by decide
  have lw := Paired.length pw
  have nt : ∀ xs, u ≠ .tup xs := fun xs e => by
    rcases ro with ⟨_, rfl, _⟩ | rfl <;> cases e
  refine ⟨q, u, hq, ro.mut, fun od => ⟨_, hσ, q, od, u, rows, rfl, upd_same, ro, fun J wk D nD => ?_⟩⟩
  obtain ⟨H0, e0⟩ : ∃ X, X = upd H q (.frz od u) := ⟨_, rfl⟩
  have hq0 : H0 q = some (.frz od u) := by rw [e0]; exact upd_same
  have pw0 : Paired (fun (r : V × V) w => ShT H0 r.1 w) rows ws := Paired.mapP pw fun r w h => h.mono fun c xs e => by
    rw [e0, upd_ne (ne_of e hq fun z => nt _ z.symm)]
    exact e
  have Dq : D ≠ q := (ne_of_none upd_same nD).symm
  have nDH : H D = none := by rw [upd_ne Dq] at nD; exact nD
  rw [← e0] at nD ⊢
  refine lc_it wk (fun m H' => Same H0 H' ∧ H' D = some (.lst ((ws.take m).map V.str))) ⟨same_new nD, upd_same⟩ (fun m H' _ z => z.1 _ _ hq0) ?_ ?_
  · intro m x Ha Hb hm ⟨q1, q2⟩ ⟨eb, v, hv⟩
    subst eb
    obtain ⟨w, hw, sh⟩ := paired_at pw0 hv
    obtain ⟨ok, d, s1, s2, s3, s4, s5⟩ := (sh.mono (H' := Hb) fun c xs e => q1 _ _ e).facts (K := K)
    refine ⟨by show (((σ.set j none).set j (some x)).set j none) = σ.set j none; rw [List.set_set, List.set_set], ?_⟩
    have hs : ((σ.set j none).set j (some x))[j]? = some (some x) := by
      exact List.getElem?_set_self (by rw [List.length_set]; exact hj)
    have sl : d.shown.length ≤ sizeLine := by rw [s4]; omega
    refine ⟨x, hs, x, d, rfl, s1, s2, s3, sl, _, q2, ?_, Same.put q1 nD, ?_⟩
    · rw [List.length_map, List.length_take]
      omega
    · rw [upd_same, s4, take_more hw, List.map_append] <;> rfl
  · intro H3 ⟨q1, q2⟩
    rw [lw, List.take_length] at q2
    refine ⟨q1 _ _ hq0, ?_⟩
    refine k D _ (fun b o e => ?_) nDH (by rw [upd_ne Dq]; exact q2)
    by_cases eb : b = q
    · rw [eb] at e ⊢
      rw [upd_same, ← hq, e]
    · rw [upd_ne eb]
      exact q1 _ _ (by rw [e0, upd_ne eb]; exact e)
end FT


/-! _law_sizes_error -/
namespace FT
open PySem L2 TL ClX LiI
/-- what is wrong, told as a pair of a word and a place -/
def TellK (w : Str) (H : Hp) (Q : VK) : Option V → Prop
  | none => ∀ H', Same H H' → Q .non H'
  | some v => ∀ p H', Same H H' → H p = none → H' p = some (.tup [.str w, v]) → Q (.ref p) H'
def spSzErr (K : PySem.W.Frag) : Sp := fun vs H Q _ => ∃ (q : Addr) (n : Int) (sv : V) (t ts : List (Str × Str)) (o : Option (List (Key × V))), vs = [.ref q, .int n, sv] ∧ H q = some (.dK (prs t)) ∧ TreeOk t ∧ ts.Perm t ∧ Asc ts ∧ BentV K H t.length sv o ∧ TellK "sizes" H Q (feas ts n o)
theorem raw_ws {H : Hp} : ∀ {rows : List (V × V)}, (∀ r ∈ rows, RawK H r.1) → ∃ ws, Paired (fun (r : V × V) w => ShT H r.1 w) rows ws
  | [], _ => ⟨[], .nil⟩
  | r :: rows, h => by
    obtain ⟨ws, p⟩ := raw_ws (rows := rows) fun x hx => h x (List.mem_cons_of_mem _ hx)
    rcases h r List.mem_cons_self with z | ⟨y, z, hy⟩ | ⟨c, z, hc⟩
    · exact ⟨_, .cons ⟨.none, rfl, .inl ⟨z, rfl⟩⟩ p⟩
    · exact ⟨_, .cons ⟨.str y, rfl, .inr (.inl ⟨y, z, .inl hy, rfl⟩)⟩ p⟩
    · exact ⟨_, .cons ⟨.tuple [.str "a"], rfl, .inr (.inr (.inr ⟨c, z, hc, rfl⟩))⟩ p⟩
theorem dK_ws {H : Hp} : ∀ {kvs : List (Key × V)}, (∀ p ∈ kvs, KeyB p.1) → Paired (fun (r : V × V) w => ShT H r.1 w) (rowsK kvs) (kvs.map fun p => shK p.1)
  | [], _ => .nil
  | (k, v) :: kvs, h => by
    have p := dK_ws (H := H) (kvs := kvs) fun x hx => h x (List.mem_cons_of_mem _ hx)
    have kb : KeyB k := h _ List.mem_cons_self
    refine .cons ?_ p
    cases k with
    | inl i =>
      obtain rfl : i = 3 := kb
      exact ⟨.int 3, rfl, .inr (.inr (.inl ⟨rfl, rfl⟩))⟩
    | inr z => exact ⟨.str z, rfl, .inr (.inl ⟨z, rfl, kb, rfl⟩)⟩
theorem prs_ws (t : List (Str × Str)) : ((prs t).map fun p => shK p.1) = (t.map Prod.fst).map fun z => shK (Sum.inr z) := by
  unfold prs kvT
  rw [List.map_map, List.map_map, List.map_map] <;> rfl
theorem paired_ok {H : Hp} : ∀ {rows : List (V × V)} {ws : List Str}, Paired (fun (r : V × V) w => ShT H r.1 w) rows ws → ∀ w ∈ ws, PyData.strOk w = true
  | _, _, .nil, _, h => by cases h
  | _, _, .cons sh t, w, h => by
    rcases List.mem_cons.mp h with rfl | h
    · exact (sh.facts (K := default)).1
    · exact paired_ok t w h
abbrev NSe : List Str := ["_law_parents", "_law_folk", "_law_wide", "_law_key", "_law_name", "_law_place", "_law_total"]
section
variable {P : Program} {w : World} {K : PySem.W.Frag} {mg : Str → Option Value} {base : Heap}
theorem scSe : FnScope NSe ["_law_parents", "_law_folk", "_law_wide"] (defScope s__law_sizes_error) := ⟨rfl, rfl, rfl, by decide +kernel, rfl, by decide +kernel, by decide +kernel⟩
theorem ok_szErr {f : Addr} {fd : FuncData} (F : Fun K "_law_sizes_error" "_law_sizes_error" s__law_sizes_error f fd) (T : Nm mg) : FnG P w K mg base CX0 1 f fd ["_law_parents", "_law_folk", "_law_wide"] (spSzErr K) := by
  refine F.okG scSe (fun vs H Q E h => ?_) (fun cdv A outer s H vs Q E clr hr h => ?_)
  · obtain ⟨q, n, sv, t, ts, o, rfl, _⟩ := h
    rfl
  · obtain ⟨q, n, sv, t, ts, o, rfl, hq, to, pm, asc, bv, k⟩ := h
    have hu := hu_of hr
    have nd := scSe.nd
    have big : 1000 ≤ sizeLine := by decide
    have few := to.few
    refine ⟨_, pss_cons (ps_if (pt_not (pt_val (pe_callB (CallR.or call_isi call_isiR) (by rfl) T.isi (by decide +kernel) (pa_cons (pv 2) (pa_cons (pe_bltn (v := .ty "dict") (u := .type "dict") (by rfl) T.dct (by decide +kernel) rfl) pa_nil))))) (pss_one (ps_ret (pe_tup (pa_cons pe_str (pa_cons pe_non pa_nil))))) pss_nil)
      (pss_cons (ps_if (pt_cmpR (op_neD hr.units) (pe_callB cr_sortedS (by rfl) T.srt (by decide +kernel) (pa_cons (pe_lock (pe_lc (own := [("_law_key", 3)]) (g := gName 3) (tt := tYes) (te := tCB (rRepr K) (tCons (tVar 3) tNil)) rfl nd (pi_keysO (pv 2)) (blkOk_by (N := NSe) (sc := defScope s__law_sizes_error) (by decide +kernel))
            (fun _ _ _ _ _ => pg_name (i := 3) nd rfl (Or.inl rfl)) (fun _ _ _ _ _ => pts_nil) (fun _ _ _ _ _ => pe_callB (call_repr clr.deeper hr.units) (by rfl) T.rep (by decide +kernel) (pa_cons (pv 3) pa_nil)))) pa_nil))
          (pe_callB cr_sortedS (by rfl) T.srt (by decide +kernel) (pa_cons (pe_lock (pe_lc (own := [("_law_key", 3)]) (g := gName 3) (tt := tYes) (te := tCB (rRepr K) (tCons (tVar 3) tNil)) rfl nd (pi_keysO (pv 0)) (blkOk_by (N := NSe) (sc := defScope s__law_sizes_error) (by decide +kernel))
            (fun _ _ _ _ _ => pg_name (i := 3) nd rfl (Or.inl rfl)) (fun _ _ _ _ _ => pts_nil) (fun _ _ _ _ _ => pe_callB (call_repr clr.deeper hr.units) (by rfl) T.rep (by decide +kernel) (pa_cons (pv 3) pa_nil)))) pa_nil)) (nomark _)) (pss_one (ps_ret (pe_tup (pa_cons pe_str (pa_cons pe_non pa_nil))))) pss_nil)
      (pss_cons (ps_for PassesOwn.never rfl (pi_list (pe_callB (call_sortedD rfl) (by rfl) T.srt (by decide +kernel) (pa_cons (pv 0) pa_nil))) (pg_name (i := 4) nd rfl (.inl rfl))
        (pss_one (ps_if (PW.pt (pw_or (pt_not (pt_val (pe_callB call_isi (by rfl) T.isi (by decide +kernel) (pa_cons (pe_dget hu (pv 2) (pv 4) (fun _ _ => rfl)) (pa_cons (pe_bltn (v := .ty "int") (u := .type "int") (by rfl) T.int (by decide +kernel) rfl) pa_nil)))))
            (pw_or (pt_val (pe_callB call_isi (by rfl) T.isi (by decide +kernel) (pa_cons (pe_dget hu (pv 2) (pv 4) (fun _ _ => rfl)) (pa_cons (pe_bltn (v := .ty "bool") (u := .type "bool") (by rfl) T.bool (by decide +kernel) rfl) pa_nil))))
            (pw_or1 (pt_cmpR op_lt (pe_dget hu (pv 2) (pv 4) (fun _ _ => rfl)) pe_int (nomark _)))))) (pss_one (ps_ret (pe_tup (pa_cons pe_str (pa_cons (pv 4) pa_nil))))) pss_nil)))
      (pss_cons (ps_for PassesOwn.never rfl (pi_list (pe_op op_cat (pe_lst (pa_cons pe_str pa_nil)) (pe_callB (call_sortedD rfl) (by rfl) T.srt (by decide +kernel) (pa_cons (pv 0) pa_nil)))) (pg_name (i := 5) nd rfl (.inr rfl))
        (pss_cons (ps_set (i := 6) nd rfl (.inl rfl) (pe_callB (cr_sum rfl) (by rfl) T.sum (by decide +kernel) (pa_cons (pe_lock (pe_lc (own := [("_law_name", 4)]) (g := gName 4) (tt := tTest (tOp rEq (tDGet (tVar 0) (tVar 4)) (tVar 5))) (te := tDGet (tVar 2) (tVar 4)) rfl nd (pi_keys (pv 0)) (blkOk_by (N := NSe) (sc := defScope s__law_sizes_error) (by decide +kernel))
            (fun _ _ _ _ _ => pg_name (i := 4) nd rfl (Or.inl rfl)) (fun _ _ _ _ _ => pts_one (pt_cmpR op_eq (pe_dget hu (pv 0) (pv 4) (fun _ _ => rfl)) (pv 5) (nomark _))) (fun _ _ _ _ _ => pe_dget hu (pv 2) (pv 4) (fun _ _ => rfl)))) pa_nil)))
        (pss_one (ps_if (pt_cmpR op_gt (pv 6) (pe_ifExp (pt_cmpR op_eq (pv 5) pe_str (nomark _)) (pv 1) (pe_dget hu (pv 2) (pv 5) (fun _ _ => rfl))) (nomark _)) (pss_one (ps_ret (pe_tup (pa_cons pe_str (pa_cons (pv 5) pa_nil))))) pss_nil))))
      (pss_one (ps_ret pe_non))))), ?_⟩
    have olen : ts.length = t.length := pm.length_eq
    have tsn : (ts.map Prod.fst).Nodup := (pm.map _).nodup_iff.mpr to.nd
    have tsm : ∀ z ∈ ts.map Prod.fst, NameL z := fun z hz => to.nm z ((pm.map _).mem_iff.mp hz)
    have bad : feas ts n o = some .non → ∀ H1 p, Same H H1 → H1 p = none → Q (.ref p) (upd H1 p (.tup [.str "sizes", .non])) := fun e H1 p s1 np => by
      rw [e] at k
      exact k p _ (s1.trans (same_new np)) (s1.free np) upd_same
    have cls : (∃ T, Dat K H sv T ∧ T ≠ "dict" ∧ o = none) ∨ ∃ (b : Addr) (u : HO) (rows : List (V × V)) (ws : List Str), sv = .ref b ∧ H b = some u ∧ RowsO b u rows ∧ rows.length ≤ 13 ∧ Paired (fun (r : V × V) w => ShT H r.1 w) rows ws ∧
        (∀ Q' : VK, Q' (.bl true) H → (rIsi K [sv, .ty "dict"] H Q' ∨ ∃ (a : Addr) (rows : List (V × V)) (_ : Option Obj), [sv, .ty "dict"] = [V.ref a, .ty "dict"] ∧ (H a = some (RawO a rows) ∨ ∃ o, H a = some (.frz o (RawO a rows))) ∧ Q' (.bl true) H)) ∧
        (¬ ws.Perm ((t.map Prod.fst).map fun z => shK (Sum.inr z)) → feas ts n o = some .non) ∧
        (ws.Perm ((t.map Prod.fst).map fun z => shK (Sum.inr z)) → ∃ kvs, o = some kvs ∧ u = .dK kvs ∧ (∀ p ∈ kvs, IsDat K H p.2) ∧ kvs.length = ts.length ∧ ∀ a ∈ ts.map Prod.fst, ∃ v, valV kvs (Sum.inr a) = some v) := by
      cases o with
      | none =>
        rcases bv with ⟨T, d, ne⟩ | ⟨b, rows, rfl, hb, lr, l13, rk⟩
        · exact .inl ⟨T, d, ne, rfl⟩
        · obtain ⟨ws, pw⟩ := raw_ws rk
          refine .inr ⟨b, _, rows, ws, rfl, hb, .inr rfl, l13, pw, fun Q' q => .inr ⟨b, rows, none, rfl, .inl hb, q⟩, fun _ => rfl, fun p => ?_⟩
          have l1 := p.length_eq
          have l2 := Paired.length pw
          rw [List.length_map, List.length_map] at l1
          omega
      | some kvs =>
        obtain ⟨b, rfl, hb, dat, knd, l13, kb⟩ := bv
        have kbk : ∀ k ∈ kvs.map (·.1), KeyB k := fun k hk => by
          obtain ⟨p, hp, rfl⟩ := List.mem_map.mp hk
          exact kb p hp
        have sp := shown_perm (ns := t.map Prod.fst) knd kbk to.nd to.nm
        have em : (kvs.map (·.1)).map shK = kvs.map fun p => shK p.1 := by rw [List.map_map] <;> rfl
        rw [em, List.length_map, List.length_map] at sp
        refine .inr ⟨b, _, rowsK kvs, kvs.map fun p => shK p.1, rfl, hb, .inl ⟨kvs, rfl, rfl⟩, by rw [rowsK_len]; exact l13, dK_ws kb, fun Q' q => .inl ⟨.ref b, _, _, _, _, rfl, .ty _, (Dat.dct (K := K) hb).ty, (Dat.dct (K := K) hb).dict_, q⟩, fun np => ?_, fun p => ?_⟩
        · rw [feas_some]
          by_cases e1 : kvs.length = ts.length
          · rw [if_neg fun z => z e1]
            refine if_pos ?_
            cases e2 : (ts.map Prod.fst).all fun a => (valV kvs (Sum.inr a)).isSome with
            | false => rfl
            | true =>
              exfalso
              refine np (sp.mpr ⟨by omega, fun a ha => ?_⟩)
              have z := List.all_eq_true.mp e2 a ((pm.map _).mem_iff.mpr ha)
              obtain ⟨v, hv⟩ := Option.isSome_iff_exists.mp z
              exact valV_in hv
          · exact if_pos e1
        · obtain ⟨h1, h2⟩ := sp.mp p
          refine ⟨kvs, rfl, rfl, dat, by omega, fun a ha => ?_⟩
          have m := h2 a ((pm.map _).mem_iff.mp ha)
          cases e : valV kvs (Sum.inr a) with
          | some v => exact ⟨v, rfl⟩
          | none => exact absurd m (valV_not e)
    rcases cls with ⟨T, d, ne, rfl⟩ | ⟨b, u, rows, ws, rfl, hb, ro, l13, pw, isi, hno, hyes⟩
    · refine ⟨_, rfl, .inl ⟨sv, _, _, _, _, rfl, .ty _, d.ty, d.dict_, _, rfl, ?_⟩⟩
      rw [decide_eq_false ne]
      exact iteT ⟨by show 2 ≤ sizeLine; omega, fun p np => bad rfl H p Same.refl np⟩
    refine ⟨_, rfl, isi _ ⟨_, rfl, iteF ?_⟩⟩
    refine shown_list (i := 2) (j := 3) rfl (by show 3 < 7; omega) hb ro l13 pw fun D H1 s1 nD hD => ?_
    have lws := Paired.length pw
    refine ⟨D, ws, rfl, SqL.of hD, by omega, fun ys py yp ysr npy => ?_⟩
    have s2 := same_new (o := .lst (ys.map V.str)) npy
    have hq2 := s2 _ _ (s1 _ _ hq)
    refine shown_list (i := 0) (j := 3) (ws := (prs t).map fun p => shK p.1) rfl (by show 3 < 7; omega) hq2 (.inl ⟨prs t, rfl, rfl⟩) (by rw [rowsK_len]; unfold prs kvT; rw [List.length_map, List.length_map]; omega) (dK_ws fun p hp => ?_) fun D2 H3 s3 nD2 hD2 => ?_
    · unfold prs kvT at hp
      rw [List.map_map] at hp
      obtain ⟨x, hx, rfl⟩ := List.mem_map.mp hp
      exact .inl (to.nm _ (List.mem_map.mpr ⟨x, hx, rfl⟩))
    rw [prs_ws] at hD2
    refine ⟨D2, _, rfl, SqL.of hD2, by rw [List.length_map, List.length_map]; omega, fun zs pz zp zsr npz => ?_⟩
    have s4 := same_new (o := .lst (zs.map V.str)) npz
    obtain ⟨H4, e4⟩ : ∃ X, X = upd H3 pz (.lst (zs.map V.str)) := ⟨_, rfl⟩
    have hy4 : H4 py = some (.lst (ys.map V.str)) := by rw [e4]; exact s4 _ _ (s3 _ _ upd_same)
    have hz4 : H4 pz = some (.lst (zs.map V.str)) := by rw [e4]; exact upd_same
    have s04 : Same H H4 := by rw [e4]; exact ((s1.trans s2).trans s3).trans s4
    rw [← e4]
    clear e4 s4
    refine ⟨.list (ys.map .str), .list (zs.map .str), .lst (SqL.of hy4) (dps_strs _), .lst (SqL.of hz4) (dps_strs _), strs_shaped (fun z hz => paired_ok pw z (yp.mem_iff.mp hz)), strs_shaped (fun z hz => ?_), _, rfl, ?_⟩
    · obtain ⟨y, hy, rfl⟩ := List.mem_map.mp (zp.mem_iff.mp hz)
      rw [shK_str]
      exact low_ok (to.nm y hy).1
    rw [eqv_txtL]
    by_cases e : ys = zs
    case neg =>
      rw [decide_eq_false e]
      refine iteT ⟨by show 2 ≤ sizeLine; omega, fun p np => bad (hno fun h => e (sorted_one (yp.trans (h.trans zp.symm)) ysr zsr)) H4 p s04 np⟩
    rw [decide_eq_true e]
    refine iteF ?_
    obtain ⟨kvs, rfl, rfl, dat, kl, there⟩ := hyes (by rw [e] at yp; exact yp.symm.trans zp)
    have hb4 := s04 _ _ hb
    have hq4 := s04 _ _ hq
    have one_asc : ∀ {ks : List Str}, ks.Perm (t.map Prod.fst) → PyProof.Rows.sortedS ks = true → ks = ts.map Prod.fst := fun pk sk => sorted_one (pk.trans (pm.map _).symm) sk asc
    -- the numbers
    refine ⟨_, rfl, q, prs t, t.map Prod.fst, rfl, .inl hq4, prs_keys t, by rw [List.length_map]; omega, fun ks pn pks srt npn => ?_⟩
    obtain rfl := one_asc pks srt
    have s5 := same_new (o := .lst ((ts.map Prod.fst).map V.str)) npn
    obtain ⟨H5, e5⟩ : ∃ X, X = upd H4 pn (.lst ((ts.map Prod.fst).map V.str)) := ⟨_, rfl⟩
    have hn5 : H5 pn = some (.lst ((ts.map Prod.fst).map V.str)) := by rw [e5]; exact upd_same
    have s05 : Same H H5 := by rw [e5]; exact s04.trans s5
    rw [← e5]
    clear e5 s5
    have all2 : (ts.map Prod.fst).all (fun a => (valV kvs (Sum.inr a)).isSome) = true := List.all_eq_true.mpr fun a ha => by
      obtain ⟨v, hv⟩ := there a ha
      rw [hv] <;> rfl
    refine ⟨pn, rfl, ⟨_, SqL.of hn5⟩, ?_⟩
    refine for_it walk_list (fun j σ' H' => (∃ u4, σ' = [some (.ref q), some (.int n), some (.ref b), none, u4, none, none]) ∧ Same H5 H' ∧ ((ts.map Prod.fst).take j).find? (badKey kvs) = none)
      ⟨⟨none, rfl⟩, Same.refl, rfl⟩ (fun j σ' H' _ z => SqL.of (z.2.1 _ _ hn5)) ?_ ?_
    · intro j y σ' Ha Hb hj ⟨⟨u4, e⟩, sa, good⟩ ⟨eb, ex⟩
      subst e
      subst eb
      obtain ⟨a, ha, rfl⟩ := map_of ex
      have s0 := s05.trans sa
      obtain ⟨v, hv⟩ := there a (List.mem_of_getElem? ha)
      obtain ⟨T', dv⟩ := (dat _ (valV_mem hv)).mono s0
      have dg : DGet Hb b (.str a) (some v) := by
        have z := DGet.k (k := Sum.inr a) (s0 _ _ hb)
        rw [hv] at z
        exact z
      have fail : isGe v 0 = false → ∀ p, Hb p = none → Q (.ref p) (upd Hb p (.tup [.str "sizes", .str a])) := fun eg p np => by
        have e : feas ts n (some kvs) = some (.str a) := by
          rw [feas_some, if_neg (fun z => z kl), if_neg (by rw [all2]; decide), find_at ha good (by unfold badKey; rw [hv]; show (!isGe v 0) = true; rw [eg] <;> rfl)] <;> rfl
        rw [e] at k
        exact k p _ (s0.trans (same_new np)) (s0.free np) upd_same
      have pass : isGe v 0 = true → ((ts.map Prod.fst).take (j + 1)).find? (badKey kvs) = none := fun eg => find_more ha good (by unfold badKey; rw [hv]; show (!isGe v 0) = false; rw [eg] <;> rfl)
      refine ⟨_, rfl, _, rfl, b, v, rfl, dg, v, _, _, _, _, rfl, .ty _, dv.ty, dv.int_, _, rfl, ?_⟩
      cases v with
      | int z =>
        refine iteF ⟨_, rfl, _, rfl, b, _, rfl, dg, .int z, _, _, _, _, rfl, .ty _, dv.ty, dv.bool_, _, rfl, ?_⟩
        refine iteF ⟨_, rfl, _, rfl, b, _, rfl, dg, z, 0, rfl, rfl, _, rfl, ?_⟩
        by_cases neg : z < 0
        · rw [decide_eq_true neg]
          exact iteT ⟨_, rfl, by show 2 ≤ sizeLine; omega, fail (decide_eq_false (by omega))⟩
        · rw [decide_eq_false neg]
          exact iteF ⟨⟨_, rfl⟩, sa, pass (decide_eq_true (by omega))⟩
      | bl z =>
        refine iteF ⟨_, rfl, _, rfl, b, _, rfl, dg, .bl z, _, _, _, _, rfl, .ty _, dv.ty, dv.bool_, _, rfl, ?_⟩
        exact iteT ⟨_, rfl, by show 2 ≤ sizeLine; omega, fail rfl⟩
      | _ => exact iteT ⟨_, rfl, by show 2 ≤ sizeLine; omega, fail rfl⟩
    · intro σ' H6 ⟨⟨u4, e⟩, sa, good⟩
      subst e
      rw [List.length_map, List.take_length] at good
      have s06 := s05.trans sa
      have nums : ∀ a ∈ ts.map Prod.fst, valV kvs (Sum.inr a) = some (.int (szOf kvs a)) := fun a ha => by
        obtain ⟨v, hv⟩ := there a ha
        have g := List.find?_eq_none.mp good a ha
        unfold badKey at g
        rw [hv] at g
        unfold szOf
        rw [hv]
        cases v with
        | int i => rfl
        | _ => exact absurd rfl g
      obtain ⟨pls, epl⟩ : ∃ l, l = (("" : Str) :: ts.map Prod.fst) := ⟨_, rfl⟩
      have ek : feas ts n (some kvs) = (pls.find? fun p => decide (resid ts n (szOf kvs) p < 0)).map V.str := by
        rw [feas_some, if_neg (fun z => z kl), if_neg (by rw [all2]; decide), good, epl]
      rw [ek] at k
      have hq6 := s06 _ _ hq
      refine ⟨by show 1 ≤ sizeLine; omega, fun pe npe => ?_⟩
      have s7 := same_new (o := .lst [.str ""]) npe
      refine ⟨_, rfl, q, prs t, t.map Prod.fst, rfl, .inl (s7 _ _ hq6), prs_keys t, by rw [List.length_map]; omega, fun ks pn2 pks srt npn2 => ?_⟩
      obtain rfl := one_asc pks srt
      have s8 : Same (upd H6 pe (.lst [.str ""])) (upd (upd H6 pe (.lst [.str ""])) pn2 (.lst ((ts.map Prod.fst).map V.str))) := same_new npn2
      refine ⟨pe, pn2, _, _, rfl, rfl, s8 _ _ upd_same, upd_same, by rw [List.length_map, List.length_map]; show 1 + ts.length ≤ _; omega, fun pc npc => ⟨pc, rfl, ⟨_, SqL.of upd_same⟩, ?_⟩⟩
      obtain ⟨H9, e9⟩ : ∃ X, X = upd (upd (upd H6 pe (.lst [.str ""])) pn2 (.lst ((ts.map Prod.fst).map V.str))) pc (.lst ([V.str ""] ++ (ts.map Prod.fst).map V.str)) := ⟨_, rfl⟩
      have hc9 : H9 pc = some (.lst (pls.map V.str)) := by rw [e9, upd_same, epl] <;> rfl
      have s09 : Same H H9 := by
        rw [e9]
        exact s06.trans ((s7.trans s8).trans (same_new npc))
      have ex : [V.str ""] ++ (ts.map Prod.fst).map V.str = pls.map V.str := by rw [epl] <;> rfl
      rw [ex] at e9 ⊢
      rw [← e9]
      clear e9
      refine for_it walk_list (fun j σ' H' => (∃ u4 u5 u6, σ' = [some (.ref q), some (.int n), some (.ref b), none, u4, u5, u6]) ∧ Same H9 H' ∧ (pls.take j).find? (fun p => decide (resid ts n (szOf kvs) p < 0)) = none)
        ⟨⟨_, _, _, rfl⟩, Same.refl, rfl⟩ (fun j σ' H' _ z => SqL.of (z.2.1 _ _ hc9)) ?_ ?_
      · intro j y σ' Ha Hb hj ⟨⟨u4, u5, u6, e⟩, sa, good'⟩ ⟨eb, exx⟩
        subst e
        subst eb
        obtain ⟨p, hp, rfl⟩ := map_of exx
        have s0 := s09.trans sa
        have hq0 := s0 _ _ hq
        have bq : b ≠ q := fun e => by
          have z := s0 _ _ hb
          rw [e, hq0] at z
          have z := HO.dK.inj (Option.some.inj z)
          obtain ⟨x, hx⟩ : ∃ x, x ∈ ts.map Prod.fst := by
            have := to.one
            cases h : ts with
            | nil => rw [h, List.length_nil] at olen; omega
            | cons y ys => exact ⟨y.1, List.mem_cons_self⟩
          have z1 := nums x hx
          rw [← z, val_prs] at z1
          obtain ⟨_, _, z1⟩ := Option.map_eq_some_iff.mp z1
          cases z1
        refine ⟨q, _, hq0, trivial, fun od => ⟨_, rfl, q, od, rfl, .inl ⟨_, upd_same, fun D nD => ?_⟩⟩⟩
        obtain ⟨H0, e0⟩ : ∃ X, X = upd Hb q (.frz od (.dK (prs t))) := ⟨_, rfl⟩
        have hqf : H0 q = some (.frz od (.dK (prs t))) := by rw [e0]; exact upd_same
        have hb0 : H0 b = some (.dK kvs) := by rw [e0, upd_ne bq]; exact s0 _ _ hb
        have Dq : D ≠ q := (ne_of_none upd_same nD).symm
        have nDb : Hb D = none := by rw [upd_ne Dq] at nD; exact nD
        rw [← e0] at nD ⊢
        refine lc_it walk_keys (fun m H' => Same H0 H' ∧ H' D = some (.lst (((kids (t.take m) p).map (szOf kvs)).map V.int))) ⟨same_new nD, upd_same⟩ (fun m H' _ z => z.1 _ _ hqf) ?_ ?_
        · intro m x Hx Hy hm ⟨q1, q2⟩ ⟨eb, kk, vv, hk, ey⟩
          subst eb
          subst ey
          obtain ⟨⟨a, pa⟩, hpt, ee⟩ : ∃ x : Str × Str, t[m]? = some x ∧ (kk, vv) = (Sum.inr x.1, V.str x.2) := by
            unfold prs kvT at hk
            rw [List.map_map, List.getElem?_map] at hk
            obtain ⟨x, hx, z⟩ := Option.map_eq_some_iff.mp hk
            exact ⟨x, hx, z.symm⟩
          cases ee
          rw [show kV (Sum.inr a) = V.str a from rfl]
          have mp := List.mem_of_getElem? hpt
          have ma : a ∈ t.map Prod.fst := List.mem_map.mpr ⟨_, mp, rfl⟩
          have hpa := par_of to.nd mp
          have ml := (List.getElem?_eq_some_iff.mp hpt).1
          refine ⟨rfl, ?_⟩
          refine ⟨_, rfl, _, rfl, q, .str pa, rfl, dget_prs (.inr ⟨od, q1 _ _ hqf⟩) hpa, _, rfl, rfl, _, rfl, ?_⟩
          by_cases e : pa = p
          · rw [decide_eq_true (show V.str pa = V.str p by rw [e])]
            refine iteT ⟨_, rfl, _, rfl, b, .int (szOf kvs a), rfl, ?_, _, q2, ?_, q1.put nD, ?_⟩
            · have z := DGet.k (k := Sum.inr a) (q1 _ _ hb0)
              rw [nums a ((pm.map _).mem_iff.mpr ma)] at z
              exact z
            · rw [List.length_map, List.length_map]
              unfold kids
              rw [List.length_map]
              have := List.length_filter_le (fun q : Str × Str => decide (q.2 = p)) (t.take m)
              rw [List.length_take] at this
              omega
            · rw [upd_same, take_more hpt, kids_snoc, if_pos e, List.map_append, List.map_append] <;> rfl
          · rw [decide_eq_false (show ¬ V.str pa = V.str p from fun z => e (V.str.inj z))]
            refine iteF ⟨q1, ?_⟩
            rw [q2, take_more hpt, kids_snoc, if_neg e, List.append_nil]
        intro Hz ⟨q1, q2⟩
        have lt : (prs t).length = t.length := by unfold prs kvT; rw [List.length_map, List.length_map]
        rw [lt, List.take_length] at q2
        refine ⟨q1 _ _ hqf, D, _, rfl, SqL.of (by rw [upd_ne Dq]; exact q2), ?_⟩
        have sz : Same Hb (upd Hz q (.dK (prs t))) := unlock_same hq0 (by rw [← e0]; exact q1)
        obtain ⟨Hw, ew⟩ : ∃ X, X = upd Hz q (.dK (prs t)) := ⟨_, rfl⟩
        rw [← ew] at sz ⊢
        have sw := s0.trans sz
        have sk : ((kids t p).map (szOf kvs)).sum = ((kids ts p).map (szOf kvs)).sum := (sum_perm ((kids_perm pm p).map _)).symm
        rw [sk]
        obtain ⟨S, eS⟩ : ∃ S, S = ((kids ts p).map (szOf kvs)).sum := ⟨_, rfl⟩
        rw [← eS]
        have er : resid ts n (szOf kvs) p = (if p = "" then n else szOf kvs p) - S := by rw [eS] <;> rfl
        have fail : resid ts n (szOf kvs) p < 0 → ∀ r, Hw r = none → Q (.ref r) (upd Hw r (.tup [.str "sizes", .str p])) := fun neg r nr => by
          rw [find_at hp good' (decide_eq_true neg)] at k
          exact k r _ (sw.trans (same_new nr)) (sw.free nr) upd_same
        have pass : ¬ resid ts n (szOf kvs) p < 0 → (pls.take (j + 1)).find? (fun p => decide (resid ts n (szOf kvs) p < 0)) = none := fun nn => find_more hp good' (decide_eq_false nn)
        refine ⟨_, rfl, _, rfl, rfl, _, rfl, ?_⟩
        by_cases e : p = ""
        · rw [decide_eq_true (show V.str p = V.str "" by rw [e])]
          rw [if_pos e] at er
          refine iteT ⟨_, rfl, S, n, rfl, rfl, _, rfl, ?_⟩
          by_cases neg : S > n
          · rw [decide_eq_true neg]
            exact iteT ⟨_, rfl, by show 2 ≤ sizeLine; omega, fail (by omega)⟩
          · rw [decide_eq_false neg]
            exact iteF ⟨⟨_, _, _, rfl⟩, sa.trans sz, pass (by omega)⟩
        · rw [decide_eq_false (show ¬ V.str p = V.str "" from fun z => e (V.str.inj z))]
          rw [if_neg e] at er
          have mp : p ∈ ts.map Prod.fst := by
            have z := List.mem_of_getElem? hp
            rw [epl] at z
            exact (List.mem_cons.mp z).resolve_left e
          have dg : DGet Hw b (.str p) (some (.int (szOf kvs p))) := by
            have z := DGet.k (k := Sum.inr p) (sw _ _ hb)
            rw [nums p mp] at z
            exact z
          refine iteF ⟨_, rfl, _, rfl, b, _, rfl, dg, S, szOf kvs p, rfl, rfl, _, rfl, ?_⟩
          by_cases neg : S > szOf kvs p
          · rw [decide_eq_true neg]
            exact iteT ⟨_, rfl, by show 2 ≤ sizeLine; omega, fail (by omega)⟩
          · rw [decide_eq_false neg]
            exact iteF ⟨⟨_, _, _, rfl⟩, sa.trans sz, pass (by omega)⟩
      · intro σ' H6 ⟨⟨u4, u5, u6, e⟩, sa, good'⟩
        subst e
        rw [List.length_map, List.take_length] at good'
        rw [good'] at k
        exact k _ (s09.trans sa)
end
end FT


/-! _law_near -/
namespace FT
open PySem L2 TL ClX LiI
def spNear : Sp := fun vs H Q _ => ∃ (q : Addr) (t ts : List (Str × Str)) (a : Str), vs = [.ref q, .str a] ∧ H q = some (.dK (prs t)) ∧ TreeOk t ∧ ts.Perm t ∧ Asc ts ∧ Pl t a ∧ ∀ p H', Same H H' → H p = none → H' p = some (.lst ((adj ts a).map V.str)) → Q (.ref p) H'
abbrev NNe : List Str := ["_law_parents", "_law_place", "_law_above", "_law_name"]
theorem asc_kids {ts : List (Str × Str)} (h : Asc ts) (a : Str) : PyProof.Rows.sortedS (kids ts a) = true := by
  have sub : List.Sublist (kids ts a) (ts.map Prod.fst) := List.Sublist.map Prod.fst List.filter_sublist
  refine PyProof.Rows.sortedS_of_pairwise _ (List.Pairwise.imp (fun {x y} l => ?_) ((sorted_pw h).sublist sub))
  rw [PyProof.Rows.ltCps_eq]
  exact decide_eq_false l
section
variable {P : Program} {w : World} {K : PySem.W.Frag} {mg : Str → Option Value} {base : Heap}
theorem scNe : FnScope NNe ["_law_parents", "_law_place"] (defScope s__law_near) := ⟨rfl, rfl, rfl, by decide +kernel, rfl, by decide +kernel, by decide +kernel⟩
theorem ok_near {f : Addr} {fd : FuncData} (F : Fun K "_law_near" "_law_near" s__law_near f fd) (T : Nm mg) : FnOk P w K mg base CX0 1 f fd ["_law_parents", "_law_place"] spNear := by
  refine F.ok scNe (fun vs H Q E h => ?_) (fun cdv A outer s H vs Q E hr h => ?_)
  · obtain ⟨q, t, ts, a, rfl, _⟩ := h
    rfl
  · obtain ⟨q, t, ts, a, rfl, hq, to, pm, asc, pl, k⟩ := h
    have hu := hu_of hr
    have nd := scNe.nd
    have big : 1000 ≤ sizeLine := by decide
    have few := to.few
    refine ⟨_, pss_cons (ps_set (i := 2) nd rfl (.inl rfl) (pe_ifExp (pt_cmpR op_eq (pv 1) pe_str (nomark _)) (pe_lst pa_nil) (pe_lst (pa_cons (pe_dget hu (pv 0) (pv 1) (fun _ _ => rfl)) pa_nil))))
      (pss_one (ps_ret (pe_op op_cat (pv 2) (pe_callB cr_sortedS (by rfl) T.srt (by decide +kernel) (pa_cons (pe_lock (pe_lc (own := [("_law_name", 3)]) (g := gName 3) (tt := tTest (tOp rEq (tDGet (tVar 0) (tVar 3)) (tVar 1))) (te := tVar 3) rfl nd (pi_keys (pv 0))
        (blkOk_by (N := NNe) (sc := defScope s__law_near) (by decide +kernel)) (fun _ _ _ _ _ => pg_name (i := 3) nd rfl (Or.inl rfl))
        (fun _ _ _ _ _ => pts_one (pt_cmpR op_eq (pe_dget hu (pv 0) (pv 3) (fun _ _ => rfl)) (pv 1) (nomark _))) (fun _ _ _ _ _ => pv 3))) pa_nil))))), ?_⟩
    have fewer : ∀ m, (kids (t.take m) a).length ≤ 12 := fun m => by
      unfold kids
      rw [List.length_map]
      have := List.length_filter_le (fun q : Str × Str => decide (q.2 = a)) (t.take m)
      rw [List.length_take] at this
      omega
    have rest : ∀ (l0 : Addr) (H1 : Hp) (up : List Str), Same H H1 → H1 l0 = some (.lst (up.map V.str)) → up.length ≤ 1 → adj ts a = up ++ kids ts a →
        (tOp rCat (tVar 2) (tCB (rSortedS K) (tCons (tLockE (tLc (iKeys (tVar 0)) (gName 3) (tTest (tOp rEq (tDGet (tVar 0) (tVar 3)) (tVar 1))) (tVar 3) [3])) tNil))) [some (.ref q), some (.str a), some (.ref l0), none] H1 fun v H' => Q v H' := by
      intro l0 H1 up s1 a1 lu ea
      have hq1 := s1 _ _ hq
      refine ⟨_, rfl, q, .dK (prs t), hq1, trivial, fun od => ⟨_, rfl, q, od, rfl, .inl ⟨prs t, upd_same, fun D nD => ?_⟩⟩⟩
      have Dq : D ≠ q := (ne_of_none upd_same nD).symm
      have nD1 : H1 D = none := by rw [upd_ne Dq] at nD; exact nD
      refine lc_it walk_keys (fun i H' => Same (upd H1 q (.frz od (.dK (prs t)))) H' ∧ H' D = some (.lst ((kids (t.take i) a).map V.str))) ⟨same_new nD, upd_same⟩ (fun i H' _ z => z.1 _ _ upd_same) ?_ ?_
      · intro i y Ha Hb hi ⟨q1, q2⟩ ⟨eb, kk, vv, hk, ey⟩
        subst eb
        subst ey
        obtain ⟨⟨b, pb⟩, hp, ee⟩ : ∃ z : Str × Str, t[i]? = some z ∧ (kk, vv) = (Sum.inr z.1, V.str z.2) := by
          unfold prs kvT at hk
          rw [List.map_map, List.getElem?_map] at hk
          obtain ⟨z, hz, e⟩ := Option.map_eq_some_iff.mp hk
          exact ⟨z, hz, e.symm⟩
        cases ee
        rw [show kV (Sum.inr b) = V.str b from rfl]
        have ep := par_of to.nd (List.mem_of_getElem? hp)
        have more := kids_snoc (t.take i) (b, pb) a
        rw [← take_more hp] at more
        have kl := fewer i
        refine ⟨rfl, ?_⟩
        refine ⟨_, rfl, _, rfl, q, .str pb, rfl, dget_prs (.inr ⟨od, q1 _ _ upd_same⟩) ep, _, rfl, rfl, _, rfl, ?_⟩
        by_cases e : pb = a
        · rw [decide_eq_true (show V.str pb = V.str a by rw [e])]
          rw [if_pos e] at more
          exact iteT ⟨_, rfl, _, q2, by rw [List.length_map]; omega, q1.put nD, by rw [upd_same, more, List.map_append] <;> rfl⟩
        · rw [decide_eq_false (show ¬ V.str pb = V.str a from fun z => e (V.str.inj z))]
          rw [if_neg e, List.append_nil] at more
          exact iteF ⟨q1, by rw [more]; exact q2⟩
      · intro H' ⟨q1, q2⟩
        rw [prs_len, List.take_length] at q2
        have sw := unlock_same hq1 q1
        have kl := fewer t.length
        rw [List.take_length] at kl
        refine ⟨q1 _ _ upd_same, D, kids t a, rfl, SqL.of (by rw [upd_ne Dq]; exact q2), by omega, fun ys p yp ysr np => ?_⟩
        have ey : ys = kids ts a := sorted_one (yp.trans (kids_perm pm.symm a)) ysr (asc_kids asc a)
        subst ey
        refine ⟨l0, p, _, _, rfl, rfl, same_new np _ _ (sw _ _ a1), upd_same, by rw [List.length_map, List.length_map, yp.length_eq]; omega, fun p2 np2 => ?_⟩
        exact k p2 _ (((s1.trans sw).trans (same_new np)).trans (same_new np2)) (((s1.trans sw).trans (same_new np)).free np2) (by rw [upd_same, ea, List.map_append])
    refine ⟨_, rfl, rfl, _, rfl, ?_⟩
    by_cases e : a = ""
    · rw [decide_eq_true (show V.str a = V.str "" by rw [e])]
      refine iteT ⟨by show 0 ≤ sizeLine; omega, fun l0 nl => ?_⟩
      exact rest l0 _ [] (same_new nl) upd_same (Nat.zero_le _) (by unfold adj; rw [if_pos e])
    · rw [decide_eq_false (show ¬ V.str a = V.str "" from fun z => e (V.str.inj z))]
      obtain ⟨pa, hp⟩ := par_some to.nd (pl.resolve_left e)
      refine iteF ⟨_, rfl, _, rfl, q, .str pa, rfl, dget_prs (.inl hq) hp, by show 1 ≤ sizeLine; omega, fun l0 nl => ?_⟩
      have hpt : par ts a = some pa := by
        have m : (a, pa) ∈ ts := pm.mem_iff.mpr (par_mem hp)
        exact par_of ((pm.map Prod.fst).nodup_iff.mpr to.nd) m
      exact rest l0 _ [pa] (same_new nl) upd_same (Nat.le_refl _) (by unfold adj; rw [if_neg e, hpt] <;> rfl)
end
end FT


/-! _law_moving -/
namespace FT
open PySem L2 TL ClX LiI
/-- who moves along the edge above a flag -/
def mvd (c : Str → Int) (z : Str × Str) : List (List Key × V) := if 0 < c z.1 then [([Sum.inr z.2, Sum.inr z.1], .int (c z.1))] else if c z.1 < 0 then [([Sum.inr z.1, Sum.inr z.2], .int (- c z.1))] else []
def mvs (c : Str → Int) (t : List (Str × Str)) : List (List Key × V) := (t.map (mvd c)).flatten
theorem mvs_snoc (c : Str → Int) (t : List (Str × Str)) (z : Str × Str) : mvs c (t ++ [z]) = mvs c t ++ mvd c z := by
  unfold mvs
  rw [List.map_append, List.flatten_append]
  show _ ++ (mvd c z ++ []) = _
  rw [List.append_nil]
theorem mvs_key {c : Str → Int} {l : List (Str × Str)} {k : List Key} (h : k ∈ (mvs c l).map (·.1)) : ∃ z ∈ l, k = [Sum.inr z.2, Sum.inr z.1] ∨ k = [Sum.inr z.1, Sum.inr z.2] := by
  obtain ⟨e, he, rfl⟩ := List.mem_map.mp h
  obtain ⟨m, hm, hem⟩ := List.mem_flatten.mp he
  obtain ⟨z, hz, rfl⟩ := List.mem_map.mp hm
  refine ⟨z, hz, ?_⟩
  unfold mvd at hem
  by_cases c1 : 0 < c z.1
  · rw [if_pos c1] at hem
    rw [List.mem_singleton.mp hem]
    exact .inl rfl
  · rw [if_neg c1] at hem
    by_cases c2 : c z.1 < 0
    · rw [if_pos c2] at hem
      rw [List.mem_singleton.mp hem]
      exact .inr rfl
    · rw [if_neg c2] at hem
      cases hem
theorem mvs_len (c : Str → Int) : ∀ l : List (Str × Str), (mvs c l).length ≤ l.length
  | [] => Nat.le_refl _
  | z :: l => by
    show (mvd c z ++ mvs c l).length ≤ l.length + 1
    have i := mvs_len c l
    rw [List.length_append]
    have : (mvd c z).length ≤ 1 := by
      unfold mvd
      by_cases c1 : 0 < c z.1
      · rw [if_pos c1]
        exact Nat.le_refl _
      · rw [if_neg c1]
        by_cases c2 : c z.1 < 0
        · rw [if_pos c2]
          exact Nat.le_refl _
        · rw [if_neg c2]
          exact Nat.zero_le _
    omega
theorem valV_absent {κ : Type} [DecidableEq κ] {kvs : List (κ × V)} {k : κ} (h : k ∉ kvs.map (·.1)) : valV kvs k = none := by
  cases e : valV kvs k with
  | none => rfl
  | some v => exact absurd (valV_in e) h
theorem edge_new {c : Str → Int} {t : List (Str × Str)} (o : TreeOk t) {i : Nat} {a p : Str} (h : t[i]? = some (a, p)) : [Sum.inr p, Sum.inr a] ∉ (mvs c (t.take i)).map (·.1) ∧ [Sum.inr a, Sum.inr p] ∉ (mvs c (t.take i)).map (·.1) := by
  have nd : ((t.take (i + 1)).map Prod.fst).Nodup := o.nd.sublist (List.Sublist.map _ (List.take_sublist _ _))
  rw [take_more h, List.map_append, List.nodup_append] at nd
  have fresh : ∀ z ∈ t.take i, z.1 ≠ a := fun z hz e => nd.2.2 _ (List.mem_map.mpr ⟨z, hz, rfl⟩) _ (List.mem_map.mpr ⟨(a, p), List.mem_singleton.mpr rfl, rfl⟩) e
  have turned : ∀ z ∈ t.take i, z.1 = p → z.2 ≠ a := fun z hz e1 e2 => by
    have mz := List.mem_of_mem_take hz
    have ma := List.mem_of_getElem? h
    have pz := par_of o.nd (show (p, a) ∈ t by rw [← e1, ← e2]; exact mz)
    have pa := par_of o.nd ma
    have l1 := congrArg List.length (path_step o (List.mem_map.mpr ⟨_, ma, rfl⟩) pa)
    have l2 := congrArg List.length (path_step o (List.mem_map.mpr ⟨z, mz, e1⟩) pz)
    rw [List.length_append] at l1 l2
    simp only [List.length_cons, List.length_nil] at l1 l2
    omega
  refine ⟨fun m => ?_, fun m => ?_⟩
  · obtain ⟨z, hz, e | e⟩ := mvs_key m
    · exact fresh z hz (two_keys.mp e).2.symm
    · exact turned z hz (two_keys.mp e).1.symm (two_keys.mp e).2.symm
  · obtain ⟨z, hz, e | e⟩ := mvs_key m
    · exact turned z hz (two_keys.mp e).2.symm (two_keys.mp e).1.symm
    · exact fresh z hz (two_keys.mp e).1.symm
def spMoving : Sp := fun vs H Q _ => ∃ (q b0 b1 : Addr) (t : List (Str × Str)) (k0 k1 : List (Key × V)) (so sn : Str → Int), vs = [.ref q, .ref b0, .ref b1] ∧ H q = some (.dK (prs t)) ∧ TreeOk t ∧ H b0 = some (.dK k0) ∧ H b1 = some (.dK k1) ∧
  (∀ z ∈ t, valV k0 (Sum.inr z.1) = some (.int (so z.1)) ∧ valV k1 (Sum.inr z.1) = some (.int (sn z.1))) ∧ ∀ p H', Same H H' → H p = none → H' p = some (.dT (mvs (fun x => sn x - so x) t)) → Q (.ref p) H'
abbrev NMv : List Str := ["_law_parents", "_law_old", "_law_fresh", "_law_found", "_law_name"]
section
variable {P : Program} {w : World} {K : PySem.W.Frag} {mg : Str → Option Value} {base : Heap}
theorem scMv : FnScope NMv ["_law_parents", "_law_old", "_law_fresh"] (defScope s__law_moving) := ⟨rfl, rfl, rfl, by decide +kernel, rfl, by decide +kernel, by decide +kernel⟩
theorem ok_moving {f : Addr} {fd : FuncData} (F : Fun K "_law_moving" "_law_moving" s__law_moving f fd) (T : Nm mg) : FnOk P w K mg base CX0 1 f fd ["_law_parents", "_law_old", "_law_fresh"] spMoving := by
  refine F.ok scMv (fun vs H Q E h => ?_) (fun cdv A outer s H vs Q E hr h => ?_)
  · obtain ⟨q, b0, b1, t, k0, k1, so, sn, rfl, _⟩ := h
    rfl
  · obtain ⟨q, b0, b1, t, k0, k1, so, sn, rfl, hq, to, h0, h1, nums, k⟩ := h
    have hu := hu_of hr
    have nd := scMv.nd
    have big : 1000 ≤ sizeLine := by decide
    have few := to.few
    refine ⟨_, pss_cons (ps_set (i := 3) nd rfl (.inl rfl) pe_dnewT)
      (pss_cons (ps_lock (ps_for PassesOwn.never rfl (pi_keys (pv 0)) (pg_name (i := 4) nd rfl (.inl rfl))
        (pss_cons (ps_if (pt_cmpR op_gt (pe_dget hu (pv 2) (pv 4) (fun _ _ => rfl)) (pe_dget hu (pv 1) (pv 4) (fun _ _ => rfl)) (nomark _))
          (pss_one (ps_dput hu (pv 3) (pe_tup (pa_cons (pe_dget hu (pv 0) (pv 4) (fun _ _ => rfl)) (pa_cons (pv 4) pa_nil))) (pe_op op_sub (pe_dget hu (pv 2) (pv 4) (fun _ _ => rfl)) (pe_dget hu (pv 1) (pv 4) (fun _ _ => rfl))) rfl)) pss_nil)
        (pss_one (ps_if (pt_cmpR op_lt (pe_dget hu (pv 2) (pv 4) (fun _ _ => rfl)) (pe_dget hu (pv 1) (pv 4) (fun _ _ => rfl)) (nomark _))
          (pss_one (ps_dput hu (pv 3) (pe_tup (pa_cons (pv 4) (pa_cons (pe_dget hu (pv 0) (pv 4) (fun _ _ => rfl)) pa_nil))) (pe_op op_sub (pe_dget hu (pv 1) (pv 4) (fun _ _ => rfl)) (pe_dget hu (pv 2) (pv 4) (fun _ _ => rfl))) rfl)) pss_nil)))))
      (pss_one (ps_ret (pv 3)))), ?_⟩
    obtain ⟨c, ec⟩ : ∃ c : Str → Int, c = fun x => sn x - so x := ⟨_, rfl⟩
    rw [← ec] at k
    refine fun D nD => ?_
    have s0 : Same H (upd H D (.dT [])) := same_new nD
    have Dq : D ≠ q := (ne_of_none hq nD).symm
    have hq1 := s0 _ _ hq
    refine ⟨q, _, hq1, trivial, fun od => ⟨_, rfl, q, od, rfl, .inl ⟨_, upd_same, ?_⟩⟩⟩
    obtain ⟨Hl, eHl⟩ : ∃ X, X = upd (upd H D (.dT [])) q (.frz od (.dK (prs t))) := ⟨_, rfl⟩
    have hql : Hl q = some (.frz od (.dK (prs t))) := by rw [eHl]; exact upd_same
    have hDl : Hl D = some (.dT []) := by rw [eHl, upd_ne Dq]; exact upd_same
    have b0q : b0 ≠ D := ne_of_none h0 nD
    have b1q : b1 ≠ D := ne_of_none h1 nD
    have g0 : ∃ o0, Hl b0 = some o0 ∧ (o0 = .dK k0 ∨ ∃ od, o0 = .frz od (.dK k0)) := by
      by_cases e : b0 = q
      · rw [e] at h0 ⊢
        rw [hq] at h0
        cases h0
        exact ⟨_, hql, .inr ⟨od, rfl⟩⟩
      · exact ⟨_, by rw [eHl, upd_ne e, upd_ne b0q]; exact h0, .inl rfl⟩
    have g1 : ∃ o1, Hl b1 = some o1 ∧ (o1 = .dK k1 ∨ ∃ od, o1 = .frz od (.dK k1)) := by
      by_cases e : b1 = q
      · rw [e] at h1 ⊢
        rw [hq] at h1
        cases h1
        exact ⟨_, hql, .inr ⟨od, rfl⟩⟩
      · exact ⟨_, by rw [eHl, upd_ne e, upd_ne b1q]; exact h1, .inl rfl⟩
    rw [← eHl]
    refine for_it walk_keys (fun i σ' H' => (∃ u4, σ' = [some (.ref q), some (.ref b0), some (.ref b1), some (.ref D), u4]) ∧ H' D = some (.dT (mvs c (t.take i))) ∧ Kp D Hl H') ⟨⟨_, rfl⟩, by rw [List.take_zero]; exact hDl, Kp.of_same Same.refl⟩ (fun i σ' H' _ z => z.2.2 _ _ Dq.symm hql) ?_ ?_
    · intro i yv σ' Hb Hc hi ⟨⟨u4, e⟩, hD2, kp⟩ ⟨eb, kk, vv, hk, ey⟩
      subst e
      subst eb
      subst ey
      obtain ⟨⟨a, pa⟩, hp, ee⟩ : ∃ z : Str × Str, t[i]? = some z ∧ (kk, vv) = (Sum.inr z.1, V.str z.2) := by
        unfold prs kvT at hk
        rw [List.map_map, List.getElem?_map] at hk
        obtain ⟨z, hz, e⟩ := Option.map_eq_some_iff.mp hk
        exact ⟨z, hz, e.symm⟩
      cases ee
      rw [show kV (Sum.inr a) = V.str a from rfl]
      have mp := List.mem_of_getElem? hp
      have ep := par_of to.nd mp
      obtain ⟨n0, n1⟩ := nums _ mp
      have d0 : ∀ H', Kp D Hl H' → DGet H' b0 (.str a) (some (.int (so a))) := fun H' kp => by
        obtain ⟨o0, e0, e | ⟨od', e⟩⟩ := g0 <;> subst e <;> have z := kp _ _ b0q e0 <;> rw [← n0]
        · exact .inl ⟨k0, Sum.inr a, .inl z, rfl, rfl⟩
        · exact .inl ⟨k0, Sum.inr a, .inr ⟨od', z⟩, rfl, rfl⟩
      have d1 : ∀ H', Kp D Hl H' → DGet H' b1 (.str a) (some (.int (sn a))) := fun H' kp => by
        obtain ⟨o0, e0, e | ⟨od', e⟩⟩ := g1 <;> subst e <;> have z := kp _ _ b1q e0 <;> rw [← n1]
        · exact .inl ⟨k1, Sum.inr a, .inl z, rfl, rfl⟩
        · exact .inl ⟨k1, Sum.inr a, .inr ⟨od', z⟩, rfl, rfl⟩
      have dq : ∀ H', Kp D Hl H' → DGet H' q (.str a) (some (.str pa)) := fun H' kp => dget_prs (.inr ⟨od, kp _ _ Dq.symm hql⟩) ep
      obtain ⟨new1, new2⟩ := edge_new (c := c) to hp
      have more := mvs_snoc c (t.take i) (a, pa)
      rw [← take_more hp] at more
      have ml := mvs_len c (t.take i)
      rw [List.length_take] at ml
      have ca : c a = sn a - so a := by rw [ec]
      refine ⟨_, rfl, _, rfl, b1, _, rfl, d1 _ kp, _, rfl, _, rfl, b0, _, rfl, d0 _ kp, _, _, rfl, rfl, _, rfl, ?_⟩
      by_cases c1 : 0 < c a
      · rw [decide_eq_true (show so a < sn a by omega)]
        refine iteT ?_
        refine ⟨_, rfl, _, rfl, b1, _, rfl, d1 _ kp, _, rfl, _, rfl, b0, _, rfl, d0 _ kp, _, _, rfl, rfl, _, rfl, _, rfl, _, rfl, q, _, rfl, dq _ kp, _, rfl, by show 2 ≤ sizeLine; omega, fun tp ntp => ?_⟩
        have tD := (ne_of_none hD2 ntp).symm
        have kp4 : ∀ o, Kp D Hl (upd (upd Hc tp (.tup [.str pa, .str a])) D o) := fun o => (kp.trans (Kp.of_same (same_new ntp))).put
        refine ⟨D, _, rfl, DPut.t (k := [Sum.inr pa, Sum.inr a]) (by rw [upd_ne tD.symm]; exact hD2) upd_same (by omega), ?_⟩
        refine ⟨_, rfl, _, rfl, b1, _, rfl, d1 _ (kp4 _), _, rfl, _, rfl, b0, _, rfl, d0 _ (kp4 _), _, _, rfl, rfl, _, rfl, ?_⟩
        rw [decide_eq_false (show ¬ sn a < so a by omega)]
        refine iteF ⟨⟨_, rfl⟩, ?_, kp4 _⟩
        rw [upd_same, more, putK_new _ (valV_absent new1)]
        unfold mvd
        rw [if_pos c1, ca]
      · rw [decide_eq_false (show ¬ so a < sn a by omega)]
        refine iteF ?_
        refine ⟨_, rfl, _, rfl, b1, _, rfl, d1 _ kp, _, rfl, _, rfl, b0, _, rfl, d0 _ kp, _, _, rfl, rfl, _, rfl, ?_⟩
        by_cases c2 : c a < 0
        · rw [decide_eq_true (show sn a < so a by omega)]
          refine iteT ?_
          refine ⟨_, rfl, _, rfl, b0, _, rfl, d0 _ kp, _, rfl, _, rfl, b1, _, rfl, d1 _ kp, _, _, rfl, rfl, _, rfl, _, rfl, _, rfl, _, rfl, q, _, rfl, dq _ kp, by show 2 ≤ sizeLine; omega, fun tp ntp => ?_⟩
          have tD := (ne_of_none hD2 ntp).symm
          refine ⟨D, _, rfl, DPut.t (k := [Sum.inr a, Sum.inr pa]) (by rw [upd_ne tD.symm]; exact hD2) upd_same (by omega), ⟨_, rfl⟩, ?_, (kp.trans (Kp.of_same (same_new ntp))).put⟩
          rw [upd_same, more, putK_new _ (valV_absent new2)]
          unfold mvd
          rw [if_neg c1, if_pos c2, ca, show - (sn a - so a) = so a - sn a by omega]
        · rw [decide_eq_false (show ¬ sn a < so a by omega)]
          refine iteF ⟨⟨_, rfl⟩, ?_, kp⟩
          rw [more]
          unfold mvd
          rw [if_neg c1, if_neg c2, List.append_nil]
          exact hD2
    · intro σ' H' hs
      obtain ⟨⟨u4, e⟩, hD2, kp⟩ := hs
      subst e
      rw [prs_len, List.take_length] at hD2
      refine ⟨kp _ _ Dq.symm hql, _, rfl, k D _ (fun b u e => ?_) nD (by rw [upd_ne Dq]; exact hD2)⟩
      have bD := ne_of_none e nD
      by_cases hb : b = q
      · rw [hb] at e ⊢
        rw [hq] at e
        rw [upd_same]
        exact e
      · rw [upd_ne hb]
        exact kp b u bD (by rw [eHl, upd_ne hb, upd_ne bD]; exact e)
end
end FT


/-! plain: what _law_moving gives, as lv -/
namespace FT
open PySem L2 TL ClX LiI
theorem mvd_mem {c : Str → Int} {z : Str × Str} {k : List Key} {v : V} : (k, v) ∈ mvd c z ↔ (0 < c z.1 ∧ k = [Sum.inr z.2, Sum.inr z.1] ∧ v = .int (c z.1)) ∨ (c z.1 < 0 ∧ k = [Sum.inr z.1, Sum.inr z.2] ∧ v = .int (- c z.1)) := by
  unfold mvd
  by_cases c1 : 0 < c z.1
  · rw [if_pos c1, List.mem_singleton, Prod.mk.injEq]
    exact ⟨fun h => .inl ⟨c1, h⟩, fun h => h.elim (fun h => h.2) (fun h => absurd h.1 (by omega))⟩
  · rw [if_neg c1]
    by_cases c2 : c z.1 < 0
    · rw [if_pos c2, List.mem_singleton, Prod.mk.injEq]
      exact ⟨fun h => .inr ⟨c2, h⟩, fun h => h.elim (fun h => absurd h.1 c1) (fun h => h.2)⟩
    · rw [if_neg c2]
      exact ⟨fun h => (by cases h), fun h => h.elim (fun h => absurd h.1 c1) (fun h => absurd h.1 c2)⟩
theorem mvs_mem {c : Str → Int} {t : List (Str × Str)} {k : List Key} {v : V} : (k, v) ∈ mvs c t ↔ ∃ z ∈ t, (k, v) ∈ mvd c z := by
  unfold mvs
  rw [List.mem_flatten]
  exact ⟨fun ⟨m, hm, h⟩ => let ⟨z, hz, e⟩ := List.mem_map.mp hm; ⟨z, hz, e ▸ h⟩, fun ⟨z, hz, h⟩ => ⟨_, List.mem_map.mpr ⟨z, hz, rfl⟩, h⟩⟩
/-- what stands in the dict is what moves -/
theorem mvs_lv {c : Str → Int} {t : List (Str × Str)} (o : TreeOk t) {s g : Str} {v : V} : ([Sum.inr s, Sum.inr g], v) ∈ mvs c t ↔ 0 < lv t c s g ∧ v = .int (lv t c s g : Int) := by
  rw [mvs_mem]
  have twice : ∀ {x y : Str}, par t x = some y → par t y ≠ some x := fun {x y} h1 h2 => by
    have l1 := congrArg List.length (path_step o (par_flag h1) h1)
    have l2 := congrArg List.length (path_step o (par_flag h2) h2)
    rw [List.length_append] at l1 l2
    simp only [List.length_cons, List.length_nil] at l1 l2
    omega
  constructor
  · rintro ⟨z, hz, h⟩
    have pz := par_of o.nd hz
    rcases mvd_mem.mp h with ⟨c1, ek, ev⟩ | ⟨c1, ek, ev⟩
    · obtain ⟨e1, e2⟩ := two_keys.mp ek
      unfold lv
      rw [e1, e2, if_pos ⟨pz, c1⟩, ev]
      exact ⟨by omega, by rw [Int.toNat_of_nonneg (by omega)]⟩
    · obtain ⟨e1, e2⟩ := two_keys.mp ek
      unfold lv
      rw [e1, e2, if_neg (fun x => twice pz x.1), if_pos ⟨pz, c1⟩, ev]
      exact ⟨by omega, by rw [Int.toNat_of_nonneg (by omega)]⟩
  · rintro ⟨pos, rfl⟩
    unfold lv at pos ⊢
    by_cases h1 : par t g = some s ∧ 0 < c g
    · rw [if_pos h1]
      exact ⟨(g, s), par_mem h1.1, mvd_mem.mpr (.inl ⟨h1.2, rfl, by rw [Int.toNat_of_nonneg (by omega)]⟩)⟩
    · rw [if_neg h1] at pos ⊢
      by_cases h2 : par t s = some g ∧ c s < 0
      · rw [if_pos h2]
        exact ⟨(s, g), par_mem h2.1, mvd_mem.mpr (.inr ⟨h2.2, rfl, by rw [Int.toNat_of_nonneg (by omega)]⟩)⟩
      · rw [if_neg h2] at pos
        exact absurd pos (Nat.lt_irrefl 0)
end FT


/-! k17: what stands while the law goes on -/
namespace FT
open PySem L2 TL ClX LiI LamX
theorem LsAt.ext {H H' : Hp} {q : Addr} {l : List Str} {r : Str → Addr} {L : Str → List Int} (k : ExtN H H') (h : LsAt H q l r L) : LsAt H' q l r L := ⟨k _ _ h.1 (by intro _ z; cases z), fun p hp => k _ _ (h.2 p hp) (by intro _ z; cases z)⟩
theorem RollAt.ext {CF CR : Addr} {Ex : List Addr} {H H' : Hp} {y z x : Addr} {ts : List (Str × Str)} {L : Str → List Int} {ps : List (Str → Int)} (k : ExtN H H') (h : RollAt CF CR Ex H y z x ts L ps) : RollAt CF CR Ex H' y z x ts L ps := by
  obtain ⟨dy, q, dx, dq, r, rs, h1, h2, h3, h4, h5, h6, h7, h8⟩ := h
  exact ⟨dy, q, dx, dq, r, rs, k _ _ h1 (by intro _ z; cases z), h2.ext k, k _ _ h3 (by intro _ z; cases z), PsAt.imp (fun b kvs e => k _ _ e (by intro _ z; cases z)) h4, k _ _ h5 (by intro _ z; cases z), k _ _ h6 (by intro _ z; cases z), h7, h8⟩
theorem SnapAt.ext {Z : List Addr} {ts : List (Str × Str)} {H H' : Hp} {q : Addr} {L : Str → List Int} (k : ExtN H H') (h : SnapAt Z ts H q L) : SnapAt Z ts H' q L := by
  obtain ⟨r, n1, n2, h⟩ := h
  exact ⟨r, n1, n2, h.ext k⟩
theorem RollAt.solid {CF CR : Addr} {Ex : List Addr} {H : Hp} {y z x : Addr} {ts : List (Str × Str)} {L : Str → List Int} {ps : List (Str → Int)} (h : RollAt CF CR Ex H y z x ts L ps) : Solid H y ∧ Solid H z := by
  obtain ⟨dy, q, dx, dq, r, rs, h1, h2, h3, _⟩ := h
  exact ⟨⟨_, h1, (by intro _ z; cases z), (by intro _ z; cases z)⟩, ⟨_, h3, (by intro _ z; cases z), (by intro _ z; cases z)⟩⟩
/-- no code object is a raw dict -/
theorem code_raw {c : Addr} {q : Str} {rows : List (V × V)} : CodeO c q ≠ RawO c rows := fun e => by
  have e := HO.ext.inj e
  let ob : Obj := { cls := .type "code", data := .fields #[.none, .str q default] }
  let h : Heap := { objs := Array.replicate (c + 1) ob }
  have g : h.get? c = some ob := by
    unfold Heap.get?
    have : h.objs[c]? = some ob := by
      show (Array.replicate (c + 1) ob)[c]? = some ob
      rw [Array.getElem?_replicate, if_pos (Nat.lt_succ_self c)]
    rw [this]
  have a : ∃ (oc : Obj) (vs : Array Value) (t : Tok), h.get? c = some oc ∧ oc.data = .fields vs ∧ vs[1]? = some (.str q t) := ⟨ob, _, default, g, rfl, rfl⟩
  have b := (congrFun e h).mp a
  obtain ⟨_, _, es, ep, ⟨o, g2, _, dt⟩, _⟩ := b
  rw [g] at g2
  cases g2
  cases dt
theorem Tabs.kxR {T : List (Addr × Str)} {Z : List Addr} {H H' : Hp} (k : KeepX Z H H') (hz : ∀ b ∈ Z, Solid H b ∨ ∃ rows, H b = some (RawO b rows)) (tb : Tabs T H) : Tabs T H' := fun p hp => by
  obtain ⟨ps, e1, e2, e3⟩ := tb p hp
  have offT : ∀ {b : Addr} {ps : Array Value}, H b = some (.tbl ps) → b ∉ Z := fun {b ps} e m => by
    rcases hz b m with ⟨u, h1, h2, h3⟩ | ⟨rows, h1⟩
    · rw [e] at h1
      cases h1
      exact h2 _ rfl
    · rw [e] at h1
      cases h1
  have offC : ∀ {b : Addr} {q : Str}, H b = some (CodeO b q) → b ∉ Z := fun {b q} e m => by
    rcases hz b m with ⟨u, h1, h2, h3⟩ | ⟨rows, h1⟩
    · rw [e] at h1
      cases h1
      exact h3 _ rfl
    · rw [e] at h1
      exact code_raw (Option.some.inj h1)
  refine ⟨ps, k _ _ (offT e1) e1, e2, fun pos cv hc => ?_⟩
  obtain ⟨c', q1, q2⟩ := e3 pos cv hc
  exact ⟨c', q1, k _ _ (offC q2) q2⟩
/-- all addresses of a rollout -/
theorem RollAt.adr {CF CR : Addr} {Ex : List Addr} {H : Hp} {y z x : Addr} {ts : List (Str × Str)} {L : Str → List Int} {ps : List (Str → Int)} (h : RollAt CF CR Ex H y z x ts L ps) : ∃ As : List Addr, (∀ b ∈ As, ∃ u, H b = some u) ∧ ∀ c, c ∉ As → RollAt CF CR (c :: Ex) H y z x ts L ps := by
  obtain ⟨dy, q, dx, dq, r, rs, h1, h2, h3, h4, h5, h6, h7, h8⟩ := h
  refine ⟨(y :: z :: q :: x :: dq :: rs) ++ (pls ts).map r, fun b hb => ?_, fun c hc => ⟨dy, q, dx, dq, r, rs, h1, h2, h3, h4, h5, h6, fun b hb m => ?_, fun p hp m => ?_⟩⟩
  · rcases List.mem_append.mp hb with hb | hb
    · simp only [List.mem_cons] at hb
      rcases hb with rfl | rfl | rfl | rfl | rfl | hb
      · exact ⟨_, h1⟩
      · exact ⟨_, h3⟩
      · exact ⟨_, h2.1⟩
      · exact ⟨_, h5⟩
      · exact ⟨_, h6⟩
      · exact Option.ne_none_iff_exists'.mp (h4.some_of b hb)
    · obtain ⟨p, hp, rfl⟩ := List.mem_map.mp hb
      exact ⟨_, h2.2 p hp⟩
  · exact (List.mem_cons.mp m).elim (fun e => hc (List.mem_append_left _ (e ▸ hb))) (h7 b hb)
  · exact (List.mem_cons.mp m).elim (fun e => hc (List.mem_append_right _ (e ▸ List.mem_map.mpr ⟨p, hp, rfl⟩))) (h8 p hp)
theorem SnapAt.adr {Z : List Addr} {ts : List (Str × Str)} {H : Hp} {q : Addr} {L : Str → List Int} (h : SnapAt Z ts H q L) : ∃ As : List Addr, (∀ b ∈ As, ∃ u, H b = some u) ∧ ∀ c, c ∉ As → SnapAt (c :: Z) ts H q L := by
  obtain ⟨r, n1, n2, h⟩ := h
  refine ⟨q :: (pls ts).map r, fun b hb => ?_, fun c hc => ⟨r, fun m => ?_, fun p hp m => ?_, h⟩⟩
  · rcases List.mem_cons.mp hb with rfl | hb
    · exact ⟨_, h.1⟩
    · obtain ⟨p, hp, rfl⟩ := List.mem_map.mp hb
      exact ⟨_, h.2 p hp⟩
  · exact (List.mem_cons.mp m).elim (fun e => hc (e ▸ List.mem_cons_self ..)) n1
  · exact (List.mem_cons.mp m).elim (fun e => hc (e ▸ List.mem_cons_of_mem _ (List.mem_map.mpr ⟨p, hp, rfl⟩))) (n2 p hp)
structure S17 (T : List (Addr × Str)) (CF CR : Addr) (F : List Addr) (d l i q sh y z x : Addr) (t ts : List (Str × Str)) (n : Nat) (b : Int) (LL : Str → List Int) (ps : List (Str → Int)) (H : Hp) : Prop where
  dr : DrawB H d l i b
  tb : Tabs T H
  hq : H q = some (.dK (prs t))
  ra : RollAt CF CR (F ++ [d, l, i]) H y z x ts LL ps
  hs : SnapAt (F ++ [d, l, i, y, z]) ts H sh LL
  v : Val ts n LL
  al : ∀ b ∈ F, (∃ u, H b = some u) ∧ b ≠ d ∧ b ≠ l ∧ b ≠ i ∧ b ≠ q
section
variable {T : List (Addr × Str)} {CF CR : Addr} {F : List Addr} {d l i q sh y z x : Addr} {t ts : List (Str × Str)} {n : Nat} {b : Int} {LL : Str → List Int} {ps : List (Str → Int)} {H H' : Hp}
theorem S17.more {b' : Int} (s : S17 T CF CR F d l i q sh y z x t ts n b LL ps H) (h : b ≤ b') : S17 T CF CR F d l i q sh y z x t ts n b' LL ps H := { s with dr := s.dr.more h }
theorem S17.same (s : S17 T CF CR F d l i q sh y z x t ts n b LL ps H) (k : Same H H') : S17 T CF CR F d l i q sh y z x t ts n b LL ps H' :=
  ⟨s.dr.mono k, s.tb.ext k, k _ _ s.hq, s.ra.mono k, s.hs.keep (.of_same k), s.v, fun c hc => ⟨(s.al c hc).1.imp fun u e => k _ _ e, (s.al c hc).2⟩⟩
theorem S17.ext (s : S17 T CF CR F d l i q sh y z x t ts n b LL ps H) (k : ExtN H H') (tb : Tabs T H') (fa : ∀ c ∈ F, ∃ u, H' c = some u) : S17 T CF CR F d l i q sh y z x t ts n b LL ps H' :=
  ⟨s.dr.ext k, tb, k _ _ s.hq (by intro _ z; cases z), s.ra.ext k, s.hs.ext k, s.v, fun c hc => ⟨fa c hc, (s.al c hc).2⟩⟩
theorem S17.draw {b' : Int} (s : S17 T CF CR F d l i q sh y z x t ts n b LL ps H) (k : KeepX [d, l] H H') (dr : DrawB H' d l i b') : S17 T CF CR F d l i q sh y z x t ts n b' LL ps H' := by
  have qd := s.dr.off_prs s.hq
  have sd := s.dr.solid
  refine ⟨dr, Tabs.kx k (fun c hc => ?_) s.tb, k _ _ (by simp [qd.1, qd.2.1]) s.hq, s.ra.keep (k.sub fun c hc => ?_), s.hs.keep (k.sub fun c hc => ?_), s.v, fun c hc => ⟨(s.al c hc).1.imp fun u e => k _ _ ?_ e, (s.al c hc).2⟩⟩
  · simp only [List.mem_cons, List.not_mem_nil, or_false] at hc
    rcases hc with rfl | rfl
    · exact sd.1
    · exact sd.2.1
  · refine List.mem_append_right _ ?_
    simp only [List.mem_cons, List.not_mem_nil, or_false] at hc ⊢
    rcases hc with rfl | rfl <;> simp
  · refine List.mem_append_right _ ?_
    simp only [List.mem_cons, List.not_mem_nil, or_false] at hc ⊢
    rcases hc with rfl | rfl <;> simp
  · have := (s.al c hc).2
    simp [this.1, this.2.1]
theorem S17.less {F' : List Addr} (s : S17 T CF CR F d l i q sh y z x t ts n b LL ps H) (h : ∀ c ∈ F', c ∈ F) : S17 T CF CR F' d l i q sh y z x t ts n b LL ps H := by
  have sub : ∀ {W : List Addr}, ∀ c ∈ F' ++ W, c ∈ F ++ W := fun {W} c hc => (List.mem_append.mp hc).elim (fun m => List.mem_append_left _ (h c m)) (List.mem_append_right _)
  refine { s with ra := s.ra.less sub, hs := ?_, al := fun c hc => s.al c (h c hc) }
  obtain ⟨r, n1, n2, hl⟩ := s.hs
  exact ⟨r, fun m => n1 (sub _ m), fun p hp m => n2 p hp (sub _ m), hl⟩
/-- the rollout has moved -/
theorem S17.roll (s : S17 T CF CR F d l i q sh y z x t ts n b LL ps H) (k : Kp2 y z H H') :
    DrawB H' d l i b ∧ Tabs T H' ∧ H' q = some (.dK (prs t)) ∧ SnapAt (F ++ [d, l, i, y, z]) ts H' sh LL ∧ ∀ c ∈ F, (∃ u, H' c = some u) ∧ c ≠ d ∧ c ≠ l ∧ c ≠ i ∧ c ≠ q := by
  have kx := k.kx
  have ex : y ∉ F ++ [d, l, i] ∧ z ∉ F ++ [d, l, i] := by
    obtain ⟨dy, q', dx, dq, r, rs, _, _, _, _, _, _, e7, _⟩ := s.ra
    exact ⟨e7 y (by simp), e7 z (by simp)⟩
  have sd := s.ra.solid
  have ap := s.ra.apart.2.1 _ _ s.hq
  have yd := fun m => ex.1 (List.mem_append_right _ m)
  have zd := fun m => ex.2 (List.mem_append_right _ m)
  simp only [List.mem_cons, List.not_mem_nil, or_false, not_or] at yd zd
  have yd : y ≠ d ∧ y ≠ l ∧ y ≠ i := ⟨fun e => yd (.inl e), fun e => yd (.inr (.inl e)), fun e => yd (.inr (.inr e))⟩
  have zd : z ≠ d ∧ z ≠ l ∧ z ≠ i := ⟨fun e => zd (.inl e), fun e => zd (.inr (.inl e)), fun e => zd (.inr (.inr e))⟩
  refine ⟨s.dr.kx kx (by simp [Ne.symm yd.1, Ne.symm yd.2.1, Ne.symm yd.2.2, Ne.symm zd.1, Ne.symm zd.2.1, Ne.symm zd.2.2]), Tabs.kx kx (fun c hc => ?_) s.tb, k _ _ ap.1 ap.2 s.hq, s.hs.keep (kx.sub fun c hc => ?_), fun c hc => ⟨(s.al c hc).1.imp fun u e => k _ _ (fun e => ex.1 (List.mem_append_left _ (e ▸ hc))) (fun e => ex.2 (List.mem_append_left _ (e ▸ hc))) e, (s.al c hc).2⟩⟩
  · simp only [List.mem_cons, List.not_mem_nil, or_false] at hc
    rcases hc with rfl | rfl
    · exact sd.1
    · exact sd.2
  · refine List.mem_append_right _ ?_
    simp only [List.mem_cons, List.not_mem_nil, or_false] at hc ⊢
    rcases hc with rfl | rfl <;> simp
/-- one address is rewritten -/
theorem S17.put {c : Addr} (s : S17 T CF CR [c] d l i q sh y z x t ts n b LL ps H) (hz : Solid H c ∨ ∃ rows, H c = some (RawO c rows)) (o : HO) : S17 T CF CR [] d l i q sh y z x t ts n b LL ps (upd H c o) := by
  have kx : KeepX [c] H (upd H c o) := fun b u nb e => by
    rw [upd_ne fun z => nb (by rw [z]; simp)]
    exact e
  obtain ⟨_, c1, c2, c3, c4⟩ := s.al c (by simp)
  have w : S17 T CF CR [] d l i q sh y z x t ts n b LL ps H := s.less (F' := []) fun _ h => by cases h
  refine ⟨s.dr.off c1 c2 c3, Tabs.kxR kx (fun a ha => ?_) s.tb, (upd_ne (Ne.symm c4)).trans s.hq, (s.ra.keep (kx.sub fun a ha => ?_)).less fun a ha => ?_, ?_, s.v, fun _ h => by cases h⟩
  · rw [List.mem_singleton.mp ha]
    exact hz
  · rw [List.mem_singleton.mp ha]
    simp
  · exact List.mem_append_right _ ha
  · obtain ⟨r, n1, n2, hl⟩ := s.hs.keep (kx.sub fun a ha => by rw [List.mem_singleton.mp ha]; simp)
    exact ⟨r, fun m => n1 (List.mem_append_right _ m), fun p hp m => n2 p hp (List.mem_append_right _ m), hl⟩
/-- what is new is off all of it -/
theorem S17.prot {b0 : Int} {H0 : Hp} (s0 : S17 T CF CR [] d l i q sh y z x t ts n b0 LL ps H0) : ∃ As : List Addr, (∀ c ∈ As, ∃ u, H0 c = some u) ∧ (∀ c ∈ [d, l, i, y, z, q], c ∈ As) ∧ ∀ c, c ∉ As → ∀ {H : Hp} {b : Int}, KeepX [d, l] H0 H → S17 T CF CR [] d l i q sh y z x t ts n b LL ps H → (∃ u, H c = some u) → S17 T CF CR [c] d l i q sh y z x t ts n b LL ps H := by
  obtain ⟨A1, a1, r1⟩ := s0.ra.adr
  obtain ⟨A2, a2, r2⟩ := s0.hs.adr
  obtain ⟨e1, e2, e3⟩ := s0.dr.at3
  obtain ⟨_, _, e4, e5⟩ := s0.ra.apart
  refine ⟨[d, l, i, y, z, q] ++ (A1 ++ A2), fun c hc => ?_, fun c hc => List.mem_append_left _ hc, fun c hc {H b} k s al => ?_⟩
  · rcases List.mem_append.mp hc with hc | hc
    · simp only [List.mem_cons, List.not_mem_nil, or_false] at hc
      rcases hc with rfl | rfl | rfl | rfl | rfl | rfl
      · exact e1
      · exact e2
      · exact e3
      · exact e4
      · exact e5
      · exact ⟨_, s0.hq⟩
    · exact (List.mem_append.mp hc).elim (a1 c) (a2 c)
  · have n0 : c ∉ [d, l, i, y, z, q] := fun m => hc (List.mem_append_left _ m)
    have n1 : c ∉ A1 := fun m => hc (List.mem_append_right _ (List.mem_append_left _ m))
    have n2 : c ∉ A2 := fun m => hc (List.mem_append_right _ (List.mem_append_right _ m))
    simp only [List.mem_cons, List.not_mem_nil, or_false, not_or] at n0
    have sub : ∀ {W : List Addr}, (∀ a ∈ [d, l], a ∈ W) → ∀ a ∈ [d, l], a ∈ c :: W := fun {W} h a ha => List.mem_cons_of_mem _ (h a ha)
    refine ⟨s.dr, s.tb, s.hq, (r1 c n1).keep (k.sub (sub fun a ha => ?_)), (r2 c n2).keep (k.sub (sub fun a ha => ?_)), s.v, fun a ha => ?_⟩
    · simp only [List.mem_cons, List.not_mem_nil, or_false] at ha ⊢
      rcases ha with rfl | rfl <;> simp
    · simp only [List.mem_cons, List.not_mem_nil, or_false] at ha ⊢
      rcases ha with rfl | rfl <;> simp
    · rw [List.mem_singleton.mp ha]
      exact ⟨al, n0.1, n0.2.1, n0.2.2.1, n0.2.2.2.2.2⟩
end
theorem pair_congr {F G : Addr → Str → Prop} : ∀ {xs : List Addr} {ys : List Str}, Paired F xs ys → (∀ x, ∀ y ∈ ys, F x y → G x y) → Paired G xs ys
  | _, _, .nil, _ => .nil
  | _, _, .cons h t, m => .cons (m _ _ (List.mem_cons_self ..) h) (pair_congr t fun x y hy => m x y (List.mem_cons_of_mem _ hy))
theorem prs_choose {H' : Hp} {Fp : Addr → Prop} : ∀ {rs : List Addr} {l : List Str}, l.Nodup → Paired (fun (r : Addr) (p : Str) => ∃ e, H' r = some (.tup [.str p, .ref e]) ∧ Fp e) rs l → ∃ r : Str → Addr, PrG (fun p => .ref (r p)) H' rs l ∧ ∀ p ∈ l, Fp (r p)
  | [], [], _, .nil => ⟨fun _ => 0, .nil, fun p h => by cases h⟩
  | t0 :: rs, p :: l, nd, .cons h t => by
    obtain ⟨e, h1, h2⟩ := h
    obtain ⟨np, nd⟩ := List.nodup_cons.mp nd
    obtain ⟨r, g1, g2⟩ := prs_choose nd t
    refine ⟨fun a => if a = p then e else r a, .cons (by show H' t0 = some (.tup [.str p, .ref (if p = p then e else r p)]); rw [if_pos rfl]; exact h1) (pair_congr g1 fun x y hy q => ?_), fun a ha => ?_⟩
    · show H' x = some (.tup [.str y, .ref (if y = p then e else r y)])
      rw [if_neg fun z => np (by rw [← z]; exact hy)]
      exact q
    · show Fp (if a = p then e else r a)
      rcases List.mem_cons.mp ha with rfl | ha
      · rw [if_pos rfl]
        exact h2
      · rw [if_neg fun z => np (by rw [← z]; exact ha)]
        exact g2 a ha
/-- the values of who moves -/
theorem mvs_vals (c : Str → Int) : ∀ t : List (Str × Str), ∃ ns : List Int, (mvs c t).map (·.2) = ns.map V.int ∧ ns.sum = ((t.map Prod.fst).map fun a => absI (c a)).sum
  | [] => ⟨[], rfl, rfl⟩
  | z :: t => by
    obtain ⟨ns, e1, e2⟩ := mvs_vals c t
    have em : mvs c (z :: t) = mvd c z ++ mvs c t := rfl
    rw [em, List.map_append, e1, List.map_cons, List.map_cons, List.sum_cons, ← e2]
    unfold mvd absI
    by_cases c1 : 0 < c z.1
    · rw [if_pos c1, if_neg (by omega)]
      exact ⟨c z.1 :: ns, rfl, List.sum_cons⟩
    · rw [if_neg c1]
      by_cases c2 : c z.1 < 0
      · rw [if_pos c2, if_pos c2]
        exact ⟨- c z.1 :: ns, rfl, List.sum_cons⟩
      · rw [if_neg c2, if_neg c2]
        exact ⟨ns, rfl, by omega⟩
end FT


/-! plain: the law's own way to the lists after a change -/
namespace FT
open PySem L2 TL ClX LiI
/-- one more place is done, all that move to it done before -/
theorem moved_next {ts : List (Str × Str)} (o : TreeOk ts) {c : Str → Int} {ds : List Str} {p : Str} (pp : Pl ts p) (dpl : ∀ q ∈ ds, Pl ts q) (fresh : p ∉ ds) (cl : ∀ q ∈ ds, ∀ s, 0 < lv ts c s q → s ∈ ds) {L F : Str → List Int} {G G' : Str → Str → List Int} {row : List Int}
    (h1 : ∀ q ∈ ds, (∀ o ∈ adj ts q, (G q o).length = lv ts c q o) ∧ L q ++ ins ts G q = F q ++ outs ts G q) (h2 : ∀ q, q ∉ ds → ∀ b, G q b = [])
    (e : L p ++ ins ts G p = row ++ ((adj ts p).reverse.map (G' p)).flatten) (l : ∀ o ∈ adj ts p, (G' p o).length = lv ts c p o) (s : ∀ a b, a ≠ p → G' a b = G a b) (z : ∀ b, b ∉ adj ts p → G' p b = []) :
    (∀ q ∈ ds ++ [p], (∀ o ∈ adj ts q, (G' q o).length = lv ts c q o) ∧ L q ++ ins ts G' q = (if q = p then row else F q) ++ outs ts G' q) ∧ ∀ q, q ∉ ds ++ [p] → ∀ b, G' q b = [] := by
  have insp : ins ts G' p = ins ts G p := flat_congr fun x hx => s x p fun e => adj_irr o pp (by have w := List.mem_reverse.mp hx; rw [e] at w; exact w)
  refine ⟨fun q hq => ?_, fun q hq b => ?_⟩
  · by_cases eq : q = p
    · subst eq
      rw [if_pos rfl]
      exact ⟨l, by rw [insp]; exact e⟩
    · rw [if_neg eq]
      have hq2 := (List.mem_append.mp hq).resolve_right fun w => eq (List.mem_singleton.mp w)
      obtain ⟨a1, a2⟩ := h1 q hq2
      have pq : Pl ts q := dpl q hq2
      have eo : outs ts G' q = outs ts G q := flat_congr fun x _ => s q x eq
      have ei : ins ts G' q = ins ts G q := flat_congr fun x hx => by
        by_cases ex : x = p
        · subst ex
          have hx := List.mem_reverse.mp hx
          rw [h2 x fresh q]
          have len := l q (adj_sym o pq hx)
          have lz : lv ts c x q = 0 := by
            rcases Nat.eq_zero_or_pos (lv ts c x q) with w | pos
            · exact w
            · exact absurd (cl q hq2 x pos) fresh
          rw [lz] at len
          exact List.length_eq_zero_iff.mp len
        · exact s x q ex
      exact ⟨fun x hx => by rw [s q x eq]; exact a1 x hx, by rw [ei, eo]; exact a2⟩
  · have n1 : q ∉ ds := fun w => hq (List.mem_append_left _ w)
    have n2 : q ≠ p := fun w => hq (List.mem_append_right _ (List.mem_singleton.mpr w))
    rw [s q b n2]
    exact h2 q n1 b
theorem valV_is {κ : Type} [DecidableEq κ] {kvs : List (κ × V)} {k : κ} {v : V} (h : valV kvs k = some v) : (k, v) ∈ kvs := by
  unfold valV at h
  obtain ⟨p, hp, e⟩ := Option.map_eq_some_iff.mp h
  have m := List.mem_of_find?_eq_some hp
  have d := of_decide_eq_true (List.find?_some (p := fun kv : κ × V => decide (kv.1 = k)) hp)
  rw [← e, ← d]
  exact m
theorem valV_of {κ : Type} [DecidableEq κ] {kvs : List (κ × V)} {k : κ} {v : V} (h : (k, v) ∈ kvs) : ∃ v', valV kvs k = some v' := by
  cases e : valV kvs k with
  | some v' => exact ⟨v', rfl⟩
  | none =>
    unfold valV at e
    have n := List.find?_eq_none.mp (Option.map_eq_none_iff.mp e) _ h
    exact absurd (decide_eq_true rfl) n
theorem lv_perm {t ts : List (Str × Str)} (o : TreeOk t) (pm : ts.Perm t) (c : Str → Int) (a b : Str) : lv t c a b = lv ts c a b := by
  unfold lv
  rw [par_perm o.nd pm.symm b, par_perm o.nd pm.symm a]
theorem mvs_val {c : Str → Int} {t ts : List (Str × Str)} (o : TreeOk t) (pm : ts.Perm t) (s g : Str) : valV (mvs c t) [Sum.inr s, Sum.inr g] = if 0 < lv ts c s g then some (.int (lv ts c s g : Int)) else none := by
  rw [← lv_perm o pm]
  by_cases h : 0 < lv t c s g
  · rw [if_pos h]
    obtain ⟨v', e⟩ := valV_of ((mvs_lv o).mpr ⟨h, rfl⟩)
    rw [e, ((mvs_lv o).mp (valV_is e)).2]
  · rw [if_neg h]
    cases e : valV (mvs c t) [Sum.inr s, Sum.inr g] with
    | none => rfl
    | some v => exact absurd ((mvs_lv o).mp (valV_is e)).1 h
/-- there are as many as are wanted -/
theorem room_fea {ts : List (Str × Str)} (o : TreeOk ts) {n : Nat} {L : Str → List Int} (hV : Val ts n L) {sn : Str → Int} (fe : Fea ts n sn) {p : Str} (hp : Pl ts p) :
    ((adj ts p).map fun o => (lv ts (fun x => sn x - lsz ts L x) p o : Int)).sum ≤ ((L p).length : Int) + ((adj ts p).map fun o => (lv ts (fun x => sn x - lsz ts L x) o p : Int)).sum := by
  have net := lv_net o (fun x => sn x - lsz ts L x) hp
  have len := lsz_lens o (val_len hV) p hp
  have re := fe.res p (mem_pls.mpr hp)
  unfold resid at len re
  have e1 : ((kids ts p).map fun x => sn x - lsz ts L x).sum = ((kids ts p).map sn).sum - ((kids ts p).map (lsz ts L)).sum := sum_map_sub _ _ _
  have e2 : (if p = "" then 0 else sn p - lsz ts L p) = (if p = "" then (n : Int) else sn p) - (if p = "" then (n : Int) else lsz ts L p) := by
    by_cases e : p = ""
    · rw [if_pos e, if_pos e, if_pos e]
      omega
    · rw [if_neg e, if_neg e, if_neg e] <;> rfl
  omega
end FT


/-! == of two lists of other lengths -/
namespace L2
open PySem PySem.Spec PyProof.Rows
section
variable {X : Cx}
def rEqLen : R2 := fun x y H Q => ∃ a b xs ys, x = .ref a ∧ y = .ref b ∧ H a = some (.lst xs) ∧ H b = some (.lst ys) ∧ xs.length ≠ ys.length ∧ Q (.bl false) H
theorem op_eqLen (hu : X.A.units < cLine) : OpR X (compareOp .Eq) rEqLen := by
  intro pins s σ H x y v u Q I rx ry h
  obtain ⟨a, b, xs, ys, rfl, rfl, ea, eb, ne, q⟩ := h
  obtain rfl : v = Value.ref a := rx
  obtain rfl : u = Value.ref b := ry
  obtain ⟨za, ia, na, ra, la, da⟩ := I.lstM ea
  obtain ⟨zb, ib, nb, rb, lb, db⟩ := I.lstM eb
  refine PySem.SeqAt.eq_list_lengthsAt (items := ia.toArray) (items2 := ib.toArray) ⟨_, da, rfl, _, rfl⟩ ⟨_, db, rfl, _, rfl⟩ ?_ hu ⟨.bl _, H, I, rfl, q⟩
  rw [List.size_toArray, List.size_toArray, bne_iff_ne]
  have h1 : xs.length = ia.length := by first | exact la | exact ra.length | exact la.symm
  have h2 : ys.length = ib.length := by first | exact lb | exact rb.length | exact lb.symm
  omega
end
end L2


/-! xs == [] and xs != [], whatever the items -/
namespace L2
open PySem PySem.Spec PyProof.Rows
section
variable {X : Cx}
def rNeLen : R2 := fun x y H Q => ∃ a b xs ys, x = .ref a ∧ y = .ref b ∧ H a = some (.lst xs) ∧ H b = some (.lst ys) ∧ xs.length ≠ ys.length ∧ Q (.bl true) H
theorem op_neLen (hu : X.A.units < cLine) : OpR X (compareOp .NotEq) rNeLen := by
  intro pins s σ H x y v u Q I rx ry h
  obtain ⟨a, b, xs, ys, rfl, rfl, ea, eb, ne, q⟩ := h
  obtain rfl : v = Value.ref a := rx
  obtain rfl : u = Value.ref b := ry
  obtain ⟨za, ia, na, ra, la, da⟩ := I.lstM ea
  obtain ⟨zb, ib, nb, rb, lb, db⟩ := I.lstM eb
  refine PySem.SeqAt.RcNeAt.lists_lengths (items := ia.toArray) (items2 := ib.toArray) ⟨_, da, rfl, _, rfl⟩ ⟨_, db, rfl, _, rfl⟩ ?_ hu _ _ _ _ ⟨.bl _, H, I, rfl, q⟩
  rw [List.size_toArray, List.size_toArray, bne_iff_ne]
  have h1 : xs.length = ia.length := by first | exact la | exact ra.length | exact la.symm
  have h2 : ys.length = ib.length := by first | exact lb | exact rb.length | exact lb.symm
  omega
def rEqNil : R2 := fun x y H Q => ∃ a b xs, x = .ref a ∧ y = .ref b ∧ H a = some (.lst xs) ∧ H b = some (.lst []) ∧ Q (.bl (decide (xs.length = 0))) H
def rNeNil : R2 := fun x y H Q => ∃ a b xs, x = .ref a ∧ y = .ref b ∧ H a = some (.lst xs) ∧ H b = some (.lst []) ∧ Q (.bl (!decide (xs.length = 0))) H
theorem op_eqNil (hu : X.A.units + 64 < cLine) : OpR X (compareOp .Eq) rEqNil := by
  intro pins s σ H x y v u Q I rx ry h
  obtain ⟨a, b, xs, rfl, rfl, ea, eb, q⟩ := h
  cases xs with
  | nil => exact op_eqD hu pins s σ H _ _ v u Q I rx ry ⟨.list [], .list [], .lst (SqL.of ea) .nil, .lst (SqL.of eb) .nil, rfl, rfl, q⟩
  | cons x xs => exact op_eqLen (by omega) pins s σ H _ _ v u Q I rx ry ⟨a, b, _, _, rfl, rfl, ea, eb, Nat.succ_ne_zero _, q⟩
theorem op_neNil (hu : X.A.units + 64 < cLine) : OpR X (compareOp .NotEq) rNeNil := by
  intro pins s σ H x y v u Q I rx ry h
  obtain ⟨a, b, xs, rfl, rfl, ea, eb, q⟩ := h
  cases xs with
  | nil => exact op_neD hu pins s σ H _ _ v u Q I rx ry ⟨.list [], .list [], .lst (SqL.of ea) .nil, .lst (SqL.of eb) .nil, rfl, rfl, q⟩
  | cons x xs => exact op_neLen (by omega) pins s σ H _ _ v u Q I rx ry ⟨a, b, _, _, rfl, rfl, ea, eb, Nat.succ_ne_zero _, q⟩
end
end L2


/-! _law_led: the lists after a change, by the documented rule -/
namespace FT
open PySem L2 TL ClX LiI
def spLed : Sp := fun vs H Q _ => ∃ (q sh fr : Addr) (t ts : List (Str × Str)) (r : Str → Addr) (L : Str → List Int) (n : Nat) (kf : List (Key × V)) (sn : Str → Int), vs = [.ref q, .ref sh, .ref fr] ∧ H q = some (.dK (prs t)) ∧ TreeOk t ∧ ts.Perm t ∧ Asc ts ∧ LsAt H sh (pls ts) r L ∧ Val ts n L ∧ n ≤ 60 ∧ H fr = some (.dK kf) ∧ (∀ z ∈ t, valV kf (Sum.inr z.1) = some (.int (sn z.1))) ∧ Fea ts n sn ∧
  ∀ (p : Addr) (r' : Str → Addr) (L' : Str → List Int) (H' : Hp), Same H H' → H p = none → (∀ a ∈ pls ts, H (r' a) = none) → Moved ts (fun x => sn x - lsz ts L x) L L' → LsAt H' p (pls ts) r' L' → Q (.ref p) H'
/-- who moves, in the dict at mv -/
def MvAt (H : Hp) (mv : Addr) (ts : List (Str × Str)) (c : Str → Int) : Prop := ∃ kl, H mv = some (.dT kl) ∧ ∀ s g, valV kl [Sum.inr s, Sum.inr g] = if 0 < lv ts c s g then some (.int (lv ts c s g : Int)) else none
section
variable {P : Program} {w : World} {K : PySem.W.Frag} {mg : Str → Option Value} {base : Heap}
abbrev NLed : List Str := ["_law_parents", "_law_shelf", "_law_fresh", "_law_places_here", "_law_moving_here", "_law_found", "_law_groups", "_law_waiting", "_law_one", "_law_other", "_law_place", "_law_row", "_law_cut"]
theorem scLed : FnScope NLed ["_law_parents", "_law_shelf", "_law_fresh"] (defScope s__law_led) := ⟨rfl, rfl, rfl, by decide +kernel, rfl, by decide +kernel, by decide +kernel⟩
theorem ok_led {f fP fC fM fN : Addr} {fd fdP fdC fdM fdN : FuncData} (F : Fun K "_law_led" "_law_led" s__law_led f fd) (T : Nm mg) (DP : Dn P w K mg base CX0 1 "_law_places" ["_law_shelf"] spLPlaces fP fdP) (DC : Dn P w K mg base CX0 2 "_law_counted" ["_law_parents", "_law_places_here"] spCounted fC fdC)
    (DM : Dn P w K mg base CX0 1 "_law_moving" ["_law_parents", "_law_old", "_law_fresh"] spMoving fM fdM) (DN : Dn P w K mg base CX0 1 "_law_near" ["_law_parents", "_law_place"] spNear fN fdN) : FnOk P w K mg base CX0 3 f fd ["_law_parents", "_law_shelf", "_law_fresh"] spLed := by
  refine F.ok scLed (fun vs H Q E h => ?_) (fun cdv A outer s H vs Q E hr h => ?_)
  · obtain ⟨q, sh, fr, t, ts, r, L, n, kf, sn, rfl, _⟩ := h
    rfl
  · obtain ⟨q, sh, fr, t, ts, r, L, n, kf, sn, rfl, hq, ot, pm, asc, hL, hV, n60, hf, vf, fe, k⟩ := h
    have hu := hu_of hr
    have hr1 : Room 1 _ := hr.mono (by decide)
    have hr2 : Room 2 _ := hr.mono (by decide)
    have nd := scLed.nd
    have big : 100000 ≤ sizeLine := by decide
    have o : TreeOk ts := ot.perm pm.symm
    have few := o.few
    have pnd := pls_nd o
    have pln := pls_len ts
    refine ⟨_, pss_cons (ps_set (i := 3) nd rfl (.inl rfl) (pe_call DP.ok hr1 rfl DP.mgn DP.kp DP.bn .nil pass0 (pa_cons (pv 1) pa_nil)))
      (pss_cons (ps_set (i := 4) nd rfl (.inr rfl) (pe_call DM.ok hr1 rfl DM.mgn DM.kp DM.bn .nil pass0 (pa_cons (pv 0) (pa_cons (pe_call DC.ok hr2 rfl DC.mgn DC.kp DC.bn .nil pass0 (pa_cons (pv 0) (pa_cons (pv 3) pa_nil))) (pa_cons (pv 2) pa_nil)))))
      (pss_cons (ps_asg (pe_tup (pa_cons pe_dnewK (pa_cons pe_dnewT (pa_cons (pe_op op_cat (pe_lst (pa_cons pe_str pa_nil)) (pe_callB (call_sortedD rfl) (by rfl) T.srt (by decide +kernel) (pa_cons (pv 0) pa_nil))) pa_nil)))) (pg_tup rfl (pgs_cons (pg_name (i := 5) nd rfl (.inr rfl)) (pgs_cons (pg_name (i := 6) nd rfl (.inl rfl)) (pgs_cons (pg_name (i := 7) nd rfl (.inr rfl)) pgs_nil)))))
      (pss_cons (ps_while PassesOwn.never (pt_cmpR (op_neNil hr.units) (pv 7) (pe_lst pa_nil) (nomark _))
        (pss_cons (ps_set (i := 10) nd rfl (.inl rfl) (pe_ix ix_list (pe_lc (own := [("_law_one", 8)]) (g := gName 8) (tt := tTest (tOp rEqNil (tLc (iList K (tVar 7)) (gName 9) (tB (tDIn (tTup (tCons (tVar 9) (tCons (tVar 8) tNil))) (tVar 4))) (tC (.int 1)) [9]) (tLst tNil))) (te := tVar 8) rfl nd (pi_list (pv 7)) (blkOk_by (N := NLed) (sc := defScope s__law_led) (by decide +kernel)) (fun _ _ _ _ _ => pg_name (i := 8) nd rfl (Or.inr rfl))
            (fun _ _ _ _ _ => pts_one (pt_cmpR (op_eqNil hr.units) (pe_lc (own := [("_law_other", 9)]) (g := gName 9) (tt := tB (tDIn (tTup (tCons (tVar 9) (tCons (tVar 8) tNil))) (tVar 4))) (te := tC (.int 1)) rfl nd (pi_list (pv 7)) (by refine blkOk_by ?_; rfl) (fun _ _ _ _ _ => pg_name (i := 9) nd rfl (Or.inl rfl))
              (fun _ _ _ _ _ => pts_one (pt_cmp (pc_din hu (pe_tup (pa_cons (pv 9) (pa_cons (pv 8) pa_nil))) (pv 4)) rfl)) (fun _ _ _ _ _ => pe_int)) (pe_lst pa_nil) (nomark _))) (fun _ _ _ _ _ => pv 8)) pe_int (fun _ _ => rfl)))
        (pss_cons (ps_expr (pe_bm PySem.F.plainAttrs_list PySem.F.slot_list_remove PySem.F.type_list_remove mt_removeS (pv 7) (pa_cons (pv 10) pa_nil)))
        (pss_cons (ps_set (i := 11) nd rfl (.inl rfl) (pe_callTy call_list_of (by rfl) T.lst (by decide +kernel) (pa_cons (pe_dget hu (pv 1) (pv 10) (fun _ _ => rfl)) pa_nil)))
        (pss_cons (ps_for PassesOwn.never rfl (pi_list (pe_revL (pe_call DN.ok hr1 rfl DN.mgn DN.kp DN.bn .nil pass0 (pa_cons (pv 0) (pa_cons (pv 10) pa_nil))))) (pg_name (i := 9) nd rfl (.inl rfl))
          (pss_one (ps_set (i := 11) nd rfl (.inl rfl) (pe_op op_cat (pv 11) (pe_dget2 hu (pv 6) (pe_tup (pa_cons (pv 9) (pa_cons (pv 10) pa_nil))) (pe_lst pa_nil) ⟨rfl, rfl, rfl, rfl⟩)))))
        (pss_cons (ps_for PassesOwn.never rfl (pi_list (pe_call DN.ok hr1 rfl DN.mgn DN.kp DN.bn .nil pass0 (pa_cons (pv 0) (pa_cons (pv 10) pa_nil)))) (pg_name (i := 9) nd rfl (.inl rfl))
          (pss_one (ps_if (pt_cmp (pc_din hu (pe_tup (pa_cons (pv 10) (pa_cons (pv 9) pa_nil))) (pv 4)) rfl)
            (pss_cons (ps_set (i := 12) nd rfl (.inl rfl) (pe_op op_sub (pe_callB call_len_seq (by rfl) T.len PySem.boot_len (pa_cons (pv 11) pa_nil)) (pe_dget hu (pv 4) (pe_tup (pa_cons (pv 10) (pa_cons (pv 9) pa_nil))) (fun _ _ => rfl))))
            (pss_cons (ps_dput hu (pv 6) (pe_tup (pa_cons (pv 10) (pa_cons (pv 9) pa_nil))) (pe_slice sl_list (pv 11) (po_some (pv 12)) po_none) rfl)
            (pss_one (ps_set (i := 11) nd rfl (.inl rfl) (pe_slice sl_list (pv 11) po_none (po_some (pv 12))))))) pss_nil)))
        (pss_one (ps_dput hu (pv 5) (pv 10) (pv 11) rfl))))))))
      (pss_one (ps_ret (pe_callTy (call_dictP rfl) (by rfl) T.dct (by decide +kernel) (pa_cons (pe_lc (own := [("_law_place", 10)]) (g := gName 10) (tt := tYes) (te := tTup (tCons (tVar 10) (tCons (tDGet (tVar 5) (tVar 10)) tNil))) rfl nd (pi_list (pe_op op_cat (pe_lst (pa_cons pe_str pa_nil)) (pe_callB (call_sortedD rfl) (by rfl) T.srt (by decide +kernel) (pa_cons (pv 0) pa_nil)))) (blkOk_by (N := NLed) (sc := defScope s__law_led) (by decide +kernel))
        (fun _ _ _ _ _ => pg_name (i := 10) nd rfl (Or.inl rfl)) (fun _ _ _ _ _ => pts_nil) (fun _ _ _ _ _ => pe_tup (pa_cons (pv 10) (pa_cons (pe_dget hu (pv 5) (pv 10) (fun _ _ => rfl)) pa_nil)))) pa_nil))))))), ?_⟩
    obtain ⟨c, ec⟩ : ∃ c : Str → Int, c = fun x => sn x - lsz ts L x := ⟨_, rfl⟩
    have room := fun p (hp : Pl ts p) => room_fea o hV fe hp
    rw [← ec] at k room
    -- the places, who moves
    refine ⟨_, rfl, sh, ts, r, L, n, rfl, o, hL, hV, n60, fun pz H1 s1 npz hpz => ?_⟩
    have ptk : ∀ a, a ∈ ts.map Prod.fst ↔ a ∈ t.map Prod.fst := fun a => (pm.map Prod.fst).mem_iff
    have plT : ∀ z ∈ (usr n).map (plOf ts L), Pl t z := fun z hz => (plZ_pl hV z hz).imp id fun m => (ptk z).mp m
    refine ⟨_, rfl, _, rfl, _, rfl, q, pz, t, _, rfl, s1 _ _ hq, ot, hpz, plT, fun ks pc H2 s12 npc pks srt hpc => ?_⟩
    have s2 := s1.trans s12
    have cnt : ∀ z ∈ t, valV (tblI ks (szZ t ((usr n).map (plOf ts L)))) (Sum.inr z.1) = some (.int (lsz ts L z.1)) := fun z hz => by
      have mk : z.1 ∈ t.map Prod.fst := List.mem_map.mpr ⟨z, hz, rfl⟩
      rw [tblI_val (pks.mem_iff.mpr mk)]
      have e : szZ t ((usr n).map (plOf ts L)) z.1 = szZ ts ((usr n).map (plOf ts L)) z.1 := by
        unfold szZ
        congr 3
        funext y
        rw [path_perm ot.nd pm.symm]
      rw [e, szZ_plZ o hV ((ptk _).mpr mk)]
    refine ⟨_, rfl, q, pc, fr, t, _, kf, lsz ts L, sn, rfl, s2 _ _ hq, ot, hpc, s2 _ _ hf, fun z hz => ⟨cnt z hz, vf z hz⟩, fun mv H3 s23 nmv hmv => ?_⟩
    have s3 := s2.trans s23
    rw [← ec] at hmv
    -- found, groups, waiting
    refine fun fd nfd => fun gr ngr => ⟨by show 1 ≤ sizeLine; omega, fun p1 m1 => ?_⟩
    have sfd : Same H3 (upd H3 fd (.dK [])) := same_new nfd
    have sgr : Same (upd H3 fd (.dK [])) (upd (upd H3 fd (.dK [])) gr (.dT [])) := same_new ngr
    have sp1 := same_new (o := .lst [V.str ""]) m1
    have s3p := (sfd.trans sgr).trans sp1
    have fewt := ot.few
    refine ⟨_, rfl, q, prs t, t.map Prod.fst, rfl, .inl (s3p _ _ (s3 _ _ hq)), prs_keys t, by rw [List.length_map]; omega, fun ks2 p2 pks2 srt2 m2 => ?_⟩
    obtain rfl : ks2 = ts.map Prod.fst := sorted_one (pks2.trans (pm.map _).symm) srt2 asc
    have sp2 := same_new (o := .lst ((ts.map Prod.fst).map V.str)) m2
    refine ⟨p1, p2, _, _, rfl, rfl, sp2 _ _ upd_same, upd_same, by rw [List.length_map, List.length_map]; show 1 + _ ≤ _; omega, fun wt m3 => ⟨by show 3 ≤ sizeLine; omega, fun tp ntp => ⟨tp, _, rfl, .inl (.inl upd_same), rfl, _, _, rfl, _, _, rfl, _, _, rfl, rfl, ?_⟩⟩⟩
    have sp3 := same_new (o := .lst ([V.str ""] ++ (ts.map Prod.fst).map V.str)) m3
    have stp := same_new (o := .tup [.ref fd, .ref gr, .ref wt]) ntp
    obtain ⟨H4, e4⟩ : ∃ X, X = upd (upd (upd (upd (upd (upd H3 fd (.dK [])) gr (.dT [])) p1 (.lst [V.str ""])) p2 (.lst ((ts.map Prod.fst).map V.str))) wt (.lst ([V.str ""] ++ (ts.map Prod.fst).map V.str))) tp (.tup [.ref fd, .ref gr, .ref wt]) := ⟨_, rfl⟩
    have s34 : Same H3 H4 := e4 ▸ ((s3p.trans sp2).trans sp3).trans stp
    have hfd4 : H4 fd = some (.dK []) := by rw [e4]; exact stp _ _ (sp3 _ _ (sp2 _ _ (sp1 _ _ (sgr _ _ upd_same))))
    have hgr4 : H4 gr = some (.dT []) := by rw [e4]; exact stp _ _ (sp3 _ _ (sp2 _ _ (sp1 _ _ upd_same)))
    have hwt4 : H4 wt = some (.lst ((pls ts).map V.str)) := by rw [e4]; exact stp _ _ upd_same
    rw [← e4]
    have fd0 : H fd = none := s3.free nfd
    have gr0 : H gr = none := (s3.trans sfd).free ngr
    have wt0 : H wt = none := ((s3.trans s3p).trans sp2).free m3
    have mvfd : mv ≠ fd := ne_of_none hmv nfd
    have mvgr : mv ≠ gr := ne_of_none (sfd _ _ hmv) ngr
    have mvwt : mv ≠ wt := ne_of_none ((s3p.trans sp2) _ _ hmv) m3
    clear e4 stp sp3 sp2 s3p sp1 sgr sfd
    have mv4 := s34 _ _ hmv
    have s04 := s3.trans s34
    have fdgr : gr ≠ fd := ne_of hgr4 hfd4 (by intro z; cases z)
    have wtfd : wt ≠ fd := ne_of hwt4 hfd4 (by intro z; cases z)
    have wtgr : wt ≠ gr := ne_of hwt4 hgr4 (by intro z; cases z)
    have cb : ∀ a ∈ ts.map Prod.fst, -60 ≤ c a ∧ c a ≤ 60 := fun a ha => by
      have h1 := lsz_bd o hV ha
      have h2 := fe.nn a ha
      have h3 := sz_le o (s := sn) (n := n) fe.nn (fun p hp => fe.res p (mem_pls.mpr hp)) ha
      rw [ec]
      show _ ≤ sn a - lsz ts L a ∧ sn a - lsz ts L a ≤ _
      omega
    have lvb : ∀ a b, lv ts c a b ≤ 60 := fun a b => by
      have := lv_le (ts := ts) cb (by decide) a b
      omega
    refine while_by (fun σ H' => (∃ u9 u10 u11 u12, σ = [some (.ref q), some (.ref sh), some (.ref fr), some (.ref pz), some (.ref mv), some (.ref fd), some (.ref gr), some (.ref wt), none, u9, u10, u11, u12]) ∧ (∀ b u, b ≠ gr → b ≠ fd → b ≠ wt → H4 b = some u → H' b = some u) ∧
        ∃ (ds rest : List Str) (G : Str → Str → List Int) (F : Str → List Int) (rF : Str → Addr), H' wt = some (.lst (rest.map V.str)) ∧ (ds ++ rest).Perm (pls ts) ∧ (∀ q ∈ ds, ∀ s, 0 < lv ts c s q → s ∈ ds) ∧ GrAt H' gr G (13 * ds.length) ∧ H' fd = some (.dK (tblV ds fun p => .ref (rF p))) ∧ (∀ p ∈ ds, H' (rF p) = some (.lst ((F p).map V.int)) ∧ H (rF p) = none) ∧
          (∀ p ∈ ds, (∀ o ∈ adj ts p, (G p o).length = lv ts c p o) ∧ L p ++ ins ts G p = F p ++ outs ts G p) ∧ ∀ p, p ∉ ds → ∀ b, G p b = []) (fun _ H' => many H' wt)
      ⟨⟨_, _, _, _, rfl⟩, fun _ _ _ _ _ z => z, [], pls ts, fun _ _ => [], fun _ => [], fun _ => 0, hwt4, .refl _, fun q h => (by cases h), ⟨[], hgr4, Nat.le_refl _, fun _ _ => .inl ⟨rfl, rfl⟩⟩, hfd4, fun p h => (by cases h), fun p h => (by cases h), fun _ _ _ => rfl⟩ ?_ ?_
    · rintro σ H5 ⟨⟨u9, u10, u11, u12, rfl⟩, kp, ds, rest, G, F0, rF, hwt, pmr, cl, hG, hfd, hrF, hdone, hrest⟩
      have lens := pmr.length_eq
      rw [List.length_append] at lens
      have ndr : (ds ++ rest).Nodup := pmr.nodup_iff.mpr pnd
      have mv5 := kp _ _ mvgr mvfd mvwt mv4
      refine ⟨_, rfl, by show 0 ≤ sizeLine; omega, fun z nz => ⟨wt, z, _, rfl, rfl, (upd_ne (ne_of_none hwt nz)).trans hwt, upd_same, ?_⟩⟩
      obtain ⟨H6, e6⟩ : ∃ X, X = upd H5 z (.lst []) := ⟨_, rfl⟩
      have s56 : Same H5 H6 := e6 ▸ same_new nz
      rw [← e6]
      clear e6
      refine ⟨_, rfl, ite2 (fun tr => ?_) (fun tr => ?_)⟩
      · have rne : rest ≠ [] := fun z => by
          rw [z] at tr
          exact absurd tr (by decide)
        have hwt6 := s56 _ _ hwt
        have mv6 := s56 _ _ mv5
        -- who waits for none
        refine ⟨_, rfl, wt, rfl, ⟨_, SqL.of hwt6⟩, fun D1 nD1 => ?_⟩
        refine lc_it walk_list (fun i H' => Same H6 H' ∧ H' D1 = some (.lst (((rest.take i).filter fun a => decide ((rest.filter fun b => decide (0 < lv ts c b a)).length = 0)).map V.str))) ⟨same_new nD1, upd_same⟩ (fun i H' _ z => SqL.of (z.1 _ _ hwt6)) ?_ ?_
        · intro i y Hc Hd hi ⟨q1, q2⟩ ⟨eb, ey⟩
          subst eb
          obtain ⟨a, ha, rfl⟩ := map_of ey
          have more := filter_more (c := fun a => decide ((rest.filter fun b => decide (0 < lv ts c b a)).length = 0)) ha
          have fl := List.length_filter_le (fun a => decide ((rest.filter fun b => decide (0 < lv ts c b a)).length = 0)) (rest.take i)
          rw [List.length_take] at fl
          refine ⟨rfl, ?_⟩
          refine ⟨_, rfl, wt, rfl, ⟨_, SqL.of (q1 _ _ hwt6)⟩, fun D2 nD2 => ?_⟩
          refine lc_it walk_list (fun j H' => Same Hd H' ∧ H' D2 = some (.lst (((rest.take j).filter fun b => decide (0 < lv ts c b a)).map fun _ => V.int 1))) ⟨same_new nD2, upd_same⟩ (fun j H' _ z => SqL.of (z.1 _ _ (q1 _ _ hwt6))) ?_ ?_
          · intro j y Hx Hy hj ⟨z1, z2⟩ ⟨eb, ey⟩
            subst eb
            obtain ⟨b, hb, rfl⟩ := map_of ey
            have more2 := filter_more (c := fun b => decide (0 < lv ts c b a)) hb
            have fl2 := List.length_filter_le (fun b => decide (0 < lv ts c b a)) (rest.take j)
            rw [List.length_take] at fl2
            refine ⟨rfl, ?_⟩
            refine ⟨_, rfl, _, rfl, by show 2 ≤ sizeLine; omega, fun tq ntq => ?_⟩
            have st := same_new (o := .tup [.str b, .str a]) ntq
            refine ⟨_, rfl, mv, _, rfl, DGet.t (k := [Sum.inr b, Sum.inr a]) (st _ _ (z1 _ _ (q1 _ _ mv6))) upd_same, _, rfl, ?_⟩
            rw [mvs_val ot pm]
            by_cases pos : 0 < lv ts c b a
            · rw [if_pos pos]
              rw [if_pos (decide_eq_true pos)] at more2
              exact iteT ⟨_, st _ _ z2, by rw [List.length_map]; omega, (z1.trans st).put nD2, by rw [upd_same, more2, List.map_append] <;> rfl⟩
            · rw [if_neg pos]
              rw [if_neg (fun z => pos (of_decide_eq_true z)), List.append_nil] at more2
              exact iteF ⟨z1.trans st, by rw [more2]; exact st _ _ z2⟩
          · intro H8 ⟨z1, z2⟩
            rw [List.length_map, List.take_length] at z2
            refine ⟨by show 0 ≤ sizeLine; omega, fun z3 nz3 => ⟨D2, z3, _, rfl, rfl, (upd_ne (ne_of_none z2 nz3)).trans z2, upd_same, _, rfl, ?_⟩⟩
            have sx := z1.trans (same_new (o := .lst []) nz3)
            rw [List.length_map]
            refine ite2 (fun yes => ?_) (fun no => ?_)
            · rw [if_pos yes] at more
              exact ⟨_, rfl, _, sx _ _ q2, by rw [List.length_map]; omega, (q1.trans sx).put nD1, by rw [upd_same, more, List.map_append] <;> rfl⟩
            · rw [if_neg no, List.append_nil] at more
              exact ⟨q1.trans sx, by rw [more]; exact sx _ _ q2⟩
        intro H8 ⟨s68, hD1⟩
        rw [List.length_map, List.take_length] at hD1
        obtain ⟨cand, ecd⟩ : ∃ cand, cand = rest.filter fun a => decide ((rest.filter fun b => decide (0 < lv ts c b a)).length = 0) := ⟨_, rfl⟩
        rw [← ecd] at hD1
        have free : ∀ p, p ∈ cand ↔ p ∈ rest ∧ ∀ b ∈ rest, ¬ 0 < lv ts c b p := fun p => by
          rw [ecd, List.mem_filter, decide_eq_true_iff, List.length_eq_zero_iff, List.filter_eq_nil_iff]
          exact ⟨fun h => ⟨h.1, fun b hb w => h.2 b hb (decide_eq_true w)⟩, fun h => ⟨h.1, fun b hb w => h.2 b hb (of_decide_eq_true w)⟩⟩
        have ne : cand ≠ [] := by
          obtain ⟨p, hp, mn⟩ := min_mem (lvl ts c) rne
          refine List.ne_nil_of_mem ((free p).mpr ⟨hp, fun b hb pos => ?_⟩)
          have := lvl_up o pos
          have := mn b hb
          omega
        obtain ⟨p, cs, ecs⟩ := List.exists_cons_of_ne_nil ne
        have pc := (free p).mp (by rw [ecs]; exact List.mem_cons_self ..)
        rw [ecs] at hD1
        refine ⟨D1, _, 0, .str p, rfl, rfl, SqL.of hD1, atI_nat (xs := (p :: cs).map V.str) (j := 0) (v := .str p) rfl, ?_⟩
        have s58 : Same H5 H8 := s56.trans s68
        have hwt8 := s58 _ _ hwt
        obtain ⟨j, hj, ej⟩ := List.mem_iff_getElem.mp pc.1
        have ej' : rest[j]? = some p := List.getElem?_eq_some_iff.mpr ⟨hj, ej⟩
        have nrest : rest.Nodup := (List.nodup_append.mp ndr).2.1
        refine ⟨_, rfl, .inl ⟨rfl, _, SqL.of hwt8⟩, _, rfl, wt, rest, p, j, rfl, rfl, hwt8, ej', fun m hm em => ?_, ?_⟩
        · have := (List.getElem?_inj (by omega) nrest).mp (em.trans ej'.symm)
          omega
        obtain ⟨Ha, ea⟩ : ∃ X, X = upd H8 wt (.lst ((rest.eraseIdx j).map V.str)) := ⟨_, rfl⟩
        have hwta : Ha wt = some (.lst ((rest.eraseIdx j).map V.str)) := by rw [ea]; exact upd_same
        have ka : ∀ {b u}, b ≠ wt → H5 b = some u → Ha b = some u := fun {b u} n e => by
          rw [ea, upd_ne n]
          exact s58 _ _ e
        rw [← ea]
        clear ea
        have kpa : ∀ b u, b ≠ gr → b ≠ fd → b ≠ wt → H4 b = some u → Ha b = some u := fun b u n1 n2 n3 e => ka n3 (kp b u n1 n2 n3 e)
        have off : ∀ {b u}, H b = some u → Ha b = some u := fun {b u} e => kpa _ _ (ne_of_none e gr0) (ne_of_none e fd0) (ne_of_none e wt0) (s04 _ _ e)
        have wtI : ∀ {b} {l : List Int}, H5 b = some (.lst (l.map V.int)) → b ≠ wt := fun {b l} e z => by
          rw [z, hwt] at e
          exact strs_ints rne (HO.lst.inj (Option.some.inj e))
        have hGa : GrAt Ha gr G (13 * ds.length) := by
          obtain ⟨kvs, h1, h2, h3⟩ := hG
          exact ⟨kvs, ka wtgr.symm h1, h2, fun a b => (h3 a b).imp id fun ⟨r, e1, e2⟩ => ⟨r, e1, ka (wtI e2) e2⟩⟩
        have hfda := ka wtfd.symm hfd
        have hrFa : ∀ p ∈ ds, Ha (rF p) = some (.lst ((F0 p).map V.int)) ∧ H (rF p) = none := fun p hp => ⟨ka (wtI (hrF p hp).1) (hrF p hp).1, (hrF p hp).2⟩
        have mva := ka mvwt mv5
        have mp : p ∈ pls ts := pmr.mem_iff.mp (List.mem_append_right _ pc.1)
        have pp := mem_pls.mp mp
        have plt : Pl t p := pp.imp id fun m => (ptk p).mp m
        have fresh : p ∉ ds := fun m => (List.nodup_append.mp ndr).2.2 p m p pc.1 rfl
        have new0 : ∀ {H' : Hp} {b : Addr}, (∀ b u, H b = some u → H' b = some u) → H' b = none → H b = none := fun {H' b} s e => by
          cases z : H b with
          | none => rfl
          | some u => rw [s _ _ z] at e; cases e
        -- the list of the place
        refine ⟨_, rfl, _, rfl, sh, .ref (r p), rfl, LsAt.get (LsAt.mono (fun b u => off) hL) mp, r p, _, rfl, .inl (SqL.of (off (hL.2 p mp))), fun ro nro => ?_⟩
        have sro : Same Ha (upd Ha ro (.lst ((L p).map V.int))) := same_new nro
        have ro0 : H ro = none := new0 (fun b u => off) nro
        refine ⟨_, rfl, _, rfl, q, t, ts, p, rfl, sro _ _ (off hq), ot, pm, asc, plt, fun la H6' s6 nla hla => ⟨la, _, rfl, SqL.of hla, fun lb nlb => ⟨lb, rfl, ⟨_, SqL.of upd_same⟩, ?_⟩⟩⟩
        obtain ⟨H7, e7⟩ : ∃ X, X = upd H6' lb (.lst ((adj ts p).map V.str).reverse) := ⟨_, rfl⟩
        have s67 : Same H6' H7 := e7 ▸ same_new nlb
        have hlb : H7 lb = some (.lst ((adj ts p).reverse.map V.str)) := by rw [e7, upd_same, List.map_reverse]
        rw [← e7]
        clear e7
        have sa7 : Same Ha H7 := (sro.trans s6).trans s67
        have hro7 : H7 ro = some (.lst ((L p).map V.int)) := s67 _ _ (s6 _ _ upd_same)
        have al := adj_len ts p
        have gl : ∀ a ∈ adj ts p, (G a p).length ≤ 60 := fun a ha => by
          by_cases da : a ∈ ds
          · rw [(hdone a da).1 p (adj_sym o pp ha)]
            exact lvb a p
          · rw [hrest a da p]
            exact Nat.zero_le _
        have Lp60 : (L p).length ≤ 60 := by
          have := nat_sumL (f := L) (mem_pls.mpr pp)
          rw [val_len hV] at this
          omega
        refine for_it walk_list (fun i σ' H' => (∃ u9 rw', σ' = [some (.ref q), some (.ref sh), some (.ref fr), some (.ref pz), some (.ref mv), some (.ref fd), some (.ref gr), some (.ref wt), none, u9, some (.str p), some (.ref rw'), u12] ∧ H rw' = none ∧ H' rw' = some (.lst ((L p ++ (((adj ts p).reverse.take i).map fun a => G a p).flatten).map V.int))) ∧ Same Ha H' ∧ H' lb = some (.lst ((adj ts p).reverse.map V.str)))
          ⟨⟨_, ro, rfl, ro0, by rw [hro7, List.take_zero, List.map_nil, List.flatten_nil, List.append_nil]⟩, sa7, hlb⟩ (fun i σ' H' _ z => SqL.of z.2.2) ?_ ?_
        · intro i y2 σ2 Hz Hc hi ⟨⟨u9', rw', eσ, rw0, hroc⟩, sc, hlbc⟩ ⟨eb2, ey2⟩
          subst eσ
          subst eb2
          obtain ⟨a, ha, rfl⟩ := map_of ey2
          have ma := List.mem_reverse.mp (List.mem_of_getElem? ha)
          have more := flat_more (fun a => G a p) ha
          have lf : ((((adj ts p).reverse.take i).map fun a => G a p).flatten).length ≤ 13 * 60 := by
            refine Nat.le_trans (flat_le (b := 60) fun z hz => gl z (List.mem_reverse.mp (List.mem_of_mem_take hz))) (Nat.mul_le_mul_right _ ?_)
            rw [List.length_take, List.length_reverse]
            omega
          have lga := gl a ma
          refine ⟨_, rfl, _, rfl, gr, rfl, .inr ?_, _, rfl, _, rfl, by show 2 ≤ sizeLine; omega, fun t0 nt => ⟨by show 0 ≤ sizeLine; omega, fun ex nex => ?_⟩⟩
          · obtain ⟨kvs, h1, _⟩ := hGa
            exact ⟨kvs, .inl (sc _ _ h1)⟩
          obtain ⟨He, ee⟩ : ∃ X, X = upd (upd Hc t0 (.tup [.str a, .str p])) ex (.lst []) := ⟨_, rfl⟩
          have st : Same Hc (upd Hc t0 (.tup [.str a, .str p])) := same_new nt
          have sce : Same Hc He := ee ▸ st.trans (same_new nex)
          have hte : He t0 = some (.tup [.str a, .str p]) := by rw [ee]; exact same_new nex _ _ upd_same
          have hex : He ex = some (.lst []) := by rw [ee]; exact upd_same
          rw [← ee]
          clear ee
          obtain ⟨kvs, h1, h2, h3⟩ := GrAt.mono (sc.trans sce) hGa
          have hroe := sce _ _ hroc
          have fin : ∀ (p2 : Addr) (xs : List V), He p2 = none → xs = ((L p ++ (((adj ts p).reverse.take (i + 1)).map fun a => G a p).flatten).map V.int) →
              (∃ u9 rw', [some (.ref q), some (.ref sh), some (.ref fr), some (.ref pz), some (.ref mv), some (.ref fd), some (.ref gr), some (.ref wt), none, some (.str a), some (.str p), some (.ref p2), u12] = [some (.ref q), some (.ref sh), some (.ref fr), some (.ref pz), some (.ref mv), some (.ref fd), some (.ref gr), some (.ref wt), none, u9, some (.str p), some (.ref rw'), u12] ∧ H rw' = none ∧ (upd He p2 (.lst xs)) rw' = some (.lst ((L p ++ (((adj ts p).reverse.take (i + 1)).map fun a => G a p).flatten).map V.int))) ∧ Same Ha (upd He p2 (.lst xs)) ∧ (upd He p2 (.lst xs)) lb = some (.lst ((adj ts p).reverse.map V.str)) := fun p2 xs np2 exs => by
            have s2 := same_new (o := .lst xs) np2
            refine ⟨⟨_, p2, rfl, new0 (fun b u e => sce _ _ (sc _ _ (off e))) np2, by rw [upd_same, exs]⟩, (sc.trans sce).trans s2, s2 _ _ (sce _ _ hlbc)⟩
          rcases h3 a p with ⟨n1, n2⟩ | ⟨r1, n1, n2⟩
          · refine ⟨none, n1 ▸ DGet.t (k := [Sum.inr a, Sum.inr p]) h1 hte, rw', ex, _, _, rfl, rfl, hroe, hex, by rw [List.length_map, List.length_append]; show _ + 0 ≤ _; omega, fun p2 np2 => ?_⟩
            exact fin p2 _ np2 (by rw [more, n2, List.append_nil, List.append_nil])
          · refine ⟨some (.ref r1), n1 ▸ DGet.t (k := [Sum.inr a, Sum.inr p]) h1 hte, rw', r1, _, _, rfl, rfl, hroe, n2, by rw [List.length_map, List.length_map, List.length_append]; omega, fun p2 np2 => ?_⟩
            exact fin p2 _ np2 (by rw [← List.map_append, more, List.append_assoc])
        intro σ2 H9 ⟨⟨u9', rw', eσ, rw0, hro8⟩, sa9, hlb8⟩
        subst eσ
        rw [List.length_map, List.take_length, show L p ++ ((adj ts p).reverse.map fun a => G a p).flatten = L p ++ ins ts G p from rfl] at hro8
        obtain ⟨T0, eT⟩ : ∃ T0, T0 = L p ++ ins ts G p := ⟨_, rfl⟩
        rw [← eT] at hro8
        have Tlen : ((adj ts p).map fun o => (lv ts c p o : Int)).sum ≤ (T0.length : Int) := by
          have e1 := ins_len (ts := ts) G p
          have e2 : ((adj ts p).map fun o => ((G o p).length : Int)) = (adj ts p).map fun o => (lv ts c o p : Int) := List.map_congr_left fun a ha => by
            by_cases da : a ∈ ds
            · rw [(hdone a da).1 p (adj_sym o pp ha)]
            · rw [hrest a da p]
              rcases Nat.eq_zero_or_pos (lv ts c a p) with z | pos
              · rw [z] <;> rfl
              · have ma : a ∈ rest := by
                  have m := pmr.mem_iff.mpr (mem_pls.mpr (lv_adj o pos).1)
                  exact (List.mem_append.mp m).resolve_left da
                exact absurd pos (pc.2 a ma)
          rw [e2] at e1
          have := room p pp
          rw [eT, List.length_append, Int.natCast_add, e1]
          exact this
        have Tle : T0.length ≤ 2000 := by
          rw [eT, List.length_append]
          have : (ins ts G p).length ≤ 13 * 60 := by
            refine Nat.le_trans (flat_le (b := 60) fun z hz => gl z (List.mem_reverse.mp hz)) (Nat.mul_le_mul_right _ ?_)
            rw [List.length_reverse]
            omega
          omega
        -- cut into groups
        refine ⟨_, rfl, _, rfl, q, t, ts, p, rfl, sa9 _ _ (off hq), ot, pm, asc, plt, fun lc H10 s9 nlc hlc => ⟨lc, rfl, ⟨_, SqL.of hlc⟩, ?_⟩⟩
        have sa10 := sa9.trans s9
        have hG10 := GrAt.mono sa10 hGa
        obtain ⟨kv10, hgr10, _⟩ := id hG10
        have mv10 := sa10 _ _ mva
        have hfd10 := sa10 _ _ hfda
        have lcgr : lc ≠ gr := ne_of hlc hgr10 (by intro z; cases z)
        refine for_it walk_list (fun i σ' H' => (∃ u9 u12 rw', σ' = [some (.ref q), some (.ref sh), some (.ref fr), some (.ref pz), some (.ref mv), some (.ref fd), some (.ref gr), some (.ref wt), none, u9, some (.str p), some (.ref rw'), u12] ∧ H rw' = none ∧ Kp gr H10 H' ∧
            ∃ (row : List Int) (G' : Str → Str → List Int), H' rw' = some (.lst (row.map V.int)) ∧ GrAt H' gr G' (13 * ds.length + i) ∧ T0 = row ++ (((adj ts p).take i).reverse.map (G' p)).flatten ∧ (∀ o ∈ (adj ts p).take i, (G' p o).length = lv ts c p o) ∧ (∀ a b, a ≠ p → G' a b = G a b) ∧ ∀ b, b ∉ (adj ts p).take i → G' p b = []))
          ⟨_, _, rw', rfl, rw0, Kp.of_same fun _ _ e => e, T0, G, s9 _ _ hro8, hG10, by simp, fun a h => by simp at h, fun _ _ _ => rfl, fun b _ => hrest p fresh b⟩ (fun i σ' H' _ ⟨_, _, _, _, _, z, _⟩ => SqL.of (z _ _ lcgr hlc)) ?_ ?_
        · intro i y2 σ2 Hz Hc hi ⟨u9'', u12', rw2, eσ, rw20, kc, row, G', hrw, hG', eT', len', oth', nil'⟩ ⟨eb2, ey2⟩
          subst eσ
          subst eb2
          obtain ⟨a, ha, rfl⟩ := map_of ey2
          have ma := List.mem_of_getElem? ha
          have il := (List.getElem?_eq_some_iff.mp ha).1
          have fa' := nat_fresh (adj_nd o pp) ha
          have mvc := kc _ _ mvgr mv10
          refine ⟨_, rfl, _, rfl, by show 2 ≤ sizeLine; omega, fun tq ntq => ?_⟩
          have st0 := same_new (o := .tup [.str p, .str a]) ntq
          refine ⟨_, rfl, mv, _, rfl, DGet.t (k := [Sum.inr p, Sum.inr a]) (st0 _ _ mvc) upd_same, _, rfl, ?_⟩
          rw [mvs_val ot pm]
          obtain ⟨Hb, eb⟩ : ∃ X, X = upd Hc tq (.tup [.str p, .str a]) := ⟨_, rfl⟩
          rw [← eb] at st0 ⊢
          clear eb
          by_cases pos : 0 < lv ts c p a
          · rw [if_pos pos]
            refine iteT ?_
            -- how many are left
            have rl : T0.length = row.length + ((((adj ts p).take i).reverse.map (G' p)).flatten).length := by rw [← List.length_append, ← eT']
            have gsum : ((((((adj ts p).take i).reverse.map (G' p)).flatten).length : Nat) : Int) = (((adj ts p).take i).map fun o => (lv ts c p o : Int)).sum := by
              rw [flat_len, int_sum, List.map_map, List.map_reverse, sum_rev]
              congr 1
              exact List.map_congr_left fun z hz => by show ((G' p z).length : Int) = _; rw [len' z hz]
            have stl := sum_take_le (f := fun o => lv ts c p o) ha
            have room : lv ts c p a ≤ row.length := by omega
            obtain ⟨lf, elf⟩ : ∃ lf, lf = row.length - lv ts c p a := ⟨_, rfl⟩
            have ilf : (((row.map V.int).length : Nat) : Int) - (lv ts c p a : Int) = (lf : Int) := by
              rw [List.length_map]
              omega
            have vp := mvs_val (c := c) ot pm p a
            rw [if_pos pos] at vp
            refine ⟨_, rfl, rw2, _, rfl, .inl (SqL.of (st0 _ _ hrw)), _, rfl, _, rfl, _, rfl, by show 2 ≤ sizeLine; omega, fun t1 nt1 => ⟨mv, .int (lv ts c p a : Int), rfl, ?_, _, _, rfl, rfl, ?_⟩⟩
            · have w := DGet.t (k := [Sum.inr p, Sum.inr a]) (same_new (o := .tup [.str p, .str a]) nt1 _ _ (st0 _ _ mvc)) upd_same
              rw [vp] at w
              exact w
            show gName 12 (V.int ((((row.map V.int).length : Nat) : Int) - (lv ts c p a : Int))) _ _ _
            rw [ilf]
            have st : Same Hc (upd Hb t1 (.tup [.str p, .str a])) := st0.trans (same_new nt1)
            obtain ⟨He, ee⟩ : ∃ X, X = upd Hb t1 (.tup [.str p, .str a]) := ⟨_, rfl⟩
            rw [← ee] at st ⊢
            clear ee
            -- the group
            refine ⟨_, rfl, _, rfl, _, rfl, rw2, _, rfl, SqL.of (st _ _ hrw), fun p1 n1 => ⟨_, rfl, _, rfl, _, rfl, by show 2 ≤ sizeLine; omega, fun t2 nt2 => ?_⟩⟩
            rw [cut_drop (by rw [List.length_map]; omega), ← List.map_drop] at nt2 ⊢
            obtain ⟨Hf, ef⟩ : ∃ X, X = upd (upd He p1 (.lst ((row.drop lf).map V.int))) t2 (.tup [.str p, .str a]) := ⟨_, rfl⟩
            have sp1 : Same He (upd He p1 (.lst ((row.drop lf).map V.int))) := same_new n1
            have sef : Same He Hf := ef ▸ sp1.trans (same_new nt2)
            have hp1 : Hf p1 = some (.lst ((row.drop lf).map V.int)) := by rw [ef]; exact same_new nt2 _ _ upd_same
            have ht2 : Hf t2 = some (.tup [.str p, .str a]) := by rw [ef]; exact upd_same
            rw [← ef]
            clear ef
            have scf : Same Hc Hf := st.trans sef
            obtain ⟨Hg, put, hGg, kg⟩ := GrAt.put (z := row.drop lf) (GrAt.mono scf hG') hp1 (by omega) ht2
            refine ⟨gr, Hg, rfl, put, ?_⟩
            have rwgr : rw2 ≠ gr := fun z => by
              obtain ⟨kvs, h1, _⟩ := hG'
              rw [z, h1] at hrw
              cases hrw
            have hrwg := kg _ _ rwgr (scf _ _ hrw)
            refine ⟨_, rfl, _, rfl, _, rfl, rw2, _, rfl, SqL.of hrwg, fun rw3 nrw3 => ?_⟩
            rw [cut_take (by rw [List.length_map]; omega), ← List.map_take]
            have sw2 : Same Hg (upd Hg rw3 (.lst ((row.take lf).map V.int))) := same_new nrw3
            have rw30 : H rw3 = none := new0 (fun b u e => kg _ _ (ne_of_none e gr0) (scf _ _ (kc _ _ (ne_of_none e gr0) (sa10 _ _ (off e))))) nrw3
            refine ⟨_, _, rw3, rfl, rw30, ((kc.trans (Kp.of_same scf)).trans kg).trans (Kp.of_same sw2), row.take lf, setG G' p a (row.drop lf), upd_same, GrAt.mono sw2 hGg, ?_, fun b hb => ?_, fun a' b' na => ?_, fun b hb => ?_⟩
            · rw [rev_more _ ha]
              have e1 : setG G' p a (row.drop lf) p a = row.drop lf := by unfold setG; rw [if_pos ⟨rfl, rfl⟩]
              have e2 : ((((adj ts p).take i).reverse.map (setG G' p a (row.drop lf) p)).flatten) = (((adj ts p).take i).reverse.map (G' p)).flatten := flat_congr fun b hb => by
                unfold setG
                rw [if_neg fun z => fa' (by rw [← z.2]; exact List.mem_reverse.mp hb)]
              rw [e1, e2, ← List.append_assoc, List.take_append_drop]
              exact eT'
            · rw [take_more ha] at hb
              rcases List.mem_append.mp hb with hb | hb
              · unfold setG
                rw [if_neg fun z => fa' (by rw [← z.2]; exact hb)]
                exact len' b hb
              · rw [List.mem_singleton.mp hb]
                unfold setG
                rw [if_pos ⟨rfl, rfl⟩, List.length_drop]
                omega
            · unfold setG
              rw [if_neg fun z => na z.1]
              exact oth' a' b' na
            · rw [take_more ha] at hb
              unfold setG
              rw [if_neg fun z => hb (List.mem_append_right _ (List.mem_singleton.mpr z.2))]
              exact nil' b fun z => hb (List.mem_append_left _ z)
          · rw [if_neg pos]
            have z0 : lv ts c p a = 0 := by omega
            refine iteF ⟨_, _, rw2, rfl, rw20, kc.trans (Kp.of_same st0), row, G', st0 _ _ hrw, (GrAt.mono st0 hG').more (by omega), ?_, fun b hb => ?_, oth', fun b hb => ?_⟩
            · rw [rev_more _ ha, nil' a fa']
              exact eT'
            · rw [take_more ha] at hb
              rcases List.mem_append.mp hb with hb | hb
              · exact len' b hb
              · rw [List.mem_singleton.mp hb, nil' a fa', z0] <;> rfl
            · rw [take_more ha] at hb
              exact nil' b fun z => hb (List.mem_append_left _ z)
        intro σ2 H11 ⟨u9'', u12', rw2, eσ, rw20, kc, row, G', hrw, hG', eT', len', oth', nil'⟩
        subst eσ
        rw [List.length_map] at hG'
        rw [List.length_map, List.take_length] at eT' len' nil'
        obtain ⟨kv11, hgr11, _⟩ := id hG'
        have hfd11 := kc _ _ (Ne.symm fdgr) hfd10
        have dl : ds.length ≤ 13 := by omega
        -- found
        refine ⟨_, rfl, _, rfl, _, rfl, fd, _, rfl, DPut.k (k := Sum.inr p) hfd11 (by rw [tblV_len]; omega), ?_⟩
        have dpl : ∀ q ∈ ds, Pl ts q := fun q hq => mem_pls.mp (pmr.mem_iff.mp (List.mem_append_left _ hq))
        obtain ⟨d1, d2⟩ := moved_next o pp dpl fresh cl hdone hrest (by rw [← eT]; exact eT') len' oth' nil'
        have rwfd : rw2 ≠ fd := ne_of hrw hfd11 (by intro z; cases z)
        have wt11 : H11 wt = some (.lst ((rest.eraseIdx j).map V.str)) := kc _ _ wtgr (sa10 _ _ hwta)
        have pe : (p :: rest.eraseIdx j).Perm rest := ej ▸ erase_perm rest j hj
        refine ⟨⟨⟨_, _, _, _, rfl⟩, fun b u b1 b2 b3 eb => ?_, ds ++ [p], rest.eraseIdx j, G', fun a => if a = p then row else F0 a, fun a => if a = p then rw2 else rF a, ?_, ?_, fun x hx s pos => ?_, (GrAt.off hfd11 hG').more (by rw [List.length_append]; show _ ≤ 13 * (ds.length + 1); omega), ?_, fun a ha => ?_, d1, d2⟩, ?_⟩
        · rw [upd_ne b2]
          exact kc _ _ b1 (sa10 _ _ (kpa b u b1 b2 b3 eb))
        · rw [upd_ne wtfd]
          exact wt11
        · rw [List.append_assoc]
          exact ((List.Perm.refl ds).append pe).trans pmr
        · rcases List.mem_append.mp hx with hx | hx
          · exact List.mem_append_left _ (cl x hx s pos)
          · rw [List.mem_singleton.mp hx] at pos
            have m := pmr.mem_iff.mpr (mem_pls.mpr (lv_adj o pos).1)
            exact List.mem_append_left _ ((List.mem_append.mp m).resolve_right fun m => pc.2 s m pos)
        · rw [upd_same, tblV_congr (g' := fun a => V.ref (if a = p then rw2 else rF a)) fun a ha => by rw [if_neg fun z => fresh (by rw [← z]; exact ha)], tblV_snoc fresh (by rw [if_pos rfl])]
        · show (upd H11 fd _) (if a = p then rw2 else rF a) = some (.lst ((if a = p then row else F0 a).map V.int)) ∧ H (if a = p then rw2 else rF a) = none
          by_cases e : a = p
          · rw [if_pos e, if_pos e]
            exact ⟨by rw [upd_ne rwfd]; exact hrw, rw20⟩
          · rw [if_neg e, if_neg e]
            have ha := (List.mem_append.mp ha).resolve_right fun z => e (List.mem_singleton.mp z)
            obtain ⟨z1, z2⟩ := hrFa a ha
            have n1 : rF a ≠ gr := ne_of (sa10 _ _ z1) hgr10 (by intro z; cases z)
            have n2 : rF a ≠ fd := ne_of (sa10 _ _ z1) hfd10 (by intro z; cases z)
            exact ⟨by rw [upd_ne n2]; exact kc _ _ n1 (sa10 _ _ z1), z2⟩
        · show many _ wt < many H5 wt
          rw [many_at (show _ = some (HO.lst ((rest.eraseIdx j).map V.str)) from (upd_ne wtfd).trans wt11), many_at hwt, List.length_map, List.length_map, List.length_eraseIdx, if_pos hj]
          omega
      · have rnil : rest = [] := by
          cases rest with
          | nil => rfl
          | cons y r => exact absurd rfl tr
        subst rnil
        rw [List.append_nil] at pmr
        have mvd : Moved ts c L F0 := ⟨G, fun p hp => (hdone p (pmr.mem_iff.mpr (mem_pls.mpr hp))).1, fun p hp => (hdone p (pmr.mem_iff.mpr (mem_pls.mpr hp))).2⟩
        have off : Same H H6 := fun b u e => s56 _ _ (kp _ _ (ne_of_none e gr0) (ne_of_none e fd0) (ne_of_none e wt0) (s04 _ _ e))
        have hfd6 := s56 _ _ hfd
        have hrF6 : ∀ p ∈ pls ts, H6 (rF p) = some (.lst ((F0 p).map V.int)) ∧ H (rF p) = none := fun p hp => ⟨s56 _ _ (hrF p (pmr.mem_iff.mpr hp)).1, (hrF p (pmr.mem_iff.mpr hp)).2⟩
        refine ⟨by show 1 ≤ sizeLine; omega, fun p1 m1 => ?_⟩
        have sp1 := same_new (o := .lst [V.str ""]) m1
        refine ⟨_, rfl, q, prs t, t.map Prod.fst, rfl, .inl (sp1 _ _ (off _ _ hq)), prs_keys t, by rw [List.length_map]; omega, fun ks2 p2 pks2 srt2 m2 => ?_⟩
        obtain rfl : ks2 = ts.map Prod.fst := sorted_one (pks2.trans (pm.map _).symm) srt2 asc
        have sp2 := same_new (o := .lst ((ts.map Prod.fst).map V.str)) m2
        refine ⟨p1, p2, _, _, rfl, rfl, sp2 _ _ upd_same, upd_same, by rw [List.length_map, List.length_map]; show 1 + _ ≤ _; omega, fun lp m3 => ⟨lp, rfl, ⟨_, SqL.of upd_same⟩, fun D nD => ?_⟩⟩
        have sp3 := same_new (o := .lst ([V.str ""] ++ (ts.map Prod.fst).map V.str)) m3
        obtain ⟨H7, e7⟩ : ∃ X, X = upd (upd (upd H6 p1 (.lst [V.str ""])) p2 (.lst ((ts.map Prod.fst).map V.str))) lp (.lst ([V.str ""] ++ (ts.map Prod.fst).map V.str)) := ⟨_, rfl⟩
        have s67 : Same H6 H7 := e7 ▸ (sp1.trans sp2).trans sp3
        have hlp : H7 lp = some (.lst ((pls ts).map V.str)) := by rw [e7]; exact upd_same
        rw [← e7] at nD ⊢
        clear e7
        refine lc_it walk_list (fun i H' => Same H7 H' ∧ ∃ rs : List Addr, H' D = some (.lst (rs.map V.ref)) ∧ PrG (fun p => .ref (rF p)) H' rs ((pls ts).take i)) ⟨same_new nD, [], upd_same, .nil⟩ (fun i H' _ z => SqL.of (z.1 _ _ hlp)) ?_ ?_
        · intro i y Hc Hd hi ⟨z1, rs, hD, pr⟩ ⟨eb, ex⟩
          subst eb
          obtain ⟨a, ha, rfl⟩ := map_of (f := V.str) (l := pls ts) ex
          have ma := List.mem_of_getElem? ha
          have lr := pr.len
          rw [List.length_take] at lr
          refine ⟨rfl, ?_⟩
          refine ⟨_, rfl, _, rfl, _, rfl, fd, .ref (rF a), rfl, ?_, by show 2 ≤ sizeLine; omega, fun tq ntq => ?_⟩
          · have z := DGet.k (k := Sum.inr a) (z1 _ _ (s67 _ _ hfd6))
            rw [tblV_val (pmr.mem_iff.mpr ma)] at z
            exact z
          have sq := same_new (o := .tup [.str a, .ref (rF a)]) ntq
          refine ⟨_, sq _ _ hD, by rw [List.length_map]; omega, (z1.trans sq).put nD, rs ++ [tq], by rw [upd_same, List.map_append] <;> rfl, ?_⟩
          rw [take_more ha]
          exact PrG.push (sq _ _ hD) (PrG.snoc upd_same (pr.mono sq))
        · intro H8 ⟨z1, rs, hD, pr⟩
          rw [List.length_map, List.take_length] at pr
          refine ⟨D, rs, _, rfl, SqL.of hD, pr.kvs, fun pd npd => ?_⟩
          rw [merge_nd (by rw [map_fst]; exact pnd)]
          have s08 := off.trans (s67.trans z1)
          have sd := same_new (o := .dK (kvT ((pls ts).map fun a => (a, V.ref (rF a))))) npd
          exact k pd rF F0 _ (s08.trans sd) (s08.free npd) (fun a ha => (hrF6 a ha).2) mvd ⟨upd_same, fun a ha => sd _ _ (z1 _ _ (s67 _ _ (hrF6 a ha).1))⟩
    · exact fun σ H Q Q' hm ⟨v, e, z, f⟩ => ⟨v, e, z, fun p np => let ⟨a, b, xs, e1, e2, h1, h2, k, ek, q⟩ := f p np; ⟨a, b, xs, e1, e2, h1, h2, k, ek, hm _ _ q⟩⟩
end
end FT


/-! Own: calls with keywords alone, two or four of them turned; pairs of a text and an int as data. -/
namespace FT
open PySem L2 TL ClX
def tCallK0 (m : Nat) (sp : Sp) (gV : List V → List V → List V) (E : XK) (tk : TA) : TE := fun σ H Q => tk σ H fun zs H1 => zs.length = m ∧ sp (gV [] zs) H1 Q E
/-- four values, turned -/
def turn4 {α : Type} : List α → List α
  | [a, b, c, d] => [d, c, b, a]
  | l => l
end FT


/-! two keywords, turned -/
namespace FT
open PySem L2 TL ClX
def turn2 {α : Type} : List α → List α
  | [a, b] => [b, a]
  | l => l
theorem turn2_rel {vs : List V} {us : List Value} (r : Vals vs us) : Vals (turn2 vs) (turn2 us) := by
  cases r with
  | nil => exact .nil
  | cons a r =>
    cases r with
    | nil => exact .cons a .nil
    | cons b r =>
      cases r with
      | nil => exact .cons b (.cons a .nil)
      | cons c r => exact .cons a (.cons b (.cons c r))
abbrev tn2 (α : Type) : List α → List α → List α := fun _ ws => turn2 ws
end FT


/-! Rollout.__init__ of a value that is no number of users; its keywords, turned -/
namespace FT
open PySem L2 TL ClX LiI
def spRInitX (K : PySem.W.Frag) (CF CR CU : Addr) : Sp := fun vs H Q E => ∃ (y x dy : Addr) (v : V) (ts : List (Str × Str)), vs = [.ref y, .ref x, v] ∧ H y = some (.ins CR dy []) ∧ FAt CF H x ts ∧ IsDat K H v ∧ usersOk v 60 = false ∧ Out H E (.e0 CU)
theorem kwM2 {K : PySem.W.Frag} {x qual a b : Str} {st : Stmt} {f : Addr} {fd : FuncData} {ps : List Str} (F : L2.Fun K x qual st f fd)
    (h : ∀ (kV doc pm : Value) (an : Option Addr) (cdv ct o u v : Value), bindArgs (PySem.W.fnOf x qual (defArgs st) (defBody st) (defScope st) .none kV doc pm an cdv ct) ⟨[o], [(a, u), (b, v)]⟩ = pure (ps.zip [o, v, u])) :
    KBn K fd ps 1 [a, b] (fun us ws => us ++ turn2 ws) (fun vs zs => vs ++ turn2 zs) := by
  obtain ⟨oc, od, kV, doc, pm, an, cdv, ct, osl, rfl, lk, hcd⟩ := F.ex
  refine ⟨fun s us ws _ h1 h2 => ?_, fun r r' => r.append (turn2_rel r')⟩
  match us, ws, h1, h2 with
  | [o], [u, v], _, _ => exact .of_eq (h kV doc pm an cdv ct o u v)
section
variable {P : Program} {w : World} {K : PySem.W.Frag} {mg : Str → Option Value} {base : Heap}
theorem ok_rinitX {f fP fU CF CA CR CU : Addr} {mc mcA mcR : Value} {fd fdP fdU : FuncData} (F : Fun K "__init__" "Rollout.__init__" s_Rollout___init__ f fd) (T : Nm mg) (Z : Fc K mg CF mc) (B : Ac K mg CA mcA) (R : RoC K mg CR mcR) (DP : Dn P w K mg base CX0 3 "places_of" ["forest"] (spPlacesOf CF) fP fdP)
    (U : Dn P w K mg base (L2.CX P w) 3 "need_users" ["users", "most"] (spUsers K CU) fU fdU) : FnOk P w K mg base (L2.CX P w) 4 f fd ["self", "forest", "users"] (spRInitX K CF CR CU) := by
  obtain ⟨um, cm⟩ := B.most
  obtain ⟨ur, cr⟩ := Z.root
  refine F.okX scRi (fun vs H Q E h => ?_) (fun cdv A outer s H vs Q E hr h => ?_)
  · obtain ⟨y, x, dy, v, ts, rfl, _⟩ := h
    rfl
  · obtain ⟨y, x, dy, v, ts, rfl, hy, fa, dv, bad, k⟩ := h
    have hu := hu_of hr
    have nd := scRi.nd
    refine ⟨_, pss_cons (ps_expr (pe_call U.ok hr rfl U.mgn U.kp U.bn .nil (passes_call (takes_of rfl rfl rfl rfl) (fun _ _ _ _ h => h)) (pa_cons (pv 2) (pa_cons (pe_cval (pe_glob (v := .ref CA) (by rfl) B.gA rfl)) pa_nil))))
      (pss_cons (ps_fld (pv 0) (pv 1) rfl)
      (pss_cons (ps_fld (pv 0) (pe_dc (own := [("place", 3)]) (g := gName 3) (tt := tYes) rfl nd (pi_list (pe_call DP.ok hr rfl DP.mgn DP.kp DP.bn .nil pass0 (pa_cons (pv 1) pa_nil))) (blkOk_by (N := NRi) (sc := defScope s_Rollout___init__) (by decide +kernel))
        (fun _ _ _ _ _ => pg_name (i := 3) nd rfl (Or.inl rfl)) (fun _ _ _ _ _ => pts_nil) (fun _ _ _ _ _ => pv 3) (fun _ _ _ _ _ => pe_lst pa_nil)) rfl)
      (pss_cons (ps_dput hu (pe_fld (pv 0) rfl) (pe_cval (pe_glob (v := .ref CF) (by rfl) Z.gF rfl)) (pe_listRg rfl (by rfl) T.lst (prg_1 (by rfl) T.rng (pv 2))) rfl)
      (pss_one (ps_fld (pv 0) (pe_lst pa_nil) rfl))))), ?_⟩
    refine ⟨_, rfl, CA, mcA, _, um, rfl, B.rd, cm, v, 60, rfl, dv, ?_⟩
    rw [if_neg (by rw [bad]; decide)]
    exact k
end
end FT


/-! feasible sizes are at most the users (plain maths) -/
namespace FT
open PySem L2 TL ClX
theorem sum_nnW {f : Str → Int} : ∀ {l : List Str}, (∀ a ∈ l, 0 ≤ f a) → 0 ≤ (l.map f).sum
  | [], _ => Int.le_refl _
  | a :: l, h => by
    rw [List.map_cons, List.sum_cons]
    have := h a (List.mem_cons_self ..)
    have := sum_nnW fun b hb => h b (List.mem_cons_of_mem a hb)
    omega
theorem le_sumW {f : Str → Int} {b : Str} : ∀ {l : List Str}, (∀ a ∈ l, 0 ≤ f a) → b ∈ l → f b ≤ (l.map f).sum
  | a :: l, h, m => by
    rw [List.map_cons, List.sum_cons]
    have h1 := h a (List.mem_cons_self ..)
    have h2 : ∀ c ∈ l, 0 ≤ f c := fun b hb => h b (List.mem_cons_of_mem a hb)
    rcases List.mem_cons.mp m with rfl | m
    · have := sum_nnW h2
      omega
    · have := le_sumW h2 m
      omega
theorem fea_leW {ts : List (Str × Str)} {n : Int} {s : Str → Int} (o : TreeOk ts) (f : Fea ts n s) : ∀ a ∈ ts.map Prod.fst, s a ≤ n := by
  obtain ⟨rk, r⟩ := o.up
  have key : ∀ (m : Nat) (a : Str), a ∈ ts.map Prod.fst → rk a ≤ m → s a ≤ n := by
    intro m
    induction m with
    | zero =>
      intro a ha hm
      obtain ⟨p, hp, h, _⟩ := o.step r ha
      rcases h with e | ⟨_, l⟩
      · have := f.res p (by rw [e]; exact List.mem_cons_self ..)
        have l1 := le_sumW (f := s) (fun c hc => f.nn c (kids_sub hc)) (mem_kids.mpr (par_mem hp))
        unfold resid at this
        rw [if_pos e] at this
        omega
      · omega
    | succ m ih =>
      intro a ha hm
      obtain ⟨p, hp, h, _⟩ := o.step r ha
      have l1 := le_sumW (f := s) (fun c hc => f.nn c (kids_sub hc)) (mem_kids.mpr (par_mem hp))
      rcases h with e | ⟨mp, l⟩
      · have := f.res p (by rw [e]; exact List.mem_cons_self ..)
        unfold resid at this
        rw [if_pos e] at this
        omega
      · have := f.res p (List.mem_cons_of_mem _ mp)
        have ne : p ≠ "" := fun z => o.root (by rw [← z]; exact mp)
        unfold resid at this
        rw [if_neg ne] at this
        have := ih p mp (by omega)
        omega
  exact fun a ha => key (rk a) a ha (Nat.le_refl _)
end FT


/-! d.values() as a value, sum of it -/
namespace L2
open PySem PySem.Spec PyProof.Rows
/-- at v: the view of the values of the dict at d -/
def VwO (v d : Addr) : HO := .ext fun h => h.get? v = some ({ cls := .type "dict_values", data := .fields #[.ref d] } : Obj)
theorem vwo_ok {P : Program} {w : World} {H : Hp} {h : Heap} {v d : Addr} (e : h.get? v = some ({ cls := .type "dict_values", data := .fields #[.ref d] } : Obj)) : ObjOk P w H h v (VwO v d) :=
  ⟨e, ⟨_, e⟩, fun h1 h2 z k => k _ z⟩
theorem vwo_at {P : Program} {w : World} {H : Hp} {h : Heap} {v d : Addr} (ok : HOk P w H h) (e : H v = some (VwO v d)) : h.get? v = some ({ cls := .type "dict_values", data := .fields #[.ref d] } : Obj) := by
  have x : ObjOk P w H h v (.ext fun h => h.get? v = some ({ cls := .type "dict_values", data := .fields #[.ref d] } : Obj)) := ok v _ e
  exact x.1
theorem preSum_list : ∀ ns : List Int, preSum (fun i => (ns[i]?).getD 0) ns.length = ns.sum
  | [] => rfl
  | n :: ns => by
    show preSum _ (ns.length + 1) = _
    rw [PySem.W.kdu_shift, List.sum_cons, ← preSum_list ns] <;> rfl
section
variable {X : Cx}
def rDVals : V → List V → Hp → VK → Prop := fun x xs H Q => ∃ (a : Addr) (kvs : List (Key × V)), x = .ref a ∧ xs = [] ∧ H a = some (.dK kvs) ∧ ∀ v, H v = none → Q (.ref v) (upd H v (VwO v a))
def rSumV : List V → Hp → VK → Prop := fun xs H Q => ∃ (v d : Addr) (kvs : List (Key × V)) (ns : List Int), xs = [.ref v] ∧ H v = some (VwO v d) ∧ H d = some (.dK kvs) ∧ kvs.map (·.2) = ns.map V.int ∧ Q (.int ns.sum) H
end
end L2


/-! d.values() and sum(d.values()), d a dict with tuples for keys -/
namespace L2
open PySem PySem.Spec PyProof.Rows
section
variable {X : Cx}
def rDValsT : V → List V → Hp → VK → Prop := fun x xs H Q => ∃ (a : Addr) (kvs : List (List Key × V)), x = .ref a ∧ xs = [] ∧ H a = some (.dT kvs) ∧ ∀ v, H v = none → Q (.ref v) (upd H v (VwO v a))
theorem mt_dvalsT : MtR X "dict.values" rDValsT := by
  intro pins s σ H x xs v us Q I rx rxs ⟨a, kvs, ex, exs, e, q⟩
  subst ex
  subst exs
  cases rx
  cases rxs
  obtain ⟨z, lo, vs, rel, dd⟩ := dt_of I.hok e
  obtain ⟨es, ep, dr, _, _⟩ := dd.raw
  refine call_meetsIn PySem.F.slot_dict_values dr.typeIs PySem.F.entry_dict_values (PySem.F.args_dict_values_1 _) (meets_dict_values_raw a lo) ⟨⟨es, ep, dr⟩, ?_⟩
  have at_ : (s.heap.push ({ cls := .type "dict_values", data := .fields #[.ref a] } : Obj)).get? s.heap.objs.size = some ({ cls := .type "dict_values", data := .fields #[.ref a] } : Obj) := Heap.get?_push_size _ rfl
  exact ⟨.ref s.heap.objs.size, upd H s.heap.objs.size (VwO s.heap.objs.size a), I.laid (t' := s.toks) (fun b u e => Heap.get?_push_of_some _ e) (Nat.le_refl _) (vwo_ok at_), rfl, q _ (I.hok.fresh (Nat.le_refl _))⟩
def rSumVT : List V → Hp → VK → Prop := fun xs H Q => ∃ (v d : Addr) (kvs : List (List Key × V)) (ns : List Int), xs = [.ref v] ∧ H v = some (VwO v d) ∧ H d = some (.dT kvs) ∧ kvs.map (·.2) = ns.map V.int ∧ Q (.int ns.sum) H
theorem cr_sumVT (hc : X.calm = true) : CallR X (.builtin "sum") rSumVT := by
  intro pins s σ H xs us Q I r ⟨v, d, kvs, ns, ex, ev, ed, en, q⟩
  subst ex
  obtain ⟨u, rfl, ru⟩ := vals1 r
  cases ru
  obtain ⟨z, lo, vs, rel, dd⟩ := dt_of I.hok ed
  obtain ⟨es, ep, dr, hs, hx⟩ := dd.raw
  have av := vwo_at I.hok ev
  have lv : kvs.length = vs.length := rel.length
  have ln : kvs.length = ns.length := by
    have e := congrArg List.length en
    rw [List.length_map, List.length_map] at e
    exact e
  have items : ∀ (i : Nat) (y : Value), (∃ hi : i < es.size, y = es[i].val) → ∃ t : Tok, y = Value.int ((ns[i]?).getD 0) t := fun i y ⟨hi, ey⟩ => by
    obtain ⟨x, h1, _, h2, _⟩ := hx i hi
    have il := (List.getElem?_eq_some_iff.mp h1).1
    obtain ⟨kv, hk⟩ : ∃ kv, kvs[i]? = some kv := ⟨_, List.getElem?_eq_getElem (by omega)⟩
    obtain ⟨b, hb, _, _, r2⟩ := paired_get (show Paired _ kvs vs from rel) hk
    rw [h1] at hb
    cases hb
    have e1 : (kvs.map (·.2))[i]? = some kv.2 := by rw [List.getElem?_map, hk] <;> rfl
    rw [en, List.getElem?_map] at e1
    obtain ⟨n, hn, e2⟩ := Option.map_eq_some_iff.mp e1
    rw [hn]
    rw [← e2, ← h2, ← ey] at r2
    exact r2
  have dlt : d < s.heap.objs.size := let ⟨o, ho, _⟩ := dr; Heap.lt_size ho
  refine PySem.call_sum_walkAnyS ?_
  refine wpAny_pyIter_values_raw ⟨_, av, rfl, rfl⟩ dr ?_
  refine ⟨s.heap.objs.size, _, _, _, es.size, _, _, (fun i => (ns[i]?).getD 0), rfl, (Walks.rawValues (prog := X.prog) (w := X.w) (A := X.A.in1) (I.ok.hd hc) s.heap.objs.size d (Nat.ne_of_lt dlt) es ep).toS, ⟨⟨_, Heap.get?_push_size _ rfl, rfl, rfl⟩, dr.at fun o e => Heap.get?_push_of_some _ e⟩, fun b hb => ?_, fun i y hy => items i y hy, fun s' t' hm => ?_⟩
  · rw [Heap.size_push]
    rcases List.mem_cons.mp hb with e | hb
    · rw [e]
      exact Nat.lt_succ_self _
    · rw [List.mem_singleton.mp hb]
      exact Nat.lt_succ_of_lt dlt
  · have hk : ∀ b o, s.heap.get? b = some o → s'.heap.get? b = some o := fun b o e =>
      hm.heap b o (fun hI => absurd (Heap.lt_size e) (by rw [List.mem_singleton.mp hI]; exact Nat.lt_irrefl _)) (Heap.get?_push_of_some _ e)
    rw [PySem.Moved.eq_with hm]
    rw [show es.size = ns.length by omega, preSum_list]
    exact ⟨.int ns.sum, H, I.kept (t' := s'.toks) hk, ⟨_, rfl⟩, q⟩
end
end L2


/-! a dict turned about -/
namespace FT
open PySem L2 TL ClX LiI
section
variable {P : Program} {w : World} {K : PySem.W.Frag} {mg : Str → Option Value} {base : Heap}
theorem scFl : FnScope ["_law_some"] ["_law_some"] (defScope s__law_flipped) := ⟨rfl, rfl, rfl, by decide +kernel, rfl, by decide +kernel, by decide +kernel⟩
end
end FT


/-! a dict turned about, its last key of any kind -/
namespace FT
open PySem L2 TL ClX LiI ZlI
theorem odd_stays {H H' : Hp} {y : V} (o : OddK H y) (s : ∀ b u, H b = some u → H' b = some u) : OddK H' y := by
  rcases o with e | ⟨b, ks, e, e2⟩
  · exact .inl e
  · exact .inr ⟨b, ks, e, s _ _ e2⟩
theorem pair_of_rows {F : Addr → V × V → Prop} : ∀ {ts : List Addr} {kvs : List (Key × V)}, Paired F ts (rowsK kvs) → Paired (fun t (kv : Key × V) => F t (kV kv.1, kv.2)) ts kvs
  | [], [], _ => .nil
  | [], _ :: _, h => by cases h
  | _ :: _, [], h => by cases h
  | _ :: _, _ :: _, .cons h t => .cons h (pair_of_rows t)
/-- pairs with different keys, merged, are the pairs -/
theorem merge_ndO {α : Type} [DecidableEq α] : ∀ (more kvs : List (α × V)), ((kvs ++ more).map (·.1)).Nodup → more.foldl (fun acc kv => putK acc kv.1 kv.2) kvs = kvs ++ more
  | [], kvs, _ => (List.append_nil _).symm
  | p :: more, kvs, nd => by
    have np : p.1 ∉ kvs.map (·.1) := fun m => by
      rw [List.map_append, List.nodup_append] at nd
      exact nd.2.2 _ m _ (List.mem_map.mpr ⟨p, List.mem_cons_self, rfl⟩) rfl
    have e : putK kvs p.1 p.2 = kvs ++ [p] := by
      unfold putK
      rw [if_neg]
      intro h
      obtain ⟨c, hc, ec⟩ := List.any_eq_true.mp h
      exact np (List.mem_map.mpr ⟨c, hc, of_decide_eq_true ec⟩)
    rw [List.foldl_cons, e, merge_ndO more (kvs ++ [p]) (by rw [List.append_assoc]; exact nd), List.append_assoc] <;> rfl
/-- a dict turned about: of ints and texts, or with one more key behind them -/
def spFlipO : Sp := fun vs H Q _ => ∃ (q : Addr) (kvs : List (Key × V)), vs = [.ref q] ∧ (kvs.map (·.1)).Nodup ∧
  ((H q = some (.dK kvs) ∧ ∀ (p : Addr) (H' : Hp), Same H H' → H p = none → H' p = some (.dK kvs.reverse) → Q (.ref p) H') ∨
   ∃ y v, H q = some (RawO q (rowsK kvs ++ [(y, v)])) ∧ OddK H y ∧ ∀ (p : Addr) (H' : Hp), Same H H' → H p = none → H' p = some (RawO p ((y, v) :: rowsK kvs.reverse)) → Q (.ref p) H')
section
variable {P : Program} {w : World} {K : PySem.W.Frag} {mg : Str → Option Value} {base : Heap}
theorem ok_flippedO {f : Addr} {fd : FuncData} (F : Fun K "_law_flipped" "_law_flipped" s__law_flipped f fd) (T : Nm mg) : FnOk P w K mg base CX0 1 f fd ["_law_some"] spFlipO := by
  refine F.ok scFl (fun vs H Q E h => ?_) (fun cdv A outer s H vs Q E hr h => ?_)
  · obtain ⟨q, l, rfl, _⟩ := h
    rfl
  · obtain ⟨q, kvs, rfl, nd, k⟩ := h
    have hu := hu_of hr
    have ndr : (kvs.reverse.map (·.1)).Nodup := by rw [List.map_reverse]; exact (List.reverse_perm _).nodup_iff.mpr nd
    refine ⟨_, pss_one (ps_ret (pe_callTy (CallR.or (call_dictP rfl) (call_dictPR rfl hr.units)) (by rfl) T.dct (by decide +kernel) (pa_cons (pe_revL (pe_listItemsR rfl (pv 0) (by rfl) T.lst)) pa_nil))), ?_⟩
    rcases k with ⟨hq, k⟩ | ⟨y, v, hq, odd, k⟩
    · refine ⟨_, rfl, q, _, _, rfl, hq, .inl ⟨_, rfl, rfl⟩, fun H1 p1 ts s1 np1 nts pts hp1 prd => ⟨p1, _, rfl, SqL.of hp1, fun p2 np2 => .inl ?_⟩⟩
      have s2 := same_new (o := .lst (ts.map V.ref).reverse) np2
      have s12 : Same H (upd H1 p2 (.lst (ts.map V.ref).reverse)) := Same.trans (fun b o e => s1 b o e) s2
      refine ⟨p2, ts.reverse, kvs.reverse, rfl, SqL.of (by rw [upd_same, List.map_reverse]), pair_imp (fun t kv e => .inl (.inl (s2 _ _ e))) (pair_rev (pair_of_rows prd)), fun p3 np3 => ?_⟩
      rw [show mergeK [] kvs.reverse = kvs.reverse from merge_ndO kvs.reverse [] ndr]
      exact k p3 _ (s12.trans (same_new np3)) (s12.free np3) upd_same
    · refine ⟨_, rfl, q, _, _, rfl, hq, .inr rfl, fun H1 p1 ts s1 np1 nts pts hp1 prd => ⟨p1, _, rfl, SqL.of hp1, fun p2 np2 => .inr ?_⟩⟩
      have s2 := same_new (o := .lst (ts.map V.ref).reverse) np2
      have s12 : Same H (upd H1 p2 (.lst (ts.map V.ref).reverse)) := Same.trans (fun b o e => s1 b o e) s2
      have rv : (rowsK kvs ++ [(y, v)]).reverse = (y, v) :: rowsK kvs.reverse := by
        unfold rowsK
        rw [List.reverse_append, List.map_reverse]
        rfl
      have pr2 := pair_rev prd
      rw [rv] at pr2
      refine ⟨p2, ts.reverse, y, v, kvs.reverse, rfl, SqL.of (by rw [upd_same, List.map_reverse]), pair_imp (fun t kv e => .inl (.inl (s2 _ _ e))) pr2, odd_stays odd (fun b o e => s12 _ _ e), ndr, fun p3 np3 => ?_⟩
      exact k p3 _ (s12.trans (same_new np3)) (s12.free np3) upd_same
end
end FT


/-! xs.count(y), flat items -/
namespace L2
open PySem PySem.Spec PyProof.Rows
theorem countP_eqU {x : V} : ∀ {xs : List V} {us : List Value}, Vals xs us → xs.all flatV = true → us.countP (eqU x) = xs.countP fun y => eqV y x
  | _, _, .nil, _ => rfl
  | y :: xs, u :: us, .cons r t, f => by
    rw [List.all_cons, Bool.and_eq_true] at f
    rw [List.countP_cons, List.countP_cons, countP_eqU t f.2, eqU_of r f.1]
def rCntF (K : PySem.W.Frag) : V → List V → Hp → VK → Prop := fun x xs H Q => ∃ (a : Addr) (ys : List V) (y : V), x = .ref a ∧ xs = [y] ∧ SqL K H a ys ∧ flatV y = true ∧ ys.all flatV = true ∧ Q (.int ((ys.countP fun z => eqV z y : Nat) : Int)) H
variable {X : Cx}
theorem mt_countF : MtR X "list.count" (rCntF X.K) := by
  intro pins s σ H x xs v us Q I rx rxs ⟨a, ys, y, ex, exs, hs, fy, fys, q⟩
  subst ex
  subst exs
  cases rx
  match us, rxs with
  | [uy], .cons ry .nil =>
    obtain ⟨its, rv, ⟨⟨cls, dd, data, sl⟩, n, ho, hc, hdn, hd⟩, hlen⟩ := I.list hs
    simp only at hc hd
    subst hc hd
    refine call_meets PySem.F.slot_list_count ⟨_, ho, rfl⟩ PySem.F.entry_list_count (PySem.F.args_list_count_2 _ _)
      (SeqAt.list_countAt a its.toArray n dd sl uy (eqU y)) ⟨ho, fun u hu => mem_eqAt ry fy rv fys u (by simpa using hu), ?_⟩
    refine ⟨.int ((ys.countP fun z => eqV z y : Nat) : Int), H, I.tok _, ⟨s.toks, ?_⟩, q⟩
    show Value.int ((its.toArray.toList.countP (eqU y) : Nat) : Int) s.toks = Value.int ((ys.countP fun z => eqV z y : Nat) : Int) s.toks
    rw [show its.toArray.toList = its from rfl, countP_eqU rv fys]
end L2


/-! _law_result: what it makes of a lambda -/
namespace FT
open PySem L2 TL ClX LamX NdefX
abbrev lamQ (x : Str) : Str := x ++ ".<locals>." ++ "<lambda>"
structure Ge (K : PySem.W.Frag) (mg : Str → Option Value) (x : Str) (st : Stmt) (f : Addr) (fd : FuncData) : Prop where
  fn : Fun K x x st f fd
  bn : Binds K fd ["_law_work"] []
  mgn : mg x = some (.ref f)
def cnR (i : Nat) : Str := (["InvalidSizes", "UnknownName", "InvalidUsers", "InvalidLists", "NeedsMemory", "InvalidLimits", "TooMany"] : List Str).getD i ""
def wdR (i : Nat) : Str := (["sizes", "name", "users", "lists", "memory", "limits", "many"] : List Str).getD i ""
def flR (i : Nat) : Option Str := ([some ("place" : Str), some ("name" : Str), none, none, none, some ("name" : Str), some ("most" : Str)] : List (Option Str)).getD i none
/-- the attribute that is told -/
def FldR (H : Hp) (d : Option Addr) (v : V) : Option Str → Prop
  | some f => ∃ dd, d = some dd ∧ H dd = some (.xd [(f, v)])
  | none => v = .non ∧ (d = none ∨ ∃ dd fs, d = some dd ∧ H dd = some (.xd fs))
def TRes (C : Nat → Addr) : (XK → Hp → VK → Prop) → Hp → VK → Prop := fun tl H Q =>
  ∀ H1, Same H H1 → tl (fun cls d H' => ∃ i v, i < 7 ∧ cls = .ref (C i) ∧ FldR H' d v (flR i) ∧ ∀ p H'', Same H' H'' → H' p = none → H'' p = some (.tup [.str (wdR i), v]) → Q (.ref p) H'') H1
    fun v H' => ∀ p H'', Same H' H'' → H' p = none → H'' p = some (.tup [.str "value", v]) → Q (.ref p) H''
structure Cl7 (K : PySem.W.Frag) (mg : Str → Option Value) (R : Addr) (C : Nat → Addr) : Prop where
  gR : mg "RolloutError" = some (.ref R)
  g : ∀ i, i < 7 → mg (cnR i) = some (.ref (C i))
  x : ∀ i, i < 7 → XCls K (C i)
  kit : ∀ i j, i < 7 → j < 7 → PySem.W.kitOne K (.ref (C i)) (.ref (C j)) = some (decide (i = j))
  kitV : ∀ i, i < 7 → PySem.W.kitOne K (.ref (C i)) (.type "ValueError") = some true
  te : ∀ i, i < 7 → PySem.W.exmOne K (.ref (C i)) (.ref R) = some true
  no : ∀ i f, i < 7 → flR i = some f → PySem.W.findIn K (.ref (C i)) f = some none
theorem XV_monoR {H H' : Hp} {a C : Addr} {fs : List (Str × V)} (s : Same H H') (x : XV H a C fs) : XV H' a C fs := by
  rcases x with ⟨x, e⟩ | ⟨dx, x, y⟩
  · exact .inl ⟨x.elim (fun q => .inl (s _ _ q)) (fun q => .inr (s _ _ q)), e⟩
  · exact .inr ⟨dx, x.elim (fun q => .inl (s _ _ q)) (fun q => .inr (s _ _ q)), y.elim (fun q => .inl (s _ _ q)) (fun q => .inr (s _ _ q))⟩
def marks7 (i : Nat) : List V := (List.range 7).map fun j => .bl (decide (i = j))
theorem upTo7 {Pr : Nat → Prop} (h0 : Pr 0) (h1 : Pr 1) (h2 : Pr 2) (h3 : Pr 3) (h4 : Pr 4) (h5 : Pr 5) (h6 : Pr 6) : ∀ i, i < 7 → Pr i := by
  intro i hi
  match i, hi with
  | 0, _ => exact h0
  | 1, _ => exact h1
  | 2, _ => exact h2
  | 3, _ => exact h3
  | 4, _ => exact h4
  | 5, _ => exact h5
  | 6, _ => exact h6
theorem marks7_flat (i : Nat) : (marks7 i).all flatV = true := rfl
theorem marks7_count : ∀ i, i < 7 → (marks7 i).countP (fun z => eqV z (.bl true)) = 1 := upTo7 rfl rfl rfl rfl rfl rfl rfl
theorem marks7_get (i : Nat) : ∀ m, m < 7 → (marks7 i)[m]? = some (.bl (decide (i = m))) := upTo7 rfl rfl rfl rfl rfl rfl rfl
theorem marks7_at : ∀ i, i < 7 → (marks7 i)[i]? = some (.bl true) ∧ ∀ (m : Nat) (z' : V), m < i → (marks7 i)[m]? = some z' → eqV z' (.bl true) = false := fun i hi => by
  refine ⟨by rw [marks7_get i i hi, decide_eq_true rfl], fun m z' lt h => ?_⟩
  rw [marks7_get i m (by omega), decide_eq_false (by omega)] at h
  cases h
  rfl
/-- [..] + [..]: the second list new -/
theorem cat_segR {H : Hp} {l : Addr} {xs ys : List V} {Q : VK} (hl : H l = some (.lst xs)) (few : xs.length + ys.length ≤ 1000) (k : ∀ p H', Same H H' → H p = none → H' p = some (.lst (xs ++ ys)) → Q (.ref p) H') :
    ys.length ≤ sizeLine ∧ ∀ q, H q = none → rCat (.ref l) (.ref q) (upd H q (.lst ys)) Q := by
  have big : 1000 ≤ sizeLine := by decide
  refine ⟨by omega, fun q nq => ⟨l, q, xs, ys, rfl, rfl, by rw [upd_ne (ne_of_none hl nq)]; exact hl, upd_same, by omega, fun p np => ?_⟩⟩
  have s1 := same_new (o := .lst ys) nq
  exact k p _ (s1.trans (same_new np)) (s1.free np) upd_same
abbrev NRs : List Str := ["_law_work", "_law_error", "_law_result_here", "e", "_law_marks"]
theorem scRs : FnScope NRs ["_law_work"] (defScope s__law_result) := ⟨rfl, rfl, rfl, by decide +kernel, rfl, by decide +kernel, by decide +kernel⟩
theorem isi_rdR {K : PySem.W.Frag} {σ : St} {H : Hp} {a Ci D : Addr} {fs : List (Str × V)} {b : Bool} {Q : VK} (h0 : σ[1]? = some (some (.ref a))) (X : XCls K Ci) (xv : XV H a Ci fs) (kit : PySem.W.kitOne K (.ref Ci) (.ref D) = some b) (q : Q (.bl b) H) :
    tCB (rIsX K) (tCons (tVar 1) (tCons (tC (.ref D)) tNil)) σ H Q := ⟨_, h0, a, Ci, fs, .ref D, _, b, rfl, .own _, X, xv, kit, q⟩
theorem result_gives {X : Cx} {g R : Addr} {C : Nat → Addr} {cdg : Value} {q : Str} (N : Nm X.mg) (L : Cl7 X.K X.mg R C) : GivesS X NRs "_law_result" (defScope s__law_result) g cdg (defBody s__law_result) "_law_work" q (TRes C) := by
  intro f c' s H Q tl act hc h
  refine ⟨_, pss_cons (ps_asg (pe_tup (pa_cons pe_non (pa_cons pe_non pa_nil))) (pg_tup rfl (pgs_cons (pg_name (i := 1) scRs.nd rfl (.inl rfl)) (pgs_cons (pg_name (i := 2) scRs.nd rfl (.inl rfl)) pgs_nil))))
    (pss_cons (ps_try_keep (X := (cxOf C8.CX0 X.prog X.w X.K X.mg X.base NRs "_law_result" (defScope s__law_result) g cdg X.A X.stack s H C8.E0).nox) (c := .ref R) (i := 3)
      rfl rfl rfl scRs.nd rfl rfl ⟨rfl, by decide, .inl L.gR⟩ LamX.takes0 (fun W pn xe tk _ => pss_one (ps_set (i := 2) scRs.nd rfl (.inl rfl) (act W pn xe _ _ tk))) (fun a oe cls d pn hz hf => pss_one (ps_set (i := 1) scRs.nd rfl (.inl rfl) (pv 3))))
    (pss_cons (ps_if (pt_cmpR op_isN (pv 1) pe_non (nomark _)) (pss_one (ps_ret (pe_tup (pa_cons pe_str (pa_cons (pv 2) pa_nil))))) pss_nil)
    (pss_cons (ps_set (i := 4) scRs.nd rfl (.inl rfl) (pe_lst (pa_cons (pe_callB call_isX (by rfl) N.isi (by decide +kernel) (pa_cons (pv 1) (pa_cons (pe_glob (v := .ref (C 0)) rfl (L.g 0 (by decide)) rfl) pa_nil))) (pa_cons (pe_callB call_isX (by rfl) N.isi (by decide +kernel) (pa_cons (pv 1) (pa_cons (pe_glob (v := .ref (C 1)) rfl (L.g 1 (by decide)) rfl) pa_nil)))
      (pa_cons (pe_callB call_isX (by rfl) N.isi (by decide +kernel) (pa_cons (pv 1) (pa_cons (pe_glob (v := .ref (C 2)) rfl (L.g 2 (by decide)) rfl) pa_nil))) pa_nil)))))
    (pss_cons (ps_set (i := 4) scRs.nd rfl (.inl rfl) (pe_op op_cat (pv 4) (pe_lst (pa_cons (pe_callB call_isX (by rfl) N.isi (by decide +kernel) (pa_cons (pv 1) (pa_cons (pe_glob (v := .ref (C 3)) rfl (L.g 3 (by decide)) rfl) pa_nil))) (pa_cons (pe_callB call_isX (by rfl) N.isi (by decide +kernel) (pa_cons (pv 1) (pa_cons (pe_glob (v := .ref (C 4)) rfl (L.g 4 (by decide)) rfl) pa_nil)))
      (pa_cons (pe_callB call_isX (by rfl) N.isi (by decide +kernel) (pa_cons (pv 1) (pa_cons (pe_glob (v := .ref (C 5)) rfl (L.g 5 (by decide)) rfl) pa_nil))) pa_nil))))))
    (pss_cons (ps_expr (pe_bm PySem.F.plainAttrs_list PySem.F.slot_list_append PySem.F.type_list_append mt_append (pv 4) (pa_cons (pe_callB call_isX (by rfl) N.isi (by decide +kernel) (pa_cons (pv 1) (pa_cons (pe_glob (v := .ref (C 6)) rfl (L.g 6 (by decide)) rfl) pa_nil))) pa_nil)))
    (pss_cons (ps_if (PW.pt (pw_or (pt_cmpR op_ne (pe_bm PySem.F.plainAttrs_list PySem.F.slot_list_count PySem.F.type_list_count mt_countF (pv 4) (pa_cons pe_bl pa_nil)) pe_int (nomark _)) (pw_or1 (pt_not (pt_val (pe_callB call_isX (by rfl) N.isi (by decide +kernel) (pa_cons (pv 1) (pa_cons (pe_bltn (v := .ty "ValueError") (u := .type "ValueError") (by rfl) N.vE (by decide +kernel) rfl) pa_nil)))))))) (pss_one (ps_ret (pe_tup (pa_cons pe_str (pa_cons pe_non pa_nil))))) pss_nil)
    (pss_cons (ps_if (pt_val (pe_ix ix_list (pv 4) pe_int (fun _ _ => rfl))) (pss_one (ps_ret (pe_tup (pa_cons pe_str (pa_cons (pe_xfld (pv 1)) pa_nil))))) pss_nil)
    (pss_cons (ps_if (pt_val (pe_ix ix_list (pv 4) pe_int (fun _ _ => rfl))) (pss_one (ps_ret (pe_tup (pa_cons pe_str (pa_cons (pe_xfld (pv 1)) pa_nil))))) pss_nil)
    (pss_cons (ps_if (pt_val (pe_ix ix_list (pv 4) pe_int (fun _ _ => rfl))) (pss_one (ps_ret (pe_tup (pa_cons pe_str (pa_cons (pe_xfld (pv 1)) pa_nil))))) pss_nil)
    (pss_cons (ps_if (pt_val (pe_ix ix_list (pv 4) pe_int (fun _ _ => rfl))) (pss_one (ps_ret (pe_tup (pa_cons pe_str (pa_cons (pe_xfld (pv 1)) pa_nil))))) pss_nil)
    (pss_one (ps_ret (pe_tup (pa_cons (pe_ix ix_list (pe_lst (pa_cons pe_str (pa_cons pe_str (pa_cons pe_str (pa_cons pe_str (pa_cons pe_str pa_nil)))))) (pe_bm PySem.F.plainAttrs_list PySem.F.slot_list_index PySem.F.type_list_index mt_index (pv 4) (pa_cons pe_bl pa_nil)) (fun _ _ => rfl)) (pa_cons pe_non pa_nil))))))))))))))), ?_⟩
  have big : 1000 ≤ sizeLine := by decide
  refine ⟨by show 2 ≤ sizeLine; omega, fun p0 np0 => ?_⟩
  have s0 := same_new (o := .tup [.non, .non]) np0
  refine ⟨p0, [.non, .non], rfl, .inl (.inl upd_same), rfl, _, _, rfl, _, _, rfl, rfl, ?_⟩
  refine ⟨_, _, fun cls d H' z => ?_, fun v H' z => ?_, rfl, s0 _ _ hc, h _ s0⟩
  · obtain ⟨i, v, hi, rfl, hd, k⟩ := z
    refine ⟨true, C i, rfl, L.te i hi, fun _ a ha => ⟨_, rfl, ?_⟩, fun z => nomatch z⟩
    obtain ⟨H2, e2⟩ : ∃ X, X = upd H' a (exg a (C i) d) := ⟨_, rfl⟩
    have s2 : Same H' H2 := e2 ▸ same_new ha
    obtain ⟨fs, xv, hfs⟩ : ∃ fs, XV H2 a (C i) fs ∧ ∀ f, flR i = some f → fs.lookup f = some v := by
      cases ef : flR i with
      | some f =>
        rw [ef] at hd
        obtain ⟨dd, rfl, hdd⟩ := hd
        refine ⟨[(f, v)], .inr ⟨dd, .inr (by rw [e2]; exact upd_same), .inr (s2 _ _ hdd)⟩, fun f' e => ?_⟩
        rw [← Option.some.inj e]
        simp [List.lookup]
      | none =>
        rw [ef] at hd
        obtain ⟨_, hd⟩ := hd
        rcases hd with rfl | ⟨dd, fs, rfl, hdd⟩
        · exact ⟨[], .inl ⟨.inr (by rw [e2]; exact upd_same), rfl⟩, fun f' e => by cases e⟩
        · exact ⟨fs, .inr ⟨dd, .inr (by rw [e2]; exact upd_same), .inr (s2 _ _ hdd)⟩, fun f' e => by cases e⟩
    subst e2
    have Xi := L.x i hi
    refine ⟨_, rfl, rfl, _, rfl, iteF ?_⟩
    refine isi_rdR rfl Xi xv (L.kit i 0 hi (by decide)) (isi_rdR rfl Xi xv (L.kit i 1 hi (by decide)) (isi_rdR rfl Xi xv (L.kit i 2 hi (by decide)) ⟨by show 3 ≤ sizeLine; omega, fun p1 n1 => ?_⟩))
    have s3 := same_new (o := .lst ([.bl (decide (i = 0)), .bl (decide (i = 1)), .bl (decide (i = 2))] : List V)) n1
    have a3 := upd_same (H := upd H' a (exg a (C i) d)) (a := p1) (o := .lst ([.bl (decide (i = 0)), .bl (decide (i = 1)), .bl (decide (i = 2))] : List V))
    have xv3 := XV_monoR s3 xv
    refine ⟨_, rfl, isi_rdR rfl Xi xv3 (L.kit i 3 hi (by decide)) (isi_rdR rfl Xi xv3 (L.kit i 4 hi (by decide)) (isi_rdR rfl Xi xv3 (L.kit i 5 hi (by decide)) (cat_segR a3 (by show 3 + 3 ≤ 1000; omega) fun p2 H4 s4 n2 a4 => ?_)))⟩
    have xv4 := XV_monoR s4 xv3
    have s04 : Same H' H4 := (s2.trans s3).trans s4
    refine ⟨_, rfl, .inl ⟨rfl, _, SqL.of a4⟩, isi_rdR rfl Xi xv4 (L.kit i 6 hi (by decide)) ⟨p2, _, _, rfl, rfl, a4, (by show 6 < sizeLine; omega), ?_⟩⟩
    obtain ⟨H5, e5⟩ : ∃ X, X = upd H4 p2 (.lst (marks7 i)) := ⟨_, rfl⟩
    have a5 : H5 p2 = some (.lst (marks7 i)) := by rw [e5]; exact upd_same
    have s05 : Same H' H5 := by
      rw [e5]
      exact s04.put ((s2.trans s3).free n2)
    have xv5 : XV H5 a (C i) fs := by
      have off : ∀ {b : Addr} {u : HO}, H4 b = some u → (∀ xs, u ≠ .lst xs) → H5 b = some u := fun {b u} e n => by
        rw [e5, upd_ne fun z => by rw [z, a4] at e; exact n _ (Option.some.inj e).symm]
        exact e
      rcases xv4 with ⟨x, e⟩ | ⟨dx, x, y⟩
      · exact .inl ⟨x.elim (fun q => .inl (off q fun xs z => by cases z)) (fun q => .inr (off q fun xs z => by cases z)), e⟩
      · exact .inr ⟨dx, x.elim (fun q => .inl (off q fun xs z => by cases z)) (fun q => .inr (off q fun xs z => by cases z)), y.elim (fun q => .inl (off q fun xs z => by cases z)) (fun q => .inr (off q fun xs z => by cases z))⟩
    show (_ : St → Hp → Prop) _ (upd H4 p2 (.lst (marks7 i)))
    rw [← e5]
    refine ⟨_, rfl, .inl ⟨rfl, _, SqL.of a5⟩, p2, marks7 i, .bl true, rfl, rfl, SqL.of a5, rfl, marks7_flat i, rfl, _, rfl, ?_⟩
    rw [marks7_count i hi]
    refine iteF ?_
    refine ⟨_, rfl, a, C i, fs, .ty "ValueError", .type "ValueError", true, rfl, .ty _, Xi, xv5, L.kitV i hi, true, rfl, iteF ?_⟩
    have tell : ∀ r, H5 r = none → Q (.ref r) (upd H5 r (.tup [.str (wdR i), v])) := fun r nr => k r _ (s05.trans (same_new nr)) (s05.free nr) upd_same
    by_cases i0 : i = 0
    · subst i0
      exact ⟨_, rfl, p2, marks7 0, 0, .bl true, rfl, rfl, SqL.of a5, atI_nat (j := 0) rfl, true, rfl, iteT ⟨_, rfl, a, C 0, fs, v, rfl, xv5, Xi, L.no 0 _ hi rfl, hfs _ rfl, by show 2 ≤ sizeLine; omega, tell⟩⟩
    refine ⟨_, rfl, p2, marks7 i, 0, .bl (decide (i = 0)), rfl, rfl, SqL.of a5, atI_nat (j := 0) (marks7_get i 0 (by decide)), _, rfl, ?_⟩
    rw [decide_eq_false i0]
    refine iteF ?_
    by_cases i1 : i = 1
    · subst i1
      exact ⟨_, rfl, p2, marks7 1, 1, .bl true, rfl, rfl, SqL.of a5, atI_nat (j := 1) rfl, true, rfl, iteT ⟨_, rfl, a, C 1, fs, v, rfl, xv5, Xi, L.no 1 _ hi rfl, hfs _ rfl, by show 2 ≤ sizeLine; omega, tell⟩⟩
    refine ⟨_, rfl, p2, marks7 i, 1, .bl (decide (i = 1)), rfl, rfl, SqL.of a5, atI_nat (j := 1) (marks7_get i 1 (by decide)), _, rfl, ?_⟩
    rw [decide_eq_false i1]
    refine iteF ?_
    by_cases i5 : i = 5
    · subst i5
      exact ⟨_, rfl, p2, marks7 5, 5, .bl true, rfl, rfl, SqL.of a5, atI_nat (j := 5) rfl, true, rfl, iteT ⟨_, rfl, a, C 5, fs, v, rfl, xv5, Xi, L.no 5 _ hi rfl, hfs _ rfl, by show 2 ≤ sizeLine; omega, tell⟩⟩
    refine ⟨_, rfl, p2, marks7 i, 5, .bl (decide (i = 5)), rfl, rfl, SqL.of a5, atI_nat (j := 5) (marks7_get i 5 (by decide)), _, rfl, ?_⟩
    rw [decide_eq_false i5]
    refine iteF ?_
    by_cases i6 : i = 6
    · subst i6
      exact ⟨_, rfl, p2, marks7 6, 6, .bl true, rfl, rfl, SqL.of a5, atI_nat (j := 6) rfl, true, rfl, iteT ⟨_, rfl, a, C 6, fs, v, rfl, xv5, Xi, L.no 6 _ hi rfl, hfs _ rfl, by show 2 ≤ sizeLine; omega, tell⟩⟩
    refine ⟨_, rfl, p2, marks7 i, 6, .bl (decide (i = 6)), rfl, rfl, SqL.of a5, atI_nat (j := 6) (marks7_get i 6 (by decide)), _, rfl, ?_⟩
    rw [decide_eq_false i6]
    refine iteF ?_
    refine ⟨by show 5 ≤ sizeLine; omega, fun pl npl => ?_⟩
    have s6 : Same H5 (upd H5 pl (.lst [.str "", .str "", .str "users", .str "lists", .str "memory"])) := same_new npl
    obtain ⟨m1, m2⟩ := marks7_at i hi
    have three : i = 2 ∨ i = 3 ∨ i = 4 := by omega
    have vn : v = .non := by
      rcases three with rfl | rfl | rfl <;> exact hd.1
    subst vn
    have wd : ([V.str "", .str "", .str "users", .str "lists", .str "memory"] : List V)[i]? = some (.str (wdR i)) := by
      rcases three with rfl | rfl | rfl <;> rfl
    refine ⟨_, rfl, .inl ⟨rfl, _, SqL.of (s6 _ _ a5)⟩, p2, marks7 i, .bl true, i, .bl true, rfl, rfl, SqL.of (s6 _ _ a5), rfl, marks7_flat i, m1, rfl, m2, ?_⟩
    refine ⟨pl, _, _, .str (wdR i), rfl, rfl, SqL.of upd_same, atI_nat wd, by show 2 ≤ sizeLine; omega, fun r nr => ?_⟩
    exact k r _ ((s05.trans s6).trans (same_new nr)) ((s05.trans s6).free nr) upd_same
  · refine ⟨_, rfl, rfl, _, rfl, iteT ⟨_, rfl, by show 2 ≤ sizeLine; omega, fun p np => z p _ (same_new np) np upd_same⟩⟩
end FT


/-! what is told of sizes (cut from K28Q) -/
namespace FT
open PySem L2 TL ClX LiI LamX
theorem feas_val28 {ts : List (Str × Str)} {n : Int} {o : Option (List (Key × V))} {v : V} (h : feas ts n o = some v) : v = .non ∨ ∃ a, Pl ts a ∧ v = .str a := by
  cases o with
  | none => exact .inl (Option.some.inj h).symm
  | some kvs =>
    rw [feas_some] at h
    by_cases c1 : kvs.length ≠ ts.length
    · rw [if_pos c1] at h
      exact .inl (Option.some.inj h).symm
    · rw [if_neg c1] at h
      by_cases c2 : (ts.map Prod.fst).all (fun a => (valV kvs (Sum.inr a)).isSome) = false
      · rw [if_pos c2] at h
        exact .inl (Option.some.inj h).symm
      · rw [if_neg c2] at h
        cases e : (ts.map Prod.fst).find? (badKey kvs) with
        | some a =>
          rw [e] at h
          exact .inr ⟨a, .inr (List.mem_of_find?_eq_some e), (Option.some.inj h).symm⟩
        | none =>
          rw [e] at h
          obtain ⟨a, ha, e2⟩ := Option.map_eq_some_iff.mp h
          exact .inr ⟨a, (List.mem_cons.mp (List.mem_of_find?_eq_some ha)), e2.symm⟩
end FT


/-! the law of k17 -/
namespace FT
open PySem L2 TL ClX LiI LamX
structure W17 (P : Program) (w : World) (K : PySem.W.Frag) (mg : Str → Option Value) (base : Heap) (CF CR CS CU : Addr) (mc mcR : Value) (f g : Nat → Addr) (fd : Nat → FuncData) : Prop where
  Z : Fc K mg CF mc
  R : RoC K mg CR mcR
  bg : Dn P w K mg base CX0 1 "_law_begin" ["_law_script"] (spBeginB K) (f 0) (fd 0)
  dt : Dn P w K mg base CX0 2 "_law_take" ["_law_draw", "_law_size"] spTakeB (f 1) (fd 1)
  dp : Dn P w K mg base CX0 3 "_law_pick" ["_law_draw", "_law_some"] spPickB (f 2) (fd 2)
  fo : Dn P w K mg base CX0 4 "_law_forest" ["_law_draw", "_law_most"] spForB (f 3) (fd 3)
  fi : FnOk P w K mg base CX0 3 (f 4) (fd 4) ["self", "parents"] (spFInit CF)
  fim : Mk K CF (f 4)
  fib : Binds K (fd 4) ["self", "parents"] []
  ri : FnOk P w K mg base CX0 4 (f 5) (fd 5) ["self", "forest", "users"] (spRInit CF CR)
  rim : Mk K CR (f 5)
  rib : Binds K (fd 5) ["self", "forest", "users"] []
  rx : FnOk P w K mg base (L2.CX P w) 4 (f 5) (fd 5) ["self", "forest", "users"] (spRInitX K CF CR CU)
  rik : KBn K (fd 5) ["self", "forest", "users"] 1 ["users", "forest"] (fun us ws => us ++ turn2 ws) (fun vs zs => vs ++ turn2 zs)
  sz : Dn P w K mg base CX0 4 "_law_sizes" ["_law_draw", "_law_parents", "_law_folk"] spSizesB (f 6) (fd 6)
  fl : Dn P w K mg base CX0 1 "_law_flipped" ["_law_some"] spFlipO (f 7) (fd 7)
  pL : PrN P w K mg base 1 CR "lists" (spRLists CF CR) (g 0) (f 8) (fd 8)
  ch : Mt P w K mg base (L2.CX P w) 6 CR "change" ["self", "new"] (spChangeM K CF CR CS) (f 9) (fd 9)
  be : Dn P w K mg base CX0 4 "_law_bent_sizes" ["_law_draw", "_law_parents", "_law_wide"] spBentR (f 10) (fd 10)
  se : FnG P w K mg base CX0 1 (f 11) (fd 11) ["_law_parents", "_law_folk", "_law_wide"] (spSzErr K)
  sem : mg "_law_sizes_error" = some (.ref (f 11))
  sek : PySem.W.keepIn K (.ref (f 11)) = true
  seb : Binds K (fd 11) ["_law_parents", "_law_folk", "_law_wide"] []
  sh : FnG P w K mg base CX0 6 (f 12) (fd 12) ["_law_rollout", "_law_parents", "_law_shelf", "_law_depth"] (spShown CF CR)
  shm : mg "_law_shown" = some (.ref (f 12))
  shk : PySem.W.keepIn K (.ref (f 12)) = true
  shb : Binds K (fd 12) ["_law_rollout", "_law_parents", "_law_shelf", "_law_depth"] []
  pl : Dn P w K mg base CX0 1 "_law_places" ["_law_shelf"] spLPlaces (f 13) (fd 13)
  cd : Dn P w K mg base CX0 2 "_law_counted" ["_law_parents", "_law_places_here"] spCounted (f 14) (fd 14)
  mv : Dn P w K mg base CX0 1 "_law_moving" ["_law_parents", "_law_old", "_law_fresh"] spMoving (f 15) (fd 15)
  le : Dn P w K mg base CX0 3 "_law_led" ["_law_parents", "_law_shelf", "_law_fresh"] spLed (f 16) (fd 16)
def spLaw17 (K : PySem.W.Frag) (T : List (Addr × Str)) : Sp := fun vs H Q _ => ∃ (a : Addr) (ns : List Int), vs = [.ref a] ∧ SqL K H a (ns.map V.int) ∧ ns.length ≤ 63 ∧ Tabs T H ∧ ∀ H', Q (.bl true) H'
abbrev N17 : List Str := ["_law_script", "_law_draw", "_law_turn", "_law_folk", "_law_depth", "_law_place", "_law_shelf", "_law_step", "_law_due", "_law_shown_here", "_law_found", "_law_moving_here", "_law_fresh", "_law_odd", "_law_parents", "_law_rollout"]
/-- the address of fresh sizes -/
def frF : V → List Addr
  | .ref q' => [q']
  | _ => []
/-- the end of a step: both texts, clear, shown -/
def tEnd17 (T : List (Addr × Str)) (K : PySem.W.Frag) (CF CR : Addr) : TS := fun D σ H => ∃ (d l i q sh y z x fa : Addr) (dv sv : V) (t ts : List (Str × Str)) (n : Nat) (b : Int) (LL : Str → List Int) (ps : List (Str → Int)) (Z : List Addr) (fl : Bool) (o : Option (List (Key × V))) (dF dS : PyData) (u0 u2 u7 u11 u13 : Option V),
  σ = [u0, some (.ref d), u2, some (.int (n : Int)), some (.int (ps.length : Int)), none, some (.ref sh), u7, some dv, some (.str dS.shown), some (.ref fa), u11, some sv, u13, some (.ref q), some (.ref y)] ∧ S17 T CF CR (frF sv) d l i q sh y z x t ts n b LL ps H ∧ TreeOk t ∧ ts.Perm t ∧ Asc ts ∧ 1 ≤ n ∧ n ≤ 60 ∧ BR Z H t.length fl sv o ∧
  (DQ K H sv dS ∧ dS.showable = true ∧ dS.depth ≤ 60 ∧ dS.shown.length ≤ sizeLine) ∧ (DQ K H (.ref fa) dF ∧ DQ K H dv dF ∧ dF.showable = true ∧ dF.depth ≤ 60 ∧ dF.shown.length ≤ sizeLine) ∧
  ∀ H', S17 T CF CR [] d l i q sh y z x t ts n b LL ps H' → D.nx σ H'
/-- a step with its sizes -/
def tRest17 (T : List (Addr × Str)) (CF CR : Addr) : TS := fun D σ H => ∃ (d l i q sh y z x : Addr) (sv : V) (t ts : List (Str × Str)) (n : Nat) (b : Int) (LL : Str → List Int) (ps : List (Str → Int)) (Z : List Addr) (fl : Bool) (o : Option (List (Key × V))) (u0 u2 u7 u8 u9 u10 u11 u13 : Option V),
  σ = [u0, some (.ref d), u2, some (.int (n : Int)), some (.int (ps.length : Int)), none, some (.ref sh), u7, u8, u9, u10, u11, some sv, u13, some (.ref q), some (.ref y)] ∧ S17 T CF CR (frF sv) d l i q sh y z x t ts n b LL ps H ∧ TreeOk t ∧ ts.Perm t ∧ Asc ts ∧ 1 ≤ n ∧ n ≤ 60 ∧ ps.length ≤ 1000 ∧ BR Z H t.length fl sv o ∧ y ∈ Z ∧ z ∈ Z ∧
  ∀ (H' : Hp) (LL' : Str → List Int) (ps' : List (Str → Int)) (sh' : Addr) (u8' u9' u10' u11' : Option V), S17 T CF CR [] d l i q sh' y z x t ts n b LL' ps' H' → ps'.length ≤ ps.length + 1 →
    D.nx [u0, some (.ref d), u2, some (.int (n : Int)), some (.int (ps'.length : Int)), none, some (.ref sh'), u7, u8', u9', u10', u11', some sv, u13, some (.ref q), some (.ref y)] H'
/-- fresh sizes, not yet turned about -/
def tFlip17 (T : List (Addr × Str)) (CF CR : Addr) : TS := fun D σ H => ∃ (d l i q sh y z x : Addr) (sv : V) (t ts : List (Str × Str)) (n : Nat) (b j : Int) (LL : Str → List Int) (ps : List (Str → Int)) (Z : List Addr) (o : Option (List (Key × V))) (u0 u2 u8 u9 u10 u11 u13 : Option V),
  σ = [u0, some (.ref d), u2, some (.int (n : Int)), some (.int (ps.length : Int)), none, some (.ref sh), some (.int j), u8, u9, u10, u11, some sv, u13, some (.ref q), some (.ref y)] ∧ S17 T CF CR [] d l i q sh y z x t ts n b LL ps H ∧ TreeOk t ∧ ts.Perm t ∧ Asc ts ∧ 1 ≤ n ∧ n ≤ 60 ∧ ps.length ≤ 1000 ∧ BR Z H t.length false sv o ∧ y ∈ Z ∧ z ∈ Z ∧ (∀ c ∈ Z, ∃ u, H c = some u) ∧
  (∀ c, c ∉ Z → ∀ {H' : Hp}, Same H H' → (∃ u, H' c = some u) → S17 T CF CR [c] d l i q sh y z x t ts n b LL ps H') ∧
  ∀ (H' : Hp) (LL' : Str → List Int) (ps' : List (Str → Int)) (sh' : Addr) (u8' u9' u10' u11' u12' : Option V), S17 T CF CR [] d l i q sh' y z x t ts n b LL' ps' H' → ps'.length ≤ ps.length + 1 →
    D.nx [u0, some (.ref d), u2, some (.int (n : Int)), some (.int (ps'.length : Int)), none, some (.ref sh'), some (.int j), u8', u9', u10', u11', u12', u13, some (.ref q), some (.ref y)] H'
theorem BR.frF {Z : List Addr} {H : Hp} {m : Nat} {fl : Bool} {sv : V} {o : Option (List (Key × V))} (h : BR Z H m fl sv o) : ∀ c ∈ frF sv, c ∉ Z ∧ ∃ u, H c = some u := fun c hc => by
  cases h with
  | dict n e nd l kb dv => rw [List.mem_singleton.mp hc]; exact ⟨n, _, e⟩
  | non => cases hc
  | five => cases hc
  | txt => cases hc
  | bl => cases hc
  | nil n e => rw [List.mem_singleton.mp hc]; exact ⟨n, _, e⟩
  | prs n e pr l b => rw [List.mem_singleton.mp hc]; exact ⟨n, _, e⟩
  | raw n e dy l l2 nd b => rw [List.mem_singleton.mp hc]; exact ⟨n, _, e⟩
theorem BR.some_ {Z : List Addr} {H : Hp} {m : Nat} {fl : Bool} {sv : V} {kvs : List (Key × V)} (h : BR Z H m fl sv (some kvs)) : ∃ q', sv = .ref q' ∧ q' ∉ Z ∧ H q' = some (.dK kvs) := by
  cases h with
  | dict n e nd l kb dv => exact ⟨_, rfl, n, e⟩
theorem wd_sh {wd : Str} (h1 : PyData.leavesShort 40 (.str wd) = true) (h2 : wd.cps.size ≤ 8) : Sh (.str wd) 0 8 := ⟨rfl, h1, Nat.le_refl _, h2⟩
theorem told_dq {K : PySem.W.Frag} {wd : Str} {v : V} {d : PyData} {k : Nat} (sw : Sh (.str wd) 0 8) (sd : Sh d k 8) (k1 : k ≤ 1) (dv : ∀ H, Dp K H v d) (nd : d.hasDict = false) : (∀ H r, H r = some (.tup [.str wd, v]) → DQ K H (.ref r) (.tuple [.str wd, d])) ∧ (PyData.tuple [.str wd, d]).showable = true ∧ (PyData.tuple [.str wd, d]).depth ≤ 60 ∧ (PyData.tuple [.str wd, d]).shown.length ≤ sizeLine := by
  have a1 := sw.dp
  have a2 := sd.dp
  have b1 := sw.bk
  have b2 := sd.bk
  refine ⟨fun H r e => .dat (.tup (.inl (.inl e)) (.cons (.str _) (.cons (dv H) .nil))) (by show (false || (d.hasDict || false)) = false; rw [nd] <;> rfl), fits_of ?_ ?_ ?_ ?_⟩
  · show (PyData.showable (.str wd) && (PyData.showable d && true)) = true
    rw [sw.sh, sd.sh] <;> rfl
  · show (PyData.leavesShort 40 (.str wd) && (PyData.leavesShort 40 d && true)) = true
    rw [sw.lv, sd.lv] <;> rfl
  · show max (PyData.depth (.str wd)) (max (PyData.depth d) 0) + 1 ≤ 60
    omega
  · show PyData.bulk (.str wd) + 1 + (PyData.bulk d + 1 + 0) ≤ 1000
    omega
theorem told_val {K : PySem.W.Frag} {m : Int} (h0 : 0 ≤ m) (h1 : m ≤ 10 ^ 30) : (∀ H r, H r = some (.tup [.str "value", .int m]) → DQ K H (.ref r) (.tuple [.str "value", .int m])) ∧ (PyData.tuple [.str "value", .int m]).showable = true ∧ (PyData.tuple [.str "value", .int m]).depth ≤ 60 ∧ (PyData.tuple [.str "value", .int m]).shown.length ≤ sizeLine := by
  have s := sh_int (u := m) (by omega) h1
  exact told_dq (wd_sh (by decide +kernel) (by decide +kernel)) (k := 0) ⟨s.sh, s.lv, s.dp, by have := s.bk; omega⟩ (by omega) (fun _ => .int _) rfl
theorem told_szs {K : PySem.W.Frag} {ts : List (Str × Str)} (o : TreeOk ts) {v : V} (h : v = .non ∨ ∃ a, Pl ts a ∧ v = .str a) : ∃ d, (∀ H r, H r = some (.tup [.str "sizes", v]) → DQ K H (.ref r) d) ∧ d.showable = true ∧ d.depth ≤ 60 ∧ d.shown.length ≤ sizeLine := by
  have sw : Sh (.str "sizes") 0 8 := wd_sh (by decide +kernel) (by decide +kernel)
  rcases h with rfl | ⟨a, pa, rfl⟩
  · exact ⟨_, told_dq sw (d := .none) (k := 0) ⟨rfl, by decide +kernel, Nat.le_refl _, Nat.zero_le _⟩ (by omega) (fun _ => .non) rfl⟩
  · have sa : Sh (.str a) 0 8 := by
      rcases pa with e | m
      · rw [e]
        exact wd_sh (by decide +kernel) (by decide +kernel)
      · exact sh_name (o.nm a m)
    exact ⟨_, told_dq sw sa (by omega) (fun _ => .str _) rfl⟩
theorem sum_bd {f : Str → Int} {m : Int} : ∀ {l : List Str}, (∀ a ∈ l, 0 ≤ f a ∧ f a ≤ m) → 0 ≤ (l.map f).sum ∧ (l.map f).sum ≤ m * (l.length : Int)
  | [], _ => by simp
  | a :: l, h => by
    obtain ⟨i1, i2⟩ := sum_bd (l := l) fun b hb => h b (List.mem_cons_of_mem _ hb)
    obtain ⟨a1, a2⟩ := h a (List.mem_cons_self ..)
    rw [List.map_cons, List.sum_cons, List.length_cons, Int.natCast_add, Int.mul_add]
    omega
section
variable {P : Program} {w : World} {K : PySem.W.Frag} {mg : Str → Option Value} {base : Heap}
theorem sc17 : FnScope N17 ["_law_script"] (defScope s_law) := ⟨rfl, rfl, rfl, by decide +kernel, rfl, by decide +kernel, by decide +kernel⟩
theorem ok_law17 {f0 fEr CF CR CS CU R co ta : Addr} {mc mcR : Value} {CC : Nat → Addr} {T : List (Addr × Str)} {f g : Nat → Addr} {fd : Nat → FuncData} {fd0 fdEr : FuncData} (F : FunC K "law" "law" s_law f0 fd0 co) (N : Nm mg) (L : W17 P w K mg base CF CR CS CU mc mcR f g fd)
    (GE : Ge K mg "_law_result" s__law_result fEr fdEr) (C : Cl7 K mg R CC) (eC : CC 0 = CS) (eU : CC 2 = CU) (TB : TabB base mg co ta) (hmT : (ta, lamQ "law") ∈ T) (hut : ∀ p ∈ T, p.1 = ta → p.2 = lamQ "law") : FnG P w K mg base CX0 9 f0 fd0 ["_law_script"] (spLaw17 K T) := by
  refine F.okG sc17 (fun vs H Q E h => ?_) (fun A outer s H vs Q E clr hr h => ?_)
  · obtain ⟨a, ns, rfl, _⟩ := h
    rfl
  · obtain ⟨a, ns, rfl, hS, hlen, tT, k⟩ := h
    have hu := hu_of hr
    have hr1 : Room 1 _ := hr.mono (by decide)
    have hr2 : Room 2 _ := hr.mono (by decide)
    have hr3 : Room 3 _ := hr.mono (by decide)
    have hr4 : Room 4 _ := hr.mono (by decide)
    have hr5 : Room 5 _ := hr.mono (by decide)
    have hr6 : Room 6 _ := hr.mono (by decide)
    have nd := sc17.nd
    have big : 1000 ≤ sizeLine := by decide
    refine ⟨_, pss_cons (ps_set (i := 1) nd rfl (.inl rfl) (pe_call L.bg.ok hr1 rfl L.bg.mgn L.bg.kp L.bg.bn .nil pass0 (pa_cons (pv 0) pa_nil)))
      (pss_cons (ps_for PassesOwn.never rfl (pi_range1 (by rfl) N.rng (pa_cons (pe_op op_add pe_int (pe_callB (call_min2 rfl) (by rfl) N.min (by decide +kernel) (pa_cons (pe_callB call_len_seq (by rfl) N.len PySem.boot_len (pa_cons (pv 0) pa_nil)) (pa_cons pe_int pa_nil)))) pa_nil)) (pg_name (i := 2) nd rfl (.inl rfl))
        (pss_cons (ps_asg (pe_tup (pa_cons (pe_call L.fo.ok hr4 rfl L.fo.mgn L.fo.kp L.fo.bn .nil pass0 (pa_cons (pv 1) (pa_cons (pe_call L.dp.ok hr3 rfl L.dp.mgn L.dp.kp L.dp.bn .nil pass0 (pa_cons (pv 1) (pa_cons (pe_lst (pa_cons pe_int (pa_cons pe_int (pa_cons pe_int pa_nil)))) pa_nil))) pa_nil)))
            (pa_cons (pe_op op_add pe_int (pe_call L.dt.ok hr2 rfl L.dt.mgn L.dt.kp L.dt.bn .nil pass0 (pa_cons (pv 1) (pa_cons (pe_call L.dp.ok hr3 rfl L.dp.mgn L.dp.kp L.dp.bn .nil pass0 (pa_cons (pv 1) (pa_cons (pe_lst (pa_cons pe_int (pa_cons pe_int pa_nil))) pa_nil))) pa_nil)))) pa_nil))) (pg_tup rfl (pgs_cons (pg_name (i := 14) nd rfl (.inr rfl)) (pgs_cons (pg_name (i := 3) nd rfl (.inl rfl)) pgs_nil))))
        (pss_cons (ps_asg (pe_tup (pa_cons (pe_make L.rim L.ri hr5 (by rfl) L.R.gR L.rib .nil pass0 (pa_cons (pe_make L.fim L.fi hr4 (by rfl) L.Z.gF L.fib .nil pass0 (pa_cons (pv 14) pa_nil)) (pa_cons (pv 3) pa_nil))) (pa_cons pe_int pa_nil))) (pg_tup rfl (pgs_cons (pg_name (i := 15) nd rfl (.inr rfl)) (pgs_cons (pg_name (i := 4) nd rfl (.inl rfl)) pgs_nil))))
        (pss_cons (ps_set (i := 6) nd rfl (.inl rfl) (pe_callTy (call_dictP rfl) (by rfl) N.dct (by decide +kernel) (pa_cons (pe_lc (own := [("_law_place", 5)]) (g := gName 5) (tt := tYes) (te := tTup (tCons (tVar 5) (tCons (tLst tNil) tNil))) rfl nd (pi_list (pe_op op_cat (pe_lst (pa_cons pe_str pa_nil)) (pe_callB (call_sortedD rfl) (by rfl) N.srt (by decide +kernel) (pa_cons (pv 14) pa_nil)))) (blkOk_by (N := N17) (sc := defScope s_law) (by decide +kernel))
            (fun _ _ _ _ _ => pg_name (i := 5) nd rfl (Or.inl rfl)) (fun _ _ _ _ _ => pts_nil) (fun _ _ _ _ _ => pe_tup (pa_cons (pv 5) (pa_cons (pe_lst pa_nil) pa_nil)))) pa_nil)))
        (pss_cons (ps_dput hu (pv 6) pe_str (pe_listRg rfl (by rfl) N.lst (prg_1 (by rfl) N.rng (pv 3))) rfl)
        (pss_cons (ps_if (pt_not (pt_val (pe_callG L.sh clr.deeper hr6 rfl L.shm L.shk L.shb .nil pass0 (pa_cons (pv 15) (pa_cons (pv 14) (pa_cons (pv 6) (pa_cons (pv 4) pa_nil))))))) (pss_one (ps_ret pe_bl)) pss_nil)
        (pss_cons (ps_for PassesOwn.never rfl (pi_range1 (by rfl) N.rng (pa_cons (pe_op op_add pe_int (pe_call L.dt.ok hr2 rfl L.dt.mgn L.dt.kp L.dt.bn .nil pass0 (pa_cons (pv 1) (pa_cons pe_int pa_nil)))) pa_nil)) (pg_name (i := 7) nd rfl (.inl rfl))
          (pss_cons (ps_set (i := 12) nd rfl (.inr rfl) (pe_call L.sz.ok hr4 rfl L.sz.mgn L.sz.kp L.sz.bn .nil pass0 (pa_cons (pv 1) (pa_cons (pv 14) (pa_cons (pv 3) pa_nil)))))
          (pss_cons (ps_if (pt_cmpR op_eq (pe_call L.dt.ok hr2 rfl L.dt.mgn L.dt.kp L.dt.bn .nil pass0 (pa_cons (pv 1) (pa_cons pe_int pa_nil))) pe_int (nomark _)) (pss_one (ps_set (i := 12) nd rfl (.inr rfl) (pe_call L.be.ok hr4 rfl L.be.mgn L.be.kp L.be.bn .nil pass0 (pa_cons (pv 1) (pa_cons (pv 14) (pa_cons (pv 12) pa_nil)))))) pss_nil)
          (pss_imp (t' := tFlip17 T CF CR) (pss_cons (ps_if (PW.pt (pw_and (pt_cmpR op_eq (pe_op op_mod (pv 7) pe_int) pe_int (nomark _)) (pw_and1 (pt_val (pe_callB (CallR.or call_isi call_isiR) (by rfl) N.isi (by decide +kernel) (pa_cons (pv 12) (pa_cons (pe_bltn (v := .ty "dict") (u := .type "dict") (by rfl) N.dct (by decide +kernel) rfl) pa_nil))))))) (pss_one (ps_set (i := 12) nd rfl (.inr rfl) (pe_call L.fl.ok hr1 rfl L.fl.mgn L.fl.kp L.fl.bn .nil pass0 (pa_cons (pv 12) pa_nil)))) pss_nil)
          (pss_imp (t' := tRest17 T CF CR) (pss_cons (ps_par (i := 8) (j := 9) rfl nd rfl rfl (by decide) rfl rfl (pa_cons (pe_callG L.se clr.deeper hr1 rfl L.sem L.sek L.seb .nil pass0 (pa_cons (pv 14) (pa_cons (pv 3) (pa_cons (pv 12) pa_nil)))) (pa_cons (pe_callB (call_reprO clr.deeper hr.units) (by rfl) N.rep (by decide +kernel) (pa_cons (pv 12) pa_nil)) pa_nil)) (by rfl))
            (pss_cons (ps_set (i := 10) nd rfl (.inl rfl) (pe_lamS (T := T) (k := 6) (t := fun E => tMeth CR "change" (spChangeM K CF CR CS) [] E (tVar 15) (tCons (tVar 12) tNil)) rfl GE.mgn GE.fn GE.bn scRs rfl (.inl rfl) (fun cdg => result_gives N C) TB rfl hmT hut hr (lamS_by (sc := defScope s_law) (by decide +kernel)) rfl (fun _ _ _ _ _ => rfl)
                (fun A outer s H E f c' hr2 => pe_meth (pv 15) L.R.cl L.ch.mt L.ch.fn (hr2.mono (by decide)) L.ch.bn .nil (passes_call (takes_of rfl rfl rfl rfl) (fun _ _ _ _ h => h)) (pa_cons (pv 12) pa_nil))))
            (pss_cons (ps_if (pt_cmpR op_isN (pv 8) pe_non (nomark _))
              (pss_cons (ps_set (i := 11) nd rfl (.inl rfl) (pe_call L.mv.ok hr1 rfl L.mv.mgn L.mv.kp L.mv.bn .nil pass0 (pa_cons (pv 14) (pa_cons (pe_call L.cd.ok hr2 rfl L.cd.mgn L.cd.kp L.cd.bn .nil pass0 (pa_cons (pv 14) (pa_cons (pe_call L.pl.ok hr1 rfl L.pl.mgn L.pl.kp L.pl.bn .nil pass0 (pa_cons (pv 6) pa_nil)) pa_nil))) (pa_cons (pv 12) pa_nil)))))
              (pss_one (ps_par3 (i := 8) (j := 6) (l := 4) rfl nd rfl rfl rfl (by decide) (by decide) (by decide) rfl rfl rfl (pa_cons (pe_tup (pa_cons pe_str (pa_cons (pe_callB (cr_sumVT rfl) (by rfl) N.sum (by decide +kernel) (pa_cons (pe_bm0 PySem.F.plainAttrs_dict PySem.F.slot_dict_values PySem.F.type_dict_values mt_dvalsT (pv 11)) pa_nil)) pa_nil)))
                (pa_cons (pe_call L.le.ok hr3 rfl L.le.mgn L.le.kp L.le.bn .nil pass0 (pa_cons (pv 14) (pa_cons (pv 6) (pa_cons (pv 12) pa_nil)))) (pa_cons (pe_op op_add (pv 4) pe_int) pa_nil))) (by rfl)))) pss_nil)
            (pss_imp (t' := tEnd17 T K CF CR) (pss_cons (ps_if (PW.pt (pw_or (pt_cmpR op_ne (pe_callB (call_reprO clr.deeper hr.units) (by rfl) N.rep (by decide +kernel) (pa_cons (pv 10) pa_nil)) (pe_callB (call_reprO clr.deeper hr.units) (by rfl) N.rep (by decide +kernel) (pa_cons (pv 8) pa_nil)) (nomark _))
                  (pw_or1 (pt_cmpR op_ne (pe_callB (call_reprO clr.deeper hr.units) (by rfl) N.rep (by decide +kernel) (pa_cons (pv 12) pa_nil)) (pv 9) (nomark _))))) (pss_one (ps_ret pe_bl)) pss_nil)
              (pss_cons (ps_if (pt_val (pe_callB (CallR.or call_isi call_isiR) (by rfl) N.isi (by decide +kernel) (pa_cons (pv 12) (pa_cons (pe_bltn (v := .ty "dict") (u := .type "dict") (by rfl) N.dct (by decide +kernel) rfl) pa_nil)))) (pss_one (ps_expr (pe_clearO (pv 12)))) pss_nil)
              (pss_one (ps_if (pt_not (pt_val (pe_callG L.sh clr.deeper hr6 rfl L.shm L.shk L.shb .nil pass0 (pa_cons (pv 15) (pa_cons (pv 14) (pa_cons (pv 6) (pa_cons (pv 4) pa_nil))))))) (pss_one (ps_ret pe_bl)) pss_nil)))) ?_)))) ?_)) ?_))))
        (pss_cons (ps_set (i := 13) nd rfl (.inr rfl) (pe_call L.dp.ok hr3 rfl L.dp.mgn L.dp.kp L.dp.bn .nil pass0 (pa_cons (pv 1) (pa_cons (pe_lst (pa_cons pe_int (pa_cons pe_int (pa_cons (pe_un un_neg pe_int) (pa_cons pe_non (pa_cons pe_bl (pa_cons pe_str (pa_cons (pe_lst (pa_cons pe_int pa_nil)) (pa_cons pe_dnewK (pa_cons (pe_op op_pow pe_int pe_int) pa_nil)))))))))) pa_nil))))
        (pss_one (ps_if (pt_cmpR (op_neD hr.units) (pe_lamS (T := T) (k := 6) (t := fun E => tMake CR (spRInitX K CF CR CU) [] E (tCons (tMake CF (spFInit CF) [] E0 (tCons (tVar 14) tNil)) (tCons (tVar 13) tNil))) rfl GE.mgn GE.fn GE.bn scRs rfl (.inl rfl) (fun cdg => result_gives N C) TB rfl hmT hut hr (lamS_by (sc := defScope s_law) (by decide +kernel)) rfl (fun _ _ _ _ _ => rfl)
            (fun A outer s H E f c' hr2 => pe_make L.rim L.rx (hr2.mono (by decide)) (by rfl) L.R.gR L.rib .nil (passes_call (takes_of rfl rfl rfl rfl) (fun _ _ _ _ h => h)) (pa_cons (pe_make L.fim L.fi (hr2.mono (by decide)) (by rfl) L.Z.gF L.fib .nil pass0 (pa_cons (pv 14) pa_nil)) (pa_cons (pv 13) pa_nil)))) (pe_tup (pa_cons pe_str (pa_cons pe_non pa_nil))) (nomark _)) (pss_one (ps_ret pe_bl)) pss_nil))))))))))
      (pss_one (ps_ret (pe_cmpR op_eq (pe_callB (call_reprD clr.deeper hr.units) (by rfl) N.rep (by decide +kernel) (pa_cons (pe_prop (pe_makeK0 (E := E0) L.rim L.ri hr5 (by rfl) L.R.gR L.rik pass0 (pk_cons pe_int (pk_cons (pe_make L.fim L.fi hr4 (by rfl) L.Z.gF L.fib .nil pass0 (pa_cons (pe_disp (pps_cons pe_str pe_str pps_nil) (by rfl) (by rfl) (fun z => by cases z) (by decide)) pa_nil)) pk_nil))) L.R.cl L.pL.pr L.pL.fn hr2 L.pL.bn .nil pass0 (by rfl)) pa_nil)) pe_str (nomark _))))), ?_⟩
    · intro D0 σ H1 ⟨d, l, i, q, sh, y, z, x, fa, dv, sv, t, ts, n, b, LL, ps, Z, fl, o, dF, dS, u0, u2, u7, u11, u13, eσ, S, to, pm, asc, n1, n60, br, ⟨ds, s1, s2, s3⟩, ⟨df, dd, f1, f2, f3⟩, kk⟩
      subst eσ
      have ot : TreeOk ts := to.perm pm.symm
      refine ⟨_, rfl, .ref fa, dF, rfl, df, f1, f2, f3, _, rfl, dv, dF, rfl, dd, f1, f2, f3, rfl, _, rfl, ?_⟩
      rw [decide_eq_true rfl]
      refine iteF ?_
      refine ⟨_, rfl, sv, dS, rfl, ds, s1, s2, s3, _, rfl, rfl, _, rfl, ?_⟩
      rw [decide_eq_true rfl]
      refine iteF ?_
      obtain ⟨bD, t1, t2, isi⟩ := br.isi (K := K)
      have shn : ∀ H2, S17 T CF CR [] d l i q sh y z x t ts n b LL ps H2 → ∃ v, some (some (V.ref y)) = some (some v) := fun _ _ => ⟨_, rfl⟩
      refine ⟨_, rfl, isi _ ⟨_, rfl, ?_⟩⟩
      cases bD with
      | true =>
        obtain ⟨q', rfl, nq, dc⟩ := t1 rfl
        have S : S17 T CF CR [q'] d l i q sh y z x t ts n b LL ps H1 := S
        refine iteT ?_
        have go : ∀ o' : HO, (Solid H1 q' ∨ ∃ rows, H1 q' = some (RawO q' rows)) → S17 T CF CR [] d l i q sh y z x t ts n b LL ps (upd H1 q' o') := fun o' hz => S.put hz o'
        rcases dc with ⟨kvs, _, hq'⟩ | ⟨rows, _, hq'⟩
        · refine ⟨_, rfl, q', _, _, rfl, hq', .inl ⟨_, rfl, rfl⟩, fun o' _ => ?_⟩
          have S2 := go o' (.inl ⟨_, hq', (by intro _ z; cases z), (by intro _ z; cases z)⟩)
          obtain ⟨rS, nq1, nr1, hL⟩ := S2.hs
          exact ⟨_, rfl, _, rfl, _, rfl, _, rfl, y, z, x, q, sh, (ps.length : Int), _, t, ts, rS, LL, ps, n, rfl, S2.ra, S2.hq, to, pm, asc, hL, S2.v, n1, n60, rfl, fun H2 s2 => ⟨_, rfl, iteF (kk H2 (S2.same s2))⟩⟩
        · refine ⟨_, rfl, q', _, _, rfl, hq', .inr rfl, fun o' _ => ?_⟩
          have S2 := go o' (.inr ⟨_, hq'⟩)
          obtain ⟨rS, nq1, nr1, hL⟩ := S2.hs
          exact ⟨_, rfl, _, rfl, _, rfl, _, rfl, y, z, x, q, sh, (ps.length : Int), _, t, ts, rS, LL, ps, n, rfl, S2.ra, S2.hq, to, pm, asc, hL, S2.v, n1, n60, rfl, fun H2 s2 => ⟨_, rfl, iteF (kk H2 (S2.same s2))⟩⟩
      | false =>
        refine iteF ?_
        have S2 : S17 T CF CR [] d l i q sh y z x t ts n b LL ps H1 := S.less (fun _ h => by cases h)
        obtain ⟨rS, nq1, nr1, hL⟩ := S2.hs
        exact ⟨_, rfl, _, rfl, _, rfl, _, rfl, y, z, x, q, sh, (ps.length : Int), _, t, ts, rS, LL, ps, n, rfl, S2.ra, S2.hq, to, pm, asc, hL, S2.v, n1, n60, rfl, fun H2 s2 => ⟨_, rfl, iteF (kk H2 (S2.same s2))⟩⟩
    · intro D0 σ H1 ⟨d, l, i, q, sh, y, z, x, sv, t, ts, n, b, LL, ps, Z, fl, o, u0, u2, u7, u8, u9, u10, u11, u13, eσ, S, to, pm, asc, n1, n60, pl, br, yZ, zZ, kk⟩
      subst eσ
      have ot : TreeOk ts := to.perm pm.symm
      have few := ot.few
      have yzZ : ∀ c ∈ [y, z], c ∈ Z := fun c hc => by
        simp only [List.mem_cons, List.not_mem_nil, or_false] at hc
        rcases hc with rfl | rfl
        · exact yZ
        · exact zZ
      obtain ⟨dS, dq, z1, z2, z3⟩ := br.dq (K := K)
      refine ⟨_, rfl, _, rfl, _, rfl, q, (n : Int), sv, t, ts, o, rfl, S.hq, to, pm, asc, br.bentV, ?_⟩
      cases ef : feas ts (n : Int) o with
      | none =>
        intro H4 s4
        have S4 := S.same s4
        refine ⟨_, rfl, sv, dS, rfl, dq H4 (KpZ.of_same s4), z1, z2, z3, _, _, rfl, ?_⟩
        refine ⟨S4.tb, fun H5 e5 t5 H6 s6 => ?_⟩
        have kz5 : KpZ Z H1 H5 := (KpZ.of_same s4).trans (KpZ.of_ext e5)
        have kz6 := kz5.trans (KpZ.of_same s6)
        have br6 := br.keep kz6
        have S6 := (S4.ext e5 t5 fun c hc => ((br.keep kz5).frF c hc).2).same s6
        obtain ⟨dy6, qy6, hy6⟩ := S6.ra.ins
        have fe : feE CS ts (n : Int) o = none := by unfold feE; rw [ef] <;> rfl
        have al6 : ∀ c ∈ frF sv ++ [d, l, i], ∃ u, H6 c = some u := fun c hc => by
          rcases List.mem_append.mp hc with hc | hc
          · exact (S6.al c hc).1
          · obtain ⟨a1, a2, a3⟩ := S6.dr.at3
            simp only [List.mem_cons, List.not_mem_nil, or_false] at hc
            rcases hc with rfl | rfl | rfl
            · exact a1
            · exact a2
            · exact a3
        have szm : SzM K H6 ts.length sv o := by
          have w := br6.bentV.szM (K := K)
          rw [show t.length = ts.length from pm.length_eq.symm] at w
          exact w
        refine ⟨_, rfl, y, dy6, _, rfl, hy6, rfl, _, rfl, spChangeZ_imp ⟨y, z, x, sv, _, ts, LL, ps, n, o, rfl, S6.ra, ot, S6.v, n1, n60, pl, szm, al6, ?_⟩⟩
        rw [fe]
        intro H7 L3 mv kp ra7 fa H8 s8 nfa hfa
        obtain ⟨dr7, tb7, hq7, hs7, al7⟩ := S6.roll kp
        have kz8 : KpZ Z H1 H8 := (kz6.trans (KpZ.of_kx yzZ kp.kx)).trans (KpZ.of_same s8)
        cases o with
        | none => exact absurd fe feE_none
        | some kvs =>
        obtain ⟨qf, rfl, nqf, hqf1⟩ := br.some_
        have hqf8 : H8 qf = some (.dK kvs) := kz8 _ _ nqf hqf1 (by intro _ z; cases z)
        obtain ⟨fl1, fv, fr⟩ := feE_ok fe
        have fea : Fea ts n (szOf kvs) := ⟨fun a ha => (fv a ha).2, fr⟩
        have ptk : ∀ a, a ∈ ts.map Prod.fst ↔ a ∈ t.map Prod.fst := fun a => (pm.map Prod.fst).mem_iff
        have vf : ∀ w ∈ t, valV kvs (Sum.inr w.1) = some (.int (szOf kvs w.1)) := fun w hw => (fv w.1 ((ptk _).mpr (List.mem_map.mpr ⟨w, hw, rfl⟩))).1
        refine ⟨_, rfl, rfl, _, rfl, ?_⟩
        rw [decide_eq_true rfl]
        refine iteT ?_
        obtain ⟨rS, nq1, nr1, hL7⟩ := hs7
        have hL8 := hL7.mono s8
        have plT : ∀ w ∈ (usr n).map (plOf ts LL), Pl t w := fun w hw => (plZ_pl S.v w hw).imp id fun m => (ptk w).mp m
        refine ⟨_, rfl, _, rfl, _, rfl, sh, ts, rS, LL, n, rfl, ot, hL8, S.v, n60, fun pz H9 s9 npz hpz => ?_⟩
        have s89 := s8.trans s9
        refine ⟨q, pz, t, _, rfl, s89 _ _ hq7, to, hpz, plT, fun ks pc H10 s10 npc pks srt hpc => ?_⟩
        have s810 := s9.trans s10
        have cnt : ∀ w ∈ t, valV (tblI ks (szZ t ((usr n).map (plOf ts LL)))) (Sum.inr w.1) = some (.int (lsz ts LL w.1)) := fun w hw => by
          have mk : w.1 ∈ t.map Prod.fst := List.mem_map.mpr ⟨w, hw, rfl⟩
          rw [tblI_val (pks.mem_iff.mpr mk)]
          have e : szZ t ((usr n).map (plOf ts LL)) w.1 = szZ ts ((usr n).map (plOf ts LL)) w.1 := by
            unfold szZ
            congr 3
            funext y
            rw [path_perm to.nd pm.symm]
          rw [e, szZ_plZ ot S.v ((ptk _).mpr mk)]
        have s710 := s8.trans s810
        refine ⟨_, rfl, q, pc, qf, t, _, kvs, lsz ts LL, szOf kvs, rfl, s710 _ _ hq7, to, hpc, s810 _ _ hqf8, fun w hw => ⟨cnt w hw, vf w hw⟩, fun pmv H11 s11 npm hpm => ?_⟩
        obtain ⟨ns, ens, esum⟩ := mvs_vals (fun x => szOf kvs x - lsz ts LL x) t
        refine ⟨_, rfl, .inr (.inr (.inl ⟨rfl, .inr ⟨_, hpm⟩⟩)), pmv, _, rfl, rfl, hpm, fun vv nvv => ⟨vv, pmv, _, ns, rfl, upd_same, (upd_ne (ne_of_none hpm nvv)).trans hpm, ens, by show 2 ≤ sizeLine; omega, fun tq ntq => ?_⟩⟩
        have sv1 := same_new (o := VwO vv pmv) nvv
        obtain ⟨H13, e13⟩ : ∃ X, X = upd (upd H11 vv (VwO vv pmv)) tq (.tup [.str "value", .int ns.sum]) := ⟨_, rfl⟩
        have s1113 : Same H11 H13 := e13 ▸ sv1.trans (same_new ntq)
        have htq : H13 tq = some (.tup [.str "value", .int ns.sum]) := by rw [e13]; exact upd_same
        rw [← e13]
        clear e13
        have s713 : Same H7 H13 := (s710.trans s11).trans s1113
        have s813 : Same H8 H13 := (s810.trans s11).trans s1113
        refine ⟨_, rfl, _, rfl, _, rfl, q, sh, qf, t, ts, rS, LL, n, kvs, szOf kvs, rfl, s713 _ _ hq7, to, pm, asc, hL7.mono s713, S.v, n60, s813 _ _ hqf8, vf, fea, fun sh' r' L' H14 s14 nsh nr' mvd hL' => ?_⟩
        have s714 := s713.trans s14
        have s814 := s813.trans s14
        refine ⟨_, rfl, _, _, rfl, rfl, _, _, _, rfl, ?_⟩
        have mvc : Moved ts (fun x => szOf kvs x - lsz ts LL x) LL L3 := mv
        have same := moved_one ot mvd mvc
        have alZ : ∀ c ∈ frF (V.ref qf) ++ [d, l, i, y, z], ∃ u, H13 c = some u := fun c hc => by
          obtain ⟨_, _, a4, a5⟩ := ra7.apart
          obtain ⟨a1, a2, a3⟩ := dr7.at3
          rcases List.mem_append.mp hc with hc | hc
          · exact (al7 c hc).1.imp fun u e => s713 _ _ e
          · simp only [List.mem_cons, List.not_mem_nil, or_false] at hc
            rcases hc with rfl | rfl | rfl | rfl | rfl
            · exact a1.imp fun u e => s713 _ _ e
            · exact a2.imp fun u e => s713 _ _ e
            · exact a3.imp fun u e => s713 _ _ e
            · exact a4.imp fun u e => s713 _ _ e
            · exact a5.imp fun u e => s713 _ _ e
        have newA : ∀ {c : Addr}, H13 c = none → c ∉ frF (V.ref qf) ++ [d, l, i, y, z] := fun {c} e m => by
          obtain ⟨u, w⟩ := alZ c m
          rw [e] at w
          cases w
        have S14 : S17 T CF CR (frF (V.ref qf)) d l i q sh' y z x t ts n b L3 (ps ++ [lsz ts LL]) H14 :=
          ⟨dr7.mono s714, tb7.ext s714, s714 _ _ hq7, ra7.mono s714, ⟨r', newA nsh, fun p hp => newA (nr' p hp), hL'.congr fun p hp => same p (mem_pls.mp hp)⟩, moved_val ot mv S.v, fun c hc => ⟨(al7 c hc).1.imp fun u e => s714 _ _ e, (al7 c hc).2⟩⟩
        have bd : ∀ a ∈ ts.map Prod.fst, 0 ≤ absI (szOf kvs a - lsz ts LL a) ∧ absI (szOf kvs a - lsz ts LL a) ≤ 60 := fun a ha => by
          have h1 := lsz_bd ot S.v ha
          have h2 := fea.nn a ha
          have h3 := sz_le ot (s := szOf kvs) (n := n) fea.nn (fun p hp => fea.res p (mem_pls.mpr hp)) ha
          unfold absI
          split <;> omega
        obtain ⟨m, em⟩ : ∃ m : Int, m = ((ts.map Prod.fst).map fun a => absI (szOf kvs a - lsz ts LL a)).sum := ⟨_, rfl⟩
        have mb := sum_bd bd
        rw [← em, List.length_map] at mb
        have en : ns.sum = m := by
          rw [esum, em]
          exact sum_perm ((pm.map Prod.fst).symm.map fun a => absI (szOf kvs a - lsz ts LL a))
        rw [en] at htq
        have hfa' : H8 fa = some (.tup [.str "value", .int m]) := by rw [hfa, em] <;> rfl
        obtain ⟨g1, g2, g3, g4⟩ := told_val (K := K) (m := m) mb.1 (by omega)
        have kz14 := kz8.trans (KpZ.of_same s814)
        refine ⟨d, l, i, q, sh', y, z, x, fa, .ref tq, .ref qf, t, ts, n, b, L3, ps ++ [lsz ts LL], Z, fl, some kvs, _, dS, u0, u2, u7, some (.ref pmv), u13, ?_, S14, to, pm, asc, n1, n60, br.keep kz14, ⟨dq H14 kz14, z1, z2, z3⟩, ⟨g1 H14 fa (s814 _ _ hfa'), g1 H14 tq (s14 _ _ htq), g2, g3, g4⟩, fun H' S' => ?_⟩
        · rw [List.length_append] <;> rfl
        · have w := kk H' L3 (ps ++ [lsz ts LL]) sh' (some (.ref tq)) (some (.str dS.shown)) (some (.ref fa)) (some (.ref pmv)) S' (by rw [List.length_append] <;> exact Nat.le_refl _)
          rw [List.length_append] at w
          exact w
      | some v =>
        intro p H4 s4 np hp
        have S4 := S.same s4
        refine ⟨_, rfl, sv, dS, rfl, dq H4 (KpZ.of_same s4), z1, z2, z3, _, _, rfl, ?_⟩
        refine ⟨S4.tb, fun H5 e5 t5 H6 s6 => ?_⟩
        have kz5 : KpZ Z H1 H5 := (KpZ.of_same s4).trans (KpZ.of_ext e5)
        have kz6 := kz5.trans (KpZ.of_same s6)
        have br6 := br.keep kz6
        have S6 := (S4.ext e5 t5 fun c hc => ((br.keep kz5).frF c hc).2).same s6
        obtain ⟨dy6, qy6, hy6⟩ := S6.ra.ins
        have fe : feE CS ts (n : Int) o = some (.e1 CS "place" v) := by unfold feE; rw [ef] <;> rfl
        have al6 : ∀ c ∈ frF sv ++ [d, l, i], ∃ u, H6 c = some u := fun c hc => by
          rcases List.mem_append.mp hc with hc | hc
          · exact (S6.al c hc).1
          · obtain ⟨a1, a2, a3⟩ := S6.dr.at3
            simp only [List.mem_cons, List.not_mem_nil, or_false] at hc
            rcases hc with rfl | rfl | rfl
            · exact a1
            · exact a2
            · exact a3
        have szm : SzM K H6 ts.length sv o := by
          have w := br6.bentV.szM (K := K)
          rw [show t.length = ts.length from pm.length_eq.symm] at w
          exact w
        refine ⟨_, rfl, y, dy6, _, rfl, hy6, rfl, _, rfl, spChangeZ_imp ⟨y, z, x, sv, _, ts, LL, ps, n, o, rfl, S6.ra, ot, S6.v, n1, n60, pl, szm, al6, ?_⟩⟩
        rw [fe]
        refine fun dd H7 s7 nd hd => ⟨0, v, by decide, by rw [eC], ⟨dd, rfl, hd⟩, fun fa H8 s8 nfa hfa => ?_⟩
        have s68 := s7.trans s8
        have S8 := S6.same s68
        have kz8 := kz6.trans (KpZ.of_same s68)
        have hp8 : H8 p = some (.tup [.str "sizes", v]) := s68 _ _ (s6 _ _ (e5 _ _ hp (by intro _ z; cases z)))
        refine ⟨_, rfl, rfl, _, rfl, ?_⟩
        rw [decide_eq_false (show ¬ V.ref p = V.non from fun z => by cases z)]
        refine iteF ?_
        obtain ⟨dF, g1, g2, g3, g4⟩ := told_szs (K := K) ot (feas_val28 ef)
        exact ⟨d, l, i, q, sh, y, z, x, fa, .ref p, sv, t, ts, n, b, LL, ps, Z, fl, o, dF, dS, _, _, _, _, _, rfl, S8, to, pm, asc, n1, n60, br.keep kz8, ⟨dq H8 kz8, z1, z2, z3⟩, ⟨g1 H8 fa hfa, g1 H8 p hp8, g2, g3, g4⟩, fun H' S' => kk H' LL ps sh _ _ _ _ S' (Nat.le_succ _)⟩
    · intro D0 σ H1 ⟨d, l, i, q, sh, y, z, x, sv, t, ts, n, b, j, LL, ps, Z, o, u0, u2, u8, u9, u10, u11, u13, eσ, S, to, pm, asc, n1, n60, pl, br, yZ, zZ, zal, pr, kk⟩
      subst eσ
      have frS : S17 T CF CR (frF sv) d l i q sh y z x t ts n b LL ps H1 := by
        cases sv with
        | ref c =>
          obtain ⟨n0, a0⟩ := br.frF c (by show c ∈ [c]; simp)
          exact pr c n0 Same.refl a0
        | _ => exact S
      have rest : tRest17 T CF CR D0 [u0, some (.ref d), u2, some (.int (n : Int)), some (.int (ps.length : Int)), none, some (.ref sh), some (.int j), u8, u9, u10, u11, some sv, u13, some (.ref q), some (.ref y)] H1 :=
        ⟨d, l, i, q, sh, y, z, x, sv, t, ts, n, b, LL, ps, Z, false, o, _, _, _, _, _, _, _, _, rfl, frS, to, pm, asc, n1, n60, pl, br, yZ, zZ, fun H' LL' ps' sh' u8' u9' u10' u11' S' l' => kk H' LL' ps' sh' _ _ _ _ _ S' l'⟩
      refine ⟨_, rfl, _, _, rfl, rfl, (by show (0 : Int) < 2; decide), rfl, _, rfl, ?_⟩
      refine ite2 (fun _ => ?_) (fun _ => ?_)
      · obtain ⟨bD, t1, t2, isi⟩ := br.isi (K := K)
        refine ⟨_, rfl, isi _ ⟨_, rfl, ?_⟩⟩
        cases bD with
        | false => exact iteF rest
        | true =>
          refine iteT ?_
          have fin : ∀ (p : Addr) (H2 : Hp) (o' : Option (List (Key × V))), Same H1 H2 → H1 p = none → (p ∉ Z → BR Z H2 t.length true (.ref p) o') → tRest17 T CF CR D0 [u0, some (.ref d), u2, some (.int (n : Int)), some (.int (ps.length : Int)), none, some (.ref sh), some (.int j), u8, u9, u10, u11, some (.ref p), u13, some (.ref q), some (.ref y)] H2 := fun p H2 o' s12 np br2 => by
            have nZ : p ∉ Z := fun m => by
              obtain ⟨u, e⟩ := zal p m
              rw [np] at e
              cases e
            have b2 := br2 nZ
            exact ⟨d, l, i, q, sh, y, z, x, .ref p, t, ts, n, b, LL, ps, Z, true, o', _, _, _, _, _, _, _, _, rfl, pr p nZ s12 (b2.frF p (by show p ∈ [p]; simp)).2, to, pm, asc, n1, n60, pl, b2, yZ, zZ, fun H' LL' ps' sh' u8' u9' u10' u11' S' l' => kk H' LL' ps' sh' _ _ _ _ _ S' l'⟩
          cases br with
          | dict nq e nd' l13 kb dv =>
            rename_i q' kvs
            refine ⟨_, rfl, q', kvs, rfl, nd', .inl ⟨e, fun p H2 s12 np hp => fin p H2 (some kvs.reverse) s12 np fun nZ => ?_⟩⟩
            exact .dict nZ hp (by rw [List.map_reverse]; exact (List.reverse_perm _).nodup_iff.mpr nd') (by rw [List.length_reverse]; exact l13) (fun p hp => kb p (List.mem_reverse.mp hp)) (fun p hp => (dv p (List.mem_reverse.mp hp)).imp fun d h => h.keep (KpZ.of_same s12))
          | raw nq e dy lm l12 lnd bs =>
            rename_i q' yo lo s
            have ok : OddK H1 yo := by
              cases dy with
              | non => exact .inl rfl
              | tup _ e2 => exact .inr ⟨_, [Sum.inr "a"], rfl, e2⟩
            refine ⟨_, rfl, q', tblI lo s, rfl, tblI_nd lnd, .inr ⟨yo, .int 0, e, ok, fun p H2 s12 np hp => fin p H2 none s12 np fun nZ => ?_⟩⟩
            rw [tblI_rev] at hp
            exact .raw (lo := lo.reverse) (s := s) nZ hp (dy.keep (KpZ.of_same s12)) (by rw [List.length_reverse]; exact lm) (by rw [List.length_reverse]; exact l12) ((List.reverse_perm _).nodup_iff.mpr lnd) (fun a ha => bs a (List.mem_reverse.mp ha))
          | non => obtain ⟨q', e, _⟩ := t1 rfl; cases e
          | five => obtain ⟨q', e, _⟩ := t1 rfl; cases e
          | txt => obtain ⟨q', e, _⟩ := t1 rfl; cases e
          | bl => obtain ⟨q', e, _⟩ := t1 rfl; cases e
          | nil nq e =>
            obtain ⟨q', e1, _, ⟨kvs, e2, _⟩ | ⟨rows, _, e2⟩⟩ := t1 rfl
            · cases e2
            · cases e1
              rw [e] at e2
              cases e2
          | prs nq e _ _ _ =>
            obtain ⟨q', e1, _, ⟨kvs, e2, _⟩ | ⟨rows, _, e2⟩⟩ := t1 rfl
            · cases e2
            · cases e1
              rw [e] at e2
              cases e2
      · exact iteF rest
    · refine ⟨_, rfl, a, ns, rfl, hS, hlen, fun H0 d l i s0 nd0 nl0 ni0 dr0 => ?_⟩
      refine ⟨_, rfl, a, _, rfl, .inl (Same.sql s0 hS), _, _, rfl, _, _, rfl, rfl, ?_⟩
      obtain ⟨m, em⟩ : ∃ m : Int, m = 2 + (if (4 : Int) < ((ns.map V.int).length : Int) then 4 else ((ns.map V.int).length : Int)) := ⟨_, rfl⟩
      have lm : 0 ≤ m ∧ m ≤ 6 := by
        rw [List.length_map] at em
        subst em
        split <;> constructor <;> omega
      refine ⟨m, by rw [em] <;> rfl, by omega, by omega, ?_⟩
      refine for_it (walk_range (lo := 0) (n := m.toNat)) (fun j σ' H' => (∃ u2 u3 u4 u6 u7 u8 u9 u10 u11 u12 u13 u14 u15, σ' = [some (.ref a), some (.ref d), u2, u3, u4, none, u6, u7, u8, u9, u10, u11, u12, u13, u14, u15]) ∧ DrawB H' d l i (20000 * (j : Int)) ∧ Tabs T H') ⟨⟨_, _, _, _, _, _, _, _, _, _, _, _, _, rfl⟩, dr0.more (by omega), tT.ext s0⟩ (fun _ _ _ _ _ => trivial) ?_ ?_
      · intro jj xj σ' Ha Hb hj ⟨⟨u2, u3, u4, u6, u7, u8, u9, u10, u11, u12, u13, u14, u15, e⟩, dr, tb⟩ ⟨e1, e2⟩
        subst e
        subst e1
        subst e2
        obtain ⟨b0, eb0⟩ : ∃ b0 : Int, b0 = 20000 * (jj : Int) := ⟨_, rfl⟩
        rw [← eb0] at dr
        have bb : b0 + 20000 ≤ 10 ^ 12 - 1000 := by omega
        have dlS : ∀ {Hx : Hp} {bx : Int}, DrawB Hx d l i bx → ∀ b ∈ [d, l], Solid Hx b := fun {Hx bx} w b hb => by
          have z := w.solid
          simp only [List.mem_cons, List.not_mem_nil, or_false] at hb
          rcases hb with rfl | rfl
          · exact z.1
          · exact z.2.1
        -- the tree
        refine ⟨_, rfl, _, rfl, by show 3 ≤ sizeLine; omega, fun p1 np1 => ?_⟩
        have s1 := same_new (o := .lst [.int 7, .int 7, .int 12]) np1
        have p1d := dr.apart np1
        refine ⟨d, l, i, p1, b0, _, rfl, dr.mono s1, by omega, upd_same, p1d.2.1, List.cons_ne_nil _ _, by show 3 ≤ 1000; decide, fun xm H1 xmm dr1 k1 => ?_⟩
        obtain ⟨mo, rfl, mo1, mo12⟩ : ∃ mo : Int, xm = .int mo ∧ 1 ≤ mo ∧ mo ≤ 12 := by
          simp only [List.mem_cons, List.not_mem_nil, or_false] at xmm
          rcases xmm with rfl | rfl | rfl
          · exact ⟨7, rfl, by decide, by decide⟩
          · exact ⟨7, rfl, by decide, by decide⟩
          · exact ⟨12, rfl, by decide, by decide⟩
        have tb1 : Tabs T H1 := Tabs.kx k1 (dlS (dr.mono s1)) (tb.ext s1)
        refine ⟨d, l, i, _, mo, rfl, mo1, mo12, dr1, by omega, fun q t H2 o ah nq hq dr2 k2 => ?_⟩
        have few := o.few
        have tb2 : Tabs T H2 := Tabs.kx k2 (dlS dr1) tb1
        -- the users
        refine ⟨_, rfl, _, rfl, by show 2 ≤ sizeLine; omega, fun p2 np2 => ?_⟩
        have s2 := same_new (o := .lst [.int 12, .int 60]) np2
        have p2d := dr2.apart np2
        refine ⟨d, l, i, p2, _, _, rfl, dr2.mono s2, by omega, upd_same, p2d.2.1, List.cons_ne_nil _ _, by show 2 ≤ 1000; decide, fun xu H3 xuu dr3 k3 => ?_⟩
        obtain ⟨mu, rfl, mu1, mu60⟩ : ∃ mu : Int, xu = .int mu ∧ 1 ≤ mu ∧ mu ≤ 60 := by
          simp only [List.mem_cons, List.not_mem_nil, or_false] at xuu
          rcases xuu with rfl | rfl
          · exact ⟨12, rfl, by decide, by decide⟩
          · exact ⟨60, rfl, by decide, by decide⟩
        have tb3 : Tabs T H3 := Tabs.kx k3 (dlS (dr2.mono s2)) (tb2.ext s2)
        refine ⟨d, l, i, _, mu, rfl, dr3, by omega, by omega, by omega, fun c H4 c0 c1 dr4 k4 => ?_⟩
        have tb4 : Tabs T H4 := Tabs.kx k4 (dlS dr3) tb3
        obtain ⟨n, en⟩ : ∃ n : Nat, 1 + c = (n : Int) := ⟨(1 + c).toNat, by omega⟩
        have n1 : 1 ≤ n := by omega
        have n60 : n ≤ 60 := by omega
        refine ⟨_, _, rfl, rfl, ?_⟩
        show 2 ≤ sizeLine ∧ ∀ p, H4 p = none → _
        refine ⟨by omega, fun tp ntp => ⟨tp, [.ref q, .int (n : Int)], rfl, .inl (.inl (by rw [upd_same, ← en])), rfl, _, _, rfl, _, _, rfl, rfl, ?_⟩⟩
        have qd2 := dr2.off_prs hq
        have hq4 : H4 q = some (.dK (prs t)) := kx_at k4 (kx_at k3 (s2 _ _ hq) qd2.1 qd2.2.1) qd2.1 qd2.2.1
        obtain ⟨H5, e5⟩ : ∃ X, X = upd H4 tp (.tup [.ref q, .int (1 + c)]) := ⟨_, rfl⟩
        have s45 : Same H4 H5 := e5 ▸ same_new ntp
        rw [← e5]
        clear e5
        have dr5 := dr4.mono s45
        have hq5 := s45 _ _ hq4
        have tb5 := tb4.ext s45
        -- the rollout
        refine ⟨_, rfl, fun x dx nx ndx nxd => ?_⟩
        have sM : Same H5 (upd (upd H5 dx (.own x)) x (.ins CF dx [])) := fun b u e => by
          rw [upd_ne (ne_of_none e nx), upd_ne (ne_of_none e ndx)]
          exact e
        refine ⟨x, q, dx, t, rfl, upd_same, sM _ _ hq5, o, fun H6 ts pts asc fx6 oth6 => ⟨rfl, ?_⟩⟩
        have s56 : Same H5 H6 := fun b u e => oth6 b u (ne_of_none e nx) (sM _ _ e)
        have ot : TreeOk ts := o.perm pts.symm
        have v0 := val_L0 ot n
        refine ⟨_, rfl, fun y dy ny ndy nyd => ?_⟩
        have sO : Same H6 (upd (upd H6 dy (.own y)) y (.ins CR dy [])) := fun b u e => by
          rw [upd_ne (ne_of_none e ny), upd_ne (ne_of_none e ndy)]
          exact e
        refine ⟨y, x, dy, n, ts, rfl, upd_same, fx6.mono sO, ot, n1, n60, fun H7 q' z r' nq' nz nr' oth7 hy hL' hz => ⟨rfl, ?_⟩⟩
        have s67 : Same H6 H7 := fun b u e => oth7 b u (ne_of_none e ny) (sO _ _ e)
        have dr6 := dr5.mono s56
        have dr7 := dr6.mono s67
        have hq7 := s67 _ _ (s56 _ _ hq5)
        have fx7 := fx6.mono s67
        have off3 : ∀ {b : Addr} {Hx : Hp} {bx : Int}, DrawB Hx d l i bx → Hx b = none → b ∉ [d, l, i] := fun {b Hx bx} w e mm => by
          have z := w.apart e
          simp only [List.mem_cons, List.not_mem_nil, or_false] at mm
          exact mm.elim z.1 fun mm => mm.elim z.2.1 z.2.2
        have ra7 : RollAt CF CR [d, l, i] H7 y z x ts (L0 n) [] := roll_start fx7 hy hL' hz (off3 dr6 ny) (off3 dr6 (sO.free nz)) (off3 dr6 (sO.free nq')) (fun p hp => off3 dr6 (sO.free (nr' p hp))) (off3 dr5 nx) fun b e mm => by
          have z := dr7.off_prs e
          simp only [List.mem_cons, List.not_mem_nil, or_false] at mm
          exact mm.elim z.1 fun mm => mm.elim z.2.1 z.2.2
        have tb7 := (tb5.ext s56).ext s67
        refine ⟨by show 2 ≤ sizeLine; omega, fun tp2 ntp2 => ⟨tp2, [.ref y, .int 0], rfl, .inl (.inl upd_same), rfl, _, _, rfl, _, _, rfl, rfl, ?_⟩⟩
        obtain ⟨H8, e8⟩ : ∃ X, X = upd H7 tp2 (.tup [.ref y, .int 0]) := ⟨_, rfl⟩
        have s78 : Same H7 H8 := e8 ▸ same_new ntp2
        rw [← e8]
        clear e8
        have dr8 := dr7.mono s78
        have hq8 := s78 _ _ hq7
        have ra8 := ra7.mono s78
        have tb8 := tb7.ext s78
        have pnd := pls_nd ot
        have pln := pls_len ts
        have fewt := ot.few
        -- the shelf
        refine ⟨by show 1 ≤ sizeLine; omega, fun p1 m1 => ?_⟩
        have sp1 := same_new (o := .lst [V.str ""]) m1
        refine ⟨_, rfl, q, prs t, t.map Prod.fst, rfl, .inl (sp1 _ _ hq8), prs_keys t, by rw [List.length_map]; omega, fun ks2 p2 pks2 srt2 m2 => ?_⟩
        obtain rfl : ks2 = ts.map Prod.fst := sorted_one (pks2.trans (pts.map _).symm) srt2 asc
        have sp2 := same_new (o := .lst ((ts.map Prod.fst).map V.str)) m2
        refine ⟨p1, p2, _, _, rfl, rfl, sp2 _ _ upd_same, upd_same, by rw [List.length_map, List.length_map]; show 1 + _ ≤ _; omega, fun lp m3 => ⟨lp, rfl, ⟨_, SqL.of upd_same⟩, fun D nD => ?_⟩⟩
        have sp3 := same_new (o := .lst ([V.str ""] ++ (ts.map Prod.fst).map V.str)) m3
        obtain ⟨H9, e9⟩ : ∃ X, X = upd (upd (upd H8 p1 (.lst [V.str ""])) p2 (.lst ((ts.map Prod.fst).map V.str))) lp (.lst ([V.str ""] ++ (ts.map Prod.fst).map V.str)) := ⟨_, rfl⟩
        have s89 : Same H8 H9 := e9 ▸ (sp1.trans sp2).trans sp3
        have hlp : H9 lp = some (.lst ((pls ts).map V.str)) := by rw [e9]; exact upd_same
        rw [← e9] at nD ⊢
        clear e9
        refine lc_it walk_list (fun i H' => Same H9 H' ∧ ∃ rs : List Addr, H' D = some (.lst (rs.map V.ref)) ∧ Paired (fun (r : Addr) (p : Str) => ∃ e, H' r = some (.tup [.str p, .ref e]) ∧ (H' e = some (.lst []) ∧ e ≠ D ∧ H8 e = none)) rs ((pls ts).take i)) ⟨same_new nD, [], upd_same, .nil⟩ (fun i H' _ z => SqL.of (z.1 _ _ hlp)) ?_ ?_
        · intro i y Hc Hd hi ⟨z1, rs, hD, pr⟩ ⟨eb, ex⟩
          subst eb
          obtain ⟨a, ha, rfl⟩ := map_of (f := V.str) (l := pls ts) ex
          have lr := Paired.length pr
          rw [List.length_take] at lr
          refine ⟨rfl, ?_⟩
          refine ⟨_, rfl, by show 0 ≤ sizeLine; omega, fun le nle => ⟨by show 2 ≤ sizeLine; omega, fun tq ntq => ?_⟩⟩
          have sl := same_new (o := .lst []) nle
          have sq : Same (upd Hd le (.lst [])) (upd (upd Hd le (.lst [])) tq (.tup [.str a, .ref le])) := same_new ntq
          have slq := sl.trans sq
          refine ⟨_, slq _ _ hD, by rw [List.length_map]; omega, (z1.trans slq).put nD, rs ++ [tq], by rw [upd_same, List.map_append] <;> rfl, ?_⟩
          rw [take_more ha]
          have leD : le ≠ D := (ne_of_none hD nle).symm
          have tqD : tq ≠ D := (ne_of_none (sl _ _ hD) ntq).symm
          have pr2 : Paired (fun (r : Addr) (p : Str) => ∃ e, (upd (upd Hd le (.lst [])) tq (.tup [.str a, .ref le])) r = some (.tup [.str p, .ref e]) ∧ ((upd (upd Hd le (.lst [])) tq (.tup [.str a, .ref le])) e = some (.lst []) ∧ e ≠ D ∧ H8 e = none)) (rs ++ [tq]) ((pls ts).take i ++ [a]) :=
            pair_appW (pair_impW (fun r p ⟨e, g1, g2, g3⟩ => ⟨e, slq _ _ g1, slq _ _ g2, g3⟩) pr) (.cons ⟨le, upd_same, sq _ _ upd_same, leD, (s89.trans z1).free nle⟩ .nil)
          refine pair_impW (fun r p ⟨e, g1, g2, g3, g4⟩ => ⟨e, ?_, ?_, g3, g4⟩) pr2
          · rw [upd_ne (ne_of g1 (slq _ _ hD) (by intro z; cases z))]
            exact g1
          · rw [upd_ne g3]
            exact g2
        intro H10 ⟨z1, rs, hD, pr⟩
        rw [List.length_map, List.take_length] at pr
        obtain ⟨r, g1, g2⟩ := prs_choose pnd pr
        refine ⟨D, rs, _, rfl, SqL.of hD, g1.kvs, fun sh nsh => ?_⟩
        rw [merge_nd (by rw [map_fst]; exact pnd)]
        obtain ⟨H11, e11⟩ : ∃ X, X = upd H10 sh (.dK (tblV (pls ts) fun p => .ref (r p))) := ⟨_, rfl⟩
        have s1011 : Same H10 H11 := e11 ▸ same_new nsh
        have hsh : H11 sh = some (.dK (tblV (pls ts) fun p => .ref (r p))) := by rw [e11]; exact upd_same
        rw [show (kvT ((pls ts).map fun a => (a, V.ref (r a)))) = tblV (pls ts) fun p => .ref (r p) from rfl, ← e11]
        clear e11
        have s811 : Same H8 H11 := (s89.trans z1).trans s1011
        have nsh8 : H8 sh = none := (s89.trans z1).free nsh
        refine ⟨_, rfl, _, rfl, RgOk.of_le (by omega) (by omega) (by omega) (by omega), fun pr npr => ?_⟩
        rw [rgV_usr]
        have sp := same_new (o := .lst ((usr n).map V.int)) npr
        have prsh : pr ≠ sh := (ne_of_none hsh npr).symm
        have npr8 : H8 pr = none := s811.free npr
        refine ⟨_, rfl, sh, _, rfl, DPut.k (k := Sum.inr "") (sp _ _ hsh) (by rw [tblV_len]; omega), ?_⟩
        rw [tblV_put (show ("" : Str) ∈ pls ts from List.mem_cons_self ..), tblV_congr (g' := fun p => V.ref (if p = "" then pr else r p)) fun p _ => by show (if p = "" then V.ref pr else V.ref (r p)) = _; split <;> rfl]
        obtain ⟨H12, e12⟩ : ∃ X, X = upd (upd H11 pr (.lst ((usr n).map V.int))) sh (.dK (tblV (pls ts) fun p => V.ref (if p = "" then pr else r p))) := ⟨_, rfl⟩
        have s812 : Same H8 H12 := by rw [e12]; exact (s811.trans sp).put nsh8
        have hL12 : LsAt H12 sh (pls ts) (fun p => if p = "" then pr else r p) (L0 n) := by
          refine ⟨by rw [e12]; exact upd_same, fun p hp => ?_⟩
          show H12 (if p = "" then pr else r p) = some (.lst ((L0 n p).map V.int))
          unfold L0
          by_cases e : p = ""
          · rw [if_pos e, if_pos e, e12, upd_ne prsh]
            exact upd_same
          · rw [if_neg e, if_neg e, e12]
            have w := s1011 _ _ (g2 p hp).1
            rw [upd_ne (ne_of (sp _ _ w) (sp _ _ hsh) (by intro z; cases z))]
            exact sp _ _ w
        rw [← e12]
        clear e12
        have alZ : ∀ c ∈ [d, l, i, y, z], ∃ u, H8 c = some u := fun c hc => by
          obtain ⟨a1, a2, a3⟩ := dr8.at3
          obtain ⟨_, _, a4, a5⟩ := ra8.apart
          simp only [List.mem_cons, List.not_mem_nil, or_false] at hc
          rcases hc with rfl | rfl | rfl | rfl | rfl
          · exact a1
          · exact a2
          · exact a3
          · exact a4
          · exact a5
        have newA : ∀ {c : Addr}, H8 c = none → c ∉ [d, l, i, y, z] := fun {c} e m => by
          obtain ⟨u, w⟩ := alZ c m
          rw [e] at w
          cases w
        have sn12 : SnapAt [d, l, i, y, z] ts H12 sh (L0 n) := ⟨_, newA nsh8, fun p hp => newA (by
          show H8 (if p = "" then pr else r p) = none
          by_cases e : p = ""
          · rw [if_pos e]
            exact npr8
          · rw [if_neg e]
            exact (g2 p hp).2.2), hL12⟩
        have S12 : S17 T CF CR [] d l i q sh y z x t ts n (b0 + 104) (L0 n) [] H12 := ⟨(dr8.mono s812).more (by omega), tb8.ext s812, s812 _ _ hq8, ra8.mono s812, sn12, v0, fun _ h => by cases h⟩
        refine ⟨_, rfl, _, rfl, _, rfl, _, rfl, y, z, x, q, sh, 0, _, t, ts, _, L0 n, [], n, rfl, S12.ra, S12.hq, o, pts, asc, hL12, v0, n1, n60, rfl, fun H13 s13 => ⟨_, rfl, iteF ?_⟩⟩
        have S13 := S12.same s13
        clear S12 sn12 newA alZ hL12 g1 g2
        -- the steps
        refine ⟨_, rfl, d, l, i, _, 9, rfl, S13.dr, by omega, by decide, by decide, fun c2 HA c20 c21 drA kA => ⟨_, _, rfl, rfl, ?_⟩⟩
        have SA := S13.draw kA drA
        obtain ⟨m2, em2⟩ : ∃ m2 : Int, m2 = 1 + c2 := ⟨_, rfl⟩
        refine ⟨m2, by rw [em2] <;> rfl, by omega, by omega, ?_⟩
        obtain ⟨b1, eb1⟩ : ∃ b1 : Int, b1 = b0 + 104 + 1 := ⟨_, rfl⟩
        refine for_it (walk_range (lo := 0) (n := m2.toNat)) (fun j σ' H' => ∃ (LL : Str → List Int) (ps : List (Str → Int)) (sh' : Addr), (∃ u2 u7 u8 u9 u10 u11 u12 u13, σ' = [some (.ref a), some (.ref d), u2, some (.int (n : Int)), some (.int (ps.length : Int)), none, some (.ref sh'), u7, u8, u9, u10, u11, u12, u13, some (.ref q), some (.ref y)]) ∧
            S17 T CF CR [] d l i q sh' y z x t ts n (b1 + 400 * (j : Int)) LL ps H' ∧ ps.length ≤ j)
          ⟨_, [], sh, ⟨_, _, _, _, _, _, _, _, by rw [← en] <;> rfl⟩, SA.more (by omega), Nat.le_refl _⟩ (fun _ _ _ _ _ => trivial) ?_ ?_
        · intro j xx σ' Hc Hd hj2 ⟨LL, ps, sh', ⟨v2, v7, v8, v9, v10, v11, v12, v13, e⟩, S, lp'⟩ ⟨e1, e2⟩
          subst e
          subst e1
          subst e2
          have j15 : j < 10 := by omega
          obtain ⟨b2, eb2⟩ : ∃ b2 : Int, b2 = b1 + 400 * (j : Int) := ⟨_, rfl⟩
          rw [← eb2] at S
          obtain ⟨As, asl, asub, aprot⟩ := S.prot
          have aliveA : ∀ {H' : Hp} {b' : Int}, KeepX [d, l] Hd H' → DrawB H' d l i b' → ∀ c ∈ As, ∃ u, H' c = some u := fun {H' b'} k dr c hc => by
            obtain ⟨a1, a2, _⟩ := dr.at3
            by_cases m : c ∈ [d, l]
            · simp only [List.mem_cons, List.not_mem_nil, or_false] at m
              rcases m with rfl | rfl
              · exact a1
              · exact a2
            · exact (asl c hc).imp fun u e => k _ _ m e
          have fin : ∀ (sv : V) (o' : Option (List (Key × V))) (H4 : Hp) (b4 xv : Int) (D : Ends) (w2 w8 w9 w10 w11 w13 : Option V), KeepX [d, l] Hd H4 → S17 T CF CR [] d l i q sh' y z x t ts n b4 LL ps H4 → BR As H4 t.length false sv o' →
              (∀ (H' : Hp) (LL' : Str → List Int) (ps' : List (Str → Int)) (sh'' : Addr) (u8' u9' u10' u11' u12' : Option V), S17 T CF CR [] d l i q sh'' y z x t ts n b4 LL' ps' H' → ps'.length ≤ ps.length + 1 →
                D.nx [some (.ref a), some (.ref d), w2, some (.int (n : Int)), some (.int (ps'.length : Int)), none, some (.ref sh''), some (.int xv), u8', u9', u10', u11', u12', w13, some (.ref q), some (.ref y)] H') →
              tFlip17 T CF CR D [some (.ref a), some (.ref d), w2, some (.int (n : Int)), some (.int (ps.length : Int)), none, some (.ref sh'), some (.int xv), w8, w9, w10, w11, some sv, w13, some (.ref q), some (.ref y)] H4 :=
            fun sv o' H4 b4 xv D w2 w8 w9 w10 w11 w13 k4 S4 br kk => ⟨d, l, i, q, sh', y, z, x, sv, t, ts, n, b4, xv, LL, ps, As, o', _, _, _, _, _, _, _, rfl, S4, o, pts, asc, n1, n60, by omega, br, asub y (by simp), asub z (by simp), aliveA k4 S4.dr,
              fun c nc H' s' al => aprot c nc (k4.trans (.of_same s')) (S4.same s') al, kk⟩
          -- the sizes
          refine ⟨_, rfl, _, rfl, _, rfl, d, l, i, q, b2, (n : Int), t, rfl, S.dr, by omega, S.hq, o, ah, by omega, by omega, fun pf s1 H2 fe0 npf hpf dr2 k2 => ?_⟩
          have S2 := S.draw k2 dr2
          refine ⟨_, rfl, d, l, i, _, 4, rfl, S2.dr, by omega, by decide, by decide, fun c H3 c0 c1 dr3 k3 => ⟨rfl, _, rfl, ?_⟩⟩
          have S3 := S2.draw k3 dr3
          have kx3 : KeepX [d, l] Hd H3 := k2.trans k3
          have pfd := S.dr.apart npf
          have hpf3 := kx_at k3 hpf pfd.1 pfd.2.1
          have bs : ∀ a ∈ t.map Prod.fst, 0 ≤ s1 a ∧ s1 a ≤ 60 := fun a ha => ⟨fe0.nn a ha, by have := fea_leW o fe0 a ha; omega⟩
          refine ite2 (fun _ => ?_) (fun _ => ?_)
          · refine ⟨_, rfl, _, rfl, _, rfl, d, l, i, q, pf, _, t, t.map Prod.fst, s1, rfl, S3.dr, by omega, S3.hq, o, hpf3, .refl _, bs, fun sv ob H4 br dr4 k4 => ?_⟩
            have S4 := S3.draw k4 dr4
            exact fin sv ob H4 _ _ _ _ _ _ _ _ _ (kx3.trans k4) S4 (br As (aliveA kx3 S3.dr)) fun H' LL' ps' sh'' _ _ _ _ _ S' l' => ⟨LL', ps', sh'', ⟨_, _, _, _, _, _, _, _, rfl⟩, S'.more (by omega), by omega⟩
          · have nA : pf ∉ As := fun m => by
              obtain ⟨u, e⟩ := asl pf m
              rw [npf] at e
              cases e
            have br3 : BR As H3 t.length false (.ref pf) (some (tblI (t.map Prod.fst) s1)) := .dict nA hpf3 (tblI_nd o.nd) (by rw [tblI_len, List.length_map]; omega) (fun p hp => by
              obtain ⟨a, ha, rfl⟩ := tblI_mem hp
              exact .inl (o.nm a ha)) (fun p hp => by
              obtain ⟨a, ha, rfl⟩ := tblI_mem hp
              have := bs a ha
              exact ⟨_, .int (by omega) (by omega)⟩)
            exact fin _ _ H3 _ _ _ _ _ _ _ _ _ kx3 S3 br3 fun H' LL' ps' sh'' _ _ _ _ _ S' l' => ⟨LL', ps', sh'', ⟨_, _, _, _, _, _, _, _, rfl⟩, S'.more (by omega), by omega⟩
        · intro σ' HF ⟨LL, ps, sh', ⟨v2, v7, v8, v9, v10, v11, v12, v13, e⟩, S, lp'⟩
          subst e
          have mm : (m2.toNat : Int) ≤ 10 := by omega
          obtain ⟨b3, eb3⟩ : ∃ b3 : Int, b3 = b1 + 400 * (m2.toNat : Int) := ⟨_, rfl⟩
          rw [← eb3] at S
          have dr := S.dr
          have tb := S.tb
          have hqF := S.hq
          clear S
          refine ⟨_, rfl, 1, rfl, by show 1 ≤ sizeLine; omega, fun p1 np1 => fun p2 np2 => ⟨_, _, rfl, rfl, ⟨by decide, by decide, by decide⟩, by show 9 ≤ sizeLine; omega, fun pl npl => ?_⟩⟩
          have s1 := same_new (o := .lst [.int 1]) np1
          have s2 : Same (upd HF p1 (.lst [.int 1])) (upd (upd HF p1 (.lst [.int 1])) p2 (.dK [])) := same_new np2
          obtain ⟨xs, exs⟩ : ∃ xs : List V, xs = [.int 0, .int 61, .int (-1), .non, .bl true, .str "5", .ref p1, .ref p2, .int (10 ^ (30 : Int).toNat)] := ⟨_, rfl⟩
          have s3 : Same (upd (upd HF p1 (.lst [.int 1])) p2 (.dK [])) (upd (upd (upd HF p1 (.lst [.int 1])) p2 (.dK [])) pl (.lst xs)) := same_new npl
          obtain ⟨H5, e5⟩ : ∃ X, X = upd (upd (upd HF p1 (.lst [.int 1])) p2 (.dK [])) pl (.lst xs) := ⟨_, rfl⟩
          have s05 : Same HF H5 := e5 ▸ (s1.trans s2).trans s3
          have h15 : H5 p1 = some (.lst [.int 1]) := by rw [e5]; exact s3 _ _ (s2 _ _ upd_same)
          have h25 : H5 p2 = some (.dK []) := by rw [e5]; exact s3 _ _ upd_same
          have hl5 : H5 pl = some (.lst xs) := by rw [e5]; exact upd_same
          have pld := (dr.mono (s1.trans s2)).apart npl
          have p1d := dr.apart np1
          have p2d := (dr.mono s1).apart np2
          have dr5 := dr.mono s05
          subst exs
          rw [← e5]
          clear e5
          refine ⟨d, l, i, pl, _, _, rfl, dr5, by omega, hl5, pld.2.1, List.cons_ne_nil _ _, (by show 9 ≤ 1000; omega), fun xv H6 xm dr6 k6 => ?_⟩
          have h16 := kx_at k6 h15 p1d.1 p1d.2.1
          have h26 := kx_at k6 h25 p2d.1 p2d.2.1
          have tb6 : Tabs T H6 := Tabs.kx k6 (dlS dr5) (tb.ext s05)
          have qd5 := dr5.off_prs (s05 _ _ hqF)
          have hq6 := kx_at k6 (s05 _ _ hqF) qd5.1 qd5.2.1
          have xo : usersOk xv 60 = false ∧ ∃ TT, Dat K H6 xv TT := by
            simp only [List.mem_cons, List.not_mem_nil, or_false] at xm
            rcases xm with rfl | rfl | rfl | rfl | rfl | rfl | rfl | rfl | rfl
            · exact ⟨by decide, _, .int _⟩
            · exact ⟨by decide, _, .int _⟩
            · exact ⟨by decide, _, .int _⟩
            · exact ⟨rfl, _, .non⟩
            · exact ⟨rfl, _, .bl _⟩
            · exact ⟨rfl, _, .str _⟩
            · exact ⟨rfl, _, .lst h16⟩
            · exact ⟨rfl, _, .dct h26⟩
            · exact ⟨by decide +kernel, _, .int _⟩
          obtain ⟨bad, TT, dxv⟩ := xo
          clear xm h16 h26 h15 h25 hl5
          refine ⟨tb6, fun H7 e7 t7 H8 s8 => ?_⟩
          have dr8 := (dr6.ext e7).mono s8
          have tb8' := t7.ext s8
          have hq8' := s8 _ _ (e7 _ _ hq6 (by intro _ z; cases z))
          have dx8 : IsDat K H8 xv := ⟨TT, (IsDat.ext e7 dxv).mono s8⟩
          refine ⟨_, rfl, fun x2 dx2 nx2 ndx2 nxd2 => ?_⟩
          have sM2 : Same H8 (upd (upd H8 dx2 (.own x2)) x2 (.ins CF dx2 [])) := fun b u e => by
            rw [upd_ne (ne_of_none e nx2), upd_ne (ne_of_none e ndx2)]
            exact e
          refine ⟨x2, q, dx2, t, rfl, upd_same, sM2 _ _ hq8', o, fun H9 us pus ascu fx9 oth9 => ⟨rfl, ?_⟩⟩
          have s89' : Same H8 H9 := fun b u e => oth9 b u (ne_of_none e nx2) (sM2 _ _ e)
          refine ⟨_, rfl, fun y2 dy2 ny2 ndy2 nyd2 => ?_⟩
          have sO2 : Same H9 (upd (upd H9 dy2 (.own y2)) y2 (.ins CR dy2 [])) := fun b u e => by
            rw [upd_ne (ne_of_none e ny2), upd_ne (ne_of_none e ndy2)]
            exact e
          refine ⟨y2, x2, dy2, xv, us, rfl, upd_same, fx9.mono sO2, (dx8.mono s89').mono sO2, bad, ?_⟩
          intro H10 s10
          refine ⟨2, .non, by decide, by rw [eU], ⟨rfl, .inl rfl⟩, fun r H11 s11 nr hr11 => ?_⟩
          have s811' := ((s89'.trans sO2).trans s10).trans s11
          refine ⟨by show 2 ≤ sizeLine; omega, fun tp ntp => ?_⟩
          have st := same_new (o := .tup [.str "users", .non]) ntp
          have shp : SeqAt.shaped (.tuple [.str "users", .none]) = true := by decide +kernel
          refine ⟨.tuple [.str "users", .none], .tuple [.str "users", .none], .tup (.inl (.inl (st _ _ hr11))) (.cons (.str _) (.cons .non .nil)), .tup (.inl (.inl upd_same)) (.cons (.str _) (.cons .non .nil)), shp, shp, _, rfl, ?_⟩
          rw [show (!PyData.eqv (.tuple [.str "users", .none]) (.tuple [.str "users", .none])) = false by decide +kernel]
          exact iteF ⟨⟨_, _, _, _, _, _, _, _, _, _, _, _, _, rfl⟩, ((dr8.mono s811').mono st).more (by omega), (tb8'.ext s811').ext st⟩
      · intro σ' HG ⟨⟨u2, u3, u4, u6, u7, u8, u9, u10, u11, u12, u13, u14, u15, e⟩, dr, tb⟩
        subst e
        obtain ⟨t1, et1⟩ : ∃ t1 : List (Str × Str), t1 = [(("a" : Str), ("" : Str))] := ⟨_, rfl⟩
        have o1 : TreeOk t1 := by
          rw [et1]
          refine tree_of (by decide) (by decide) (by decide +kernel) (fun z hz => ?_) (fun i p hp => ?_)
          · rw [List.mem_singleton.mp hz]
            decide +kernel
          · cases i with
            | zero => cases hp; exact .inl rfl
            | succ i => cases hp
        refine fun D nD => ⟨upd_same, [(Sum.inr "a", V.str "")], rfl, by show 1 ≤ 15; decide, fun x dx nx ndx nxd => ?_⟩
        obtain ⟨H1, e1⟩ : ∃ X, X = upd (upd HG D (.dK [])) D (.dK (mergeK [] [(Sum.inr "a", V.str "")])) := ⟨_, rfl⟩
        have hD1 : H1 D = some (.dK (prs t1)) := by
          rw [e1, upd_same, et1] <;> rfl
        rw [← e1] at nx ndx ⊢
        have sM : Same H1 (upd (upd H1 dx (.own x)) x (.ins CF dx [])) := fun b u e => by
          rw [upd_ne (ne_of_none e nx), upd_ne (ne_of_none e ndx)]
          exact e
        refine ⟨x, D, dx, t1, rfl, upd_same, sM _ _ hD1, o1, fun H2 ts pts asc fx oth => ⟨rfl, ?_⟩⟩
        have ets : ts = t1 := by
          rw [et1] at pts ⊢
          exact List.perm_singleton.mp pts
        subst ets
        refine ⟨rfl, rfl, fun y dy ny ndy nyd => ?_⟩
        have sO : Same H2 (upd (upd H2 dy (.own y)) y (.ins CR dy [])) := fun b u e => by
          rw [upd_ne (ne_of_none e ny), upd_ne (ne_of_none e ndy)]
          exact e
        refine ⟨y, x, dy, 2, ts, rfl, upd_same, fx.mono sO, o1, by decide, by decide, fun H3 q' z r' nq' nz nr' oth3 hy hL' hz => ⟨rfl, ?_⟩⟩
        have s23 : Same H2 H3 := fun b u e => oth3 b u (ne_of_none e ny) (sO _ _ e)
        have ra : RollAt CF CR [] H3 y z x ts (L0 2) [] := roll_start (fx.mono s23) hy hL' hz (fun h => by cases h) (fun h => by cases h) (fun h => by cases h) (fun _ _ h => by cases h) (fun h => by cases h) (fun _ _ h => by cases h)
        refine ⟨y, dy, _, rfl, hy, y, z, x, [], ts, L0 2, [], rfl, ra, o1, fun q2 r2 H4 s34 nq2 nr2 hL2 => ?_⟩
        obtain ⟨v1, v2, v3, v4, v5⟩ := ls_repr (K := K) o1 (val_L0 o1 2) (by decide) hL2
        refine ⟨q2, lsE (pls ts) r2 (L0 2), rfl, v1, v2, v3, v4, v5, rfl, ?_⟩
        rw [lsE_D, et1]
        rw [show (V.str (PyData.dict (lsK (pls [(("a" : Str), ("" : Str))]) (L0 2))).shown = V.str "{'': [0, 1], 'a': []}") from by decide +kernel]
        exact k _
end
end FT


/-! places_of -/
namespace FT
open PySem L2 TL ClX
section
variable {P : Program} {w : World} {K : PySem.W.Frag} {mg : Str → Option Value} {base : Heap}
theorem scPlacesOf : FnScope ["forest"] ["forest"] (defScope s_places_of) := ⟨rfl, rfl, rfl, by decide +kernel, rfl, by decide +kernel, by decide +kernel⟩
theorem ok_placesOf {f CF p1 g1 : Addr} {mc : Value} {fd fd1 : FuncData} (F : Fun K "places_of" "places_of" s_places_of f fd) (T : Nm mg) (O : FoC K CF) (Z : Fc K mg CF mc) (L : Pr1 P w K mg base CF "flags" (spFFlags CF) p1 g1 fd1) :
    FnOk P w K mg base CX0 3 f fd ["forest"] (spPlacesOf CF) := by
  obtain ⟨ur, cr⟩ := Z.root
  refine F.ok scPlacesOf (fun vs H Q E h => ?_) (fun cdv A outer s H vs Q E hr h => ?_)
  · obtain ⟨x, ts, rfl, _⟩ := h
    rfl
  · obtain ⟨x, ts, rfl, fa, few, k⟩ := h
    obtain ⟨dx, dq, hx, hd⟩ := id fa
    have big : 1000 ≤ sizeLine := by decide
    refine ⟨_, pss_one (ps_ret (pe_op op_cat (pe_lst (pa_cons (pe_cval (pe_glob (v := .ref CF) (by rfl) Z.gF rfl)) pa_nil)) (pe_prop (pv 0) O.cl L.pr L.fn hr L.bn .nil pass0 (by rfl)))), ?_⟩
    refine ⟨CF, mc, _, ur, rfl, Z.rd, cr, by show 1 ≤ sizeLine; omega, fun p1 n1 => ?_⟩
    have s1 : Same H (upd H p1 (.lst [.str ""])) := same_new n1
    refine ⟨_, rfl, x, dx, _, rfl, s1 _ _ hx, x, ts, rfl, fa.mono s1, fun p2 n2 => ⟨p1, p2, [.str ""], (ts.map Prod.fst).map V.str, rfl, rfl, by rw [upd_ne (ne_of_none upd_same n2), upd_same], upd_same, ?_, fun p3 n3 => ?_⟩⟩
    · rw [List.length_map, List.length_map]
      show 1 + _ ≤ sizeLine
      omega
    · have s3 : Same H (upd (upd (upd H p1 (.lst [.str ""])) p2 (.lst ((ts.map Prod.fst).map V.str))) p3 (.lst ([.str ""] ++ (ts.map Prod.fst).map V.str))) := (s1.trans (same_new n2)).trans (same_new n3)
      exact k p3 _ s3 (Same.free (s1.trans (same_new n2)) n3) upd_same
end
end FT


/-! need_users -/
namespace FT
open PySem L2 TL ClX
section
variable {P : Program} {w : World} {K : PySem.W.Frag} {mg : Str → Option Value} {base : Heap}
theorem scUsers : FnScope ["users", "most"] ["users", "most"] (defScope s_need_users) := ⟨rfl, rfl, rfl, by decide +kernel, rfl, by decide +kernel, by decide +kernel⟩
theorem ok_users {f fI CU IU : Addr} {fd fdI dU : FuncData} (F : Fun K "need_users" "need_users" s_need_users f fd) (T : Nm mg) (I : Dn P w K mg base CX0 1 "is_integer" ["value", "least"] (spIsInt K) fI fdI) (U : Er0 P w K mg base "InvalidUsers" CU IU dU) :
    FnOk P w K mg base (L2.CX P w) 3 f fd ["users", "most"] (spUsers K CU) := by
  refine F.okX scUsers (fun vs H Q E h => ?_) (fun cdv A outer s H vs Q E hr h => ?_)
  · obtain ⟨v, m, rfl, _⟩ := h
    rfl
  · obtain ⟨v, m, rfl, d, k⟩ := h
    refine ⟨_, pss_one (ps_if (PW.pt (pw_or (pt_not (pt_val (pe_call I.ok (hr.mono (by decide)) rfl I.mgn I.kp I.bn .nil pass0 (pa_cons (pv 0) (pa_cons pe_int pa_nil))))) (pw_or1 (pt_cmpR op_gt (pv 0) (pv 1) (nomark _))))) (pss_one (ps_err0 U rfl (takes_of rfl rfl rfl rfl) hr rfl)) pss_nil), ?_⟩
    refine ⟨_, rfl, v, 1, rfl, d, _, rfl, ?_⟩
    cases v with
    | int i =>
      by_cases h1 : 1 ≤ i
      · rw [show isGe (.int i) 1 = true from decide_eq_true h1]
        refine iteF ?_
        refine ⟨_, rfl, _, rfl, i, m, rfl, rfl, _, rfl, ?_⟩
        by_cases h2 : i ≤ m
        · rw [decide_eq_false (show ¬ m < i by omega)]
          rw [if_pos (show usersOk (.int i) m = true by show (decide (1 ≤ i) && decide (i ≤ m)) = true; rw [decide_eq_true h1, decide_eq_true h2] <;> rfl)] at k
          exact iteF (k H Same.refl)
        · rw [decide_eq_true (show m < i by omega)]
          rw [if_neg (show ¬ usersOk (.int i) m = true by show ¬ (decide (1 ≤ i) && decide (i ≤ m)) = true; rw [decide_eq_false h2, Bool.and_false]; decide)] at k
          exact iteT (out0 k Same.refl)
      · rw [show isGe (.int i) 1 = false from decide_eq_false h1]
        rw [if_neg (show ¬ usersOk (.int i) m = true by show ¬ (decide (1 ≤ i) && decide (i ≤ m)) = true; rw [decide_eq_false h1, Bool.false_and]; decide)] at k
        show if true = true then _ else _
        rw [if_pos rfl]
        exact iteT (out0 k Same.refl)
    | _ =>
      show if true = true then _ else _
      rw [if_pos rfl]
      exact iteT (out0 k Same.refl)
end
end FT


namespace FT
open PySem L2 TL ClX LiI
section
variable {P : Program} {w : World} {K : PySem.W.Frag} {mg : Str → Option Value} {base : Heap}
abbrev NCr : List Str := ["forest", "changed", "found", "name", "above"]
theorem scCr : FnScope NCr ["forest", "changed"] (defScope s_crossings) := ⟨rfl, rfl, rfl, by decide +kernel, rfl, by decide +kernel, by decide +kernel⟩
theorem ok_cross {f CF p1 g1 : Addr} {fd fd1 : FuncData} (F : Fun K "crossings" "crossings" s_crossings f fd) (O : FoC K CF) (L1 : Pr1 P w K mg base CF "flags" (spFFlags CF) p1 g1 fd1) : FnOk P w K mg base CX0 3 f fd ["forest", "changed"] (spCross CF) := by
  refine F.ok scCr (fun vs H Q E h => ?_) (fun cdv A outer s H vs Q E hr h => ?_)
  · obtain ⟨x, q, ts, g, rfl, _⟩ := h
    rfl
  · obtain ⟨x, q, ts, g, rfl, fa, o, hq, k⟩ := h
    have hu := hu_of hr
    have nd := scCr.nd
    have big : 1000 ≤ sizeLine := by decide
    have few := o.few
    refine ⟨_, pss_cons (ps_set (i := 2) nd rfl (.inl rfl) (pe_lst pa_nil))
      (pss_cons (ps_for PassesOwn.never rfl (pi_list (pe_prop (pv 0) O.cl L1.pr L1.fn hr L1.bn .nil pass0 (by rfl))) (pg_name (i := 3) nd rfl (.inl rfl))
        (pss_cons (ps_set (i := 4) nd rfl (.inl rfl) (pe_dget hu (pe_fld (pv 0) rfl) (pv 3) (fun _ _ => rfl)))
        (pss_cons (ps_if (pt_cmpR op_gt (pe_dget hu (pv 1) (pv 3) (fun _ _ => rfl)) pe_int (nomark _)) (pss_one (ps_expr (pe_bm PySem.F.plainAttrs_list PySem.F.slot_list_append PySem.F.type_list_append mt_append (pv 2) (pa_cons (pe_tup (pa_cons (pv 4) (pa_cons (pv 3) (pa_cons (pe_dget hu (pv 1) (pv 3) (fun _ _ => rfl)) pa_nil)))) pa_nil)))) pss_nil)
        (pss_one (ps_if (pt_cmpR op_lt (pe_dget hu (pv 1) (pv 3) (fun _ _ => rfl)) pe_int (nomark _)) (pss_one (ps_expr (pe_bm PySem.F.plainAttrs_list PySem.F.slot_list_append PySem.F.type_list_append mt_append (pv 2) (pa_cons (pe_tup (pa_cons (pv 3) (pa_cons (pv 4) (pa_cons (pe_un un_neg (pe_dget hu (pv 1) (pv 3) (fun _ _ => rfl))) pa_nil)))) pa_nil)))) pss_nil)))))
      (pss_one (ps_ret (pv 2)))), ?_⟩
    obtain ⟨dx, dq, hx, hd⟩ := id fa
    refine ⟨by show 0 ≤ sizeLine; omega, fun D nD => ?_⟩
    obtain ⟨H1, e1⟩ : ∃ X, X = upd H D (.lst []) := ⟨_, rfl⟩
    have s1 : Same H H1 := e1 ▸ same_new nD
    have a1 : H1 D = some (.lst []) := by rw [e1]; exact upd_same
    rw [← e1]
    refine ⟨_, rfl, x, dx, _, rfl, s1 _ _ hx, x, ts, rfl, fa.mono s1, fun pf npf => ⟨pf, rfl, ⟨_, SqL.of upd_same⟩, ?_⟩⟩
    obtain ⟨H2, e2⟩ : ∃ X, X = upd H1 pf (.lst ((ts.map Prod.fst).map V.str)) := ⟨_, rfl⟩
    have s12 : Same H1 H2 := e2 ▸ same_new npf
    have a2 : H2 pf = some (.lst ((ts.map Prod.fst).map V.str)) := by rw [e2]; exact upd_same
    have pfD : pf ≠ D := (ne_of_none a1 npf).symm
    rw [← e2]
    refine for_it walk_list (fun j σ' H' => (∃ u3 u4, σ' = [some (.ref x), some (.ref q), some (.ref D), u3, u4]) ∧ Same H H' ∧ H' pf = some (.lst ((ts.map Prod.fst).map V.str)) ∧ ∃ rs : List Addr, H' D = some (.lst (rs.map V.ref)) ∧ EdG H' rs (crs g (ts.take j)))
      ⟨⟨none, none, rfl⟩, s1.trans s12, a2, [], s12 _ _ a1, .nil⟩ (fun j σ' H' _ z => SqL.of z.2.2.1) ?_ ?_
    · intro j y σ' Ha Hb hj ⟨⟨u3, u4, e⟩, sa, apf, rs, hD, ed⟩ ⟨eb, ex⟩
      subst e
      subst eb
      obtain ⟨a, ha, rfl⟩ := map_of ex
      obtain ⟨⟨a', pa⟩, hp, rfl⟩ := Option.map_eq_some_iff.mp (show (ts[j]?).map Prod.fst = some a by rw [← List.getElem?_map]; exact ha)
      have mp := List.mem_of_getElem? hp
      have mk : a' ∈ ts.map Prod.fst := List.mem_map.mpr ⟨_, mp, rfl⟩
      have ep := par_of o.nd mp
      have dg : ∀ {H'}, Same H H' → DGet H' q (.str a') (some (.int (g a'))) := fun s => by
        have z := DGet.k (k := Sum.inr a') (s _ _ hq)
        rw [tblI_val mk] at z
        exact z
      have dp : DGet Hb dq (.str a') (some (.str pa)) := by
        have z := DGet.k (k := Sum.inr a') (sa _ _ hd)
        rw [val_prs, ep] at z
        exact z
      have lrs := ed.len
      have lc := crs_len g (ts.take j)
      rw [List.length_take] at lc
      have more := take_more hp
      have put : ∀ (e3 : Str × Str × Int) (tq : Addr), Hb tq = none → crs g (ts.take (j + 1)) = crs g (ts.take j) ++ [e3] → ∃ (l : Addr) (xs : List V) (y : V), V.ref D = .ref l ∧ [V.ref tq] = [y] ∧ (upd Hb tq (.tup [.str e3.1, .str e3.2.1, .int e3.2.2])) l = some (.lst xs) ∧ xs.length < sizeLine ∧
          (Same H (upd (upd Hb tq (.tup [.str e3.1, .str e3.2.1, .int e3.2.2])) l (.lst (xs ++ [y]))) ∧ (upd (upd Hb tq (.tup [.str e3.1, .str e3.2.1, .int e3.2.2])) l (.lst (xs ++ [y]))) pf = some (.lst ((ts.map Prod.fst).map V.str)) ∧
            ∃ rs : List Addr, (upd (upd Hb tq (.tup [.str e3.1, .str e3.2.1, .int e3.2.2])) l (.lst (xs ++ [y]))) D = some (.lst (rs.map V.ref)) ∧ EdG (upd (upd Hb tq (.tup [.str e3.1, .str e3.2.1, .int e3.2.2])) l (.lst (xs ++ [y]))) rs (crs g (ts.take (j + 1)))) := fun e3 tq nt ec => by
        have st : Same Hb (upd Hb tq (.tup [.str e3.1, .str e3.2.1, .int e3.2.2])) := same_new nt
        refine ⟨D, _, _, rfl, rfl, st _ _ hD, by rw [List.length_map]; omega, (sa.trans st).put nD, by rw [upd_ne pfD]; exact st _ _ apf, rs ++ [tq], by rw [upd_same, List.map_append] <;> rfl, ?_⟩
        rw [ec]
        exact EdG.push (st _ _ hD) (EdG.snoc upd_same (ed.mono st))
      refine ⟨_, rfl, x, CF, dx, _, .ref dq, rfl, sa _ _ hx, O.cl, O.nA, rfl, _, rfl, dq, .str pa, rfl, dp, ?_⟩
      refine ⟨_, rfl, _, rfl, q, .int (g a'), rfl, dg sa, _, _, rfl, rfl, _, rfl, ?_⟩
      have ecs := crs_snoc g (ts.take j) (a', pa)
      rw [← more] at ecs
      by_cases pos : 0 < g a'
      · rw [decide_eq_true pos]
        rw [if_pos pos] at ecs
        refine iteT ⟨_, rfl, .inl ⟨rfl, _, SqL.of hD⟩, _, rfl, _, rfl, _, rfl, _, rfl, q, .int (g a'), rfl, dg sa, by show 3 ≤ sizeLine; omega, fun tq nt => ?_⟩
        obtain ⟨l, xs, y, z1, z2, z3, z4, z5, z6, z7⟩ := put (pa, a', g a') tq nt ecs
        refine ⟨l, xs, y, z1, z2, z3, z4, ?_⟩
        refine ⟨_, rfl, _, rfl, q, .int (g a'), rfl, dg z5, _, _, rfl, rfl, _, rfl, ?_⟩
        rw [decide_eq_false (show ¬ g a' < 0 by omega)]
        exact iteF ⟨⟨_, _, rfl⟩, z5, z6, z7⟩
      · rw [decide_eq_false pos]
        rw [if_neg pos] at ecs
        refine iteF ⟨_, rfl, _, rfl, q, .int (g a'), rfl, dg sa, _, _, rfl, rfl, _, rfl, ?_⟩
        by_cases neg : g a' < 0
        · rw [decide_eq_true neg]
          rw [if_pos neg] at ecs
          refine iteT ⟨_, rfl, .inl ⟨rfl, _, SqL.of hD⟩, _, rfl, _, rfl, _, rfl, _, rfl, q, .int (g a'), rfl, dg sa, _, rfl, by show 3 ≤ sizeLine; omega, fun tq nt => ?_⟩
          obtain ⟨l, xs, y, z1, z2, z3, z4, z5, z6, z7⟩ := put (a', pa, - g a') tq nt ecs
          exact ⟨l, xs, y, z1, z2, z3, z4, ⟨_, _, rfl⟩, z5, z6, z7⟩
        · rw [decide_eq_false neg]
          rw [if_neg neg, List.append_nil] at ecs
          exact iteF ⟨⟨_, _, rfl⟩, sa, apf, rs, hD, by rw [ecs]; exact ed⟩
    · intro σ' H3 ⟨⟨u3, u4, e⟩, sa, apf, rs, hD, ed⟩
      subst e
      rw [List.length_map, List.length_map, List.take_length] at ed
      exact ⟨_, rfl, k D rs H3 sa nD hD ed⟩
end
end FT


/-! what the module's top says of classes, of defs: the form that the row's end asks for. -/
namespace FT
open PySem L2 TL ClX
abbrev exTail : List Value := [.type "ValueError", .type "Exception", .type "BaseException", .type "object"]
/-- an own class at C, its chain behind it -/
def ClsAt (K : PySem.W.Frag) (C : Addr) (bm : List Value) : Prop := ∃ nm q N bs sn sub ab col dd k0 k1 k2 k3 k5, K.lookup C = some (excClassObj nm q C N bs bm true sn sub ab col dd k0 k1 k2 k3 k5 "ValueError.__new__")
section
variable {K : PySem.W.Frag} {C : Addr} {bm : List Value}
theorem ClsAt.cls (h : ClsAt K C bm) : ∃ cd : ClassData, PySem.W.clsIn K C = some cd ∧ cd.mro = .ref C :: bm ∧ cd.hasDict = true := by
  obtain ⟨nm, q, N, bs, sn, sub, ab, col, dd, k0, k1, k2, k3, k5, e⟩ := h
  refine ⟨{ name := nm, bases := bs, mro := .ref C :: bm, ns := N, qualname := q, hasDict := true, slotNames := sn, subclasses := sub, abstract := ab, collection := col }, ?_, rfl, rfl⟩
  unfold PySem.W.clsIn
  rw [e]
theorem ClsAt.ty (h : ClsAt K C bm) : PySem.W.typeIn K (.ref C) = some (.type "type") := by
  obtain ⟨nm, q, N, bs, sn, sub, ab, col, dd, k0, k1, k2, k3, k5, e⟩ := h
  show (K.lookup C).map (·.cls) = _
  rw [e] <;> rfl
theorem ClsAt.mroIs (h : ClsAt K C bm) (b : Value) : PySem.W.mroIn K C b = some ((Value.ref C :: bm).contains b) := by
  obtain ⟨cd, e1, e2, _⟩ := h.cls
  unfold PySem.W.mroIn
  rw [e1]
  show (if cd.mro.isEmpty then none else some (cd.mro.contains b)) = _
  rw [e2] <;> rfl
theorem ClsAt.sub (h : ClsAt K C bm) (b : Value) : PySem.W.subIn K (.ref C) b = some ((Value.ref C :: bm).contains b) := h.mroIs b
theorem ClsAt.hd (h : ClsAt K C bm) : PySem.W.hasDictIn K C = true := by
  obtain ⟨cd, e1, _, e3⟩ := h.cls
  show (PySem.W.clsIn K C).any (·.hasDict) = true
  rw [e1]
  exact e3
theorem ClsAt.isC (h : ClsAt K C bm) : (PySem.W.clsIn K C).isSome = true := by
  obtain ⟨cd, e1, _⟩ := h.cls
  rw [e1] <;> rfl
/-- isinstance of the class at C against the class at D -/
theorem ClsAt.kit {D : Addr} {bn : List Value} (h : ClsAt K C bm) (g : ClsAt K D bn) : PySem.W.kitOne K (.ref C) (.ref D) = some ((Value.ref C :: bm).contains (.ref D)) := by
  unfold PySem.W.kitOne
  by_cases e : (Value.ref C == Value.ref D) = true
  · rw [if_pos e, beq_iff_eq.mp e, List.contains_cons, beq_self_eq_true] <;> rfl
  · rw [if_neg e]
    have e2 : ((PySem.W.clsIn K D).isSome && PySem.W.typeIn K (.ref D) == some (.type "type")) = true := by rw [g.isC, g.ty] <;> rfl
    show (if _ then PySem.W.subIn K (.ref C) (.ref D) else none) = _
    rw [if_pos e2, h.sub]
theorem ClsAt.exm {D : Addr} {bn : List Value} (h : ClsAt K C bm) (g : ClsAt K D bn) (eD : (Value.ref D :: bn).contains (.type "BaseException") = true) : PySem.W.exmOne K (.ref C) (.ref D) = some ((Value.ref C :: bm).contains (.ref D)) :=
  PySem.W.exm_ref (by rw [g.sub, eD]) g.hd g.ty (h.sub _)
end
/-- what the top says of one error class -/
structure ClsF (K : PySem.W.Frag) (nm f : Str) (C I R : Addr) : Prop where
  nsn : PySem.W.nsIn K mainGlobals nm = some (some (.ref C))
  at_ : ClsAt K C (.ref R :: exTail)
  sa : PySem.W.findIn K (.ref C) "__setattr__" = some (some (.builtin "object.__setattr__"))
  ga : PySem.W.findIn K (.ref C) "__getattribute__" = some (some (.builtin "BaseException.__getattribute__"))
  gg : PySem.W.findIn K (.ref C) "__getattr__" = some none
  ha : PySem.W.findIn K (.ref C) "__class__" = some (some (.builtin "object.__class__"))
  kC : PySem.W.keepIn K (.ref C) = true
  no : PySem.W.findIn K (.ref C) f = some none
  ini : PySem.W.findIn K (.ref C) "__init__" = some (some (.ref I))
  ity : PySem.W.typeIn K (.ref I) = some (.type "function")
/-- and of what they share -/
structure RootF (K : PySem.W.Frag) (R : Addr) : Prop where
  nsn : PySem.W.nsIn K mainGlobals "RolloutError" = some (some (.ref R))
  at_ : ClsAt K R exTail
  rd : PySem.W.readsIn K R (.type "type") = true
  ga : PySem.W.specialIn K (.ref R) "__getattribute__" = some (some (.builtin "type.__getattribute__"))
  ini : PySem.W.findCls K (.ref R) (.type "type") "__init__" = some (.val (.builtin "ValueError.__init__"))
  hn : PySem.W.specialIn K (.builtin "object.__class__") "__get__" = some (some (.builtin "getset_descriptor.__get__"))
  ht : PySem.W.takesIn K (.builtin "object.__class__") = some true
theorem ClsF.x {K : PySem.W.Frag} {nm f : Str} {C I R : Addr} (c : ClsF K nm f C I R) (r : RootF K R) : XCls K C where
  cls := by
    obtain ⟨nm, q, N, bs, sn, sub, ab, col, dd, k0, k1, k2, k3, k5, e⟩ := c.at_
    exact ⟨nm, q, N, bs, _, sn, sub, ab, col, dd, k0, k1, k2, k3, k5, e, rfl⟩
  sa := c.sa
  exC := by rw [c.at_.sub] <;> rfl
  tyC := c.at_.ty
  kC := c.kC
  ga := c.ga
  gg := c.gg
  hdC := c.at_.hd
  ha := c.ha
  hn := r.hn
  ht := r.ht
  hm := by rw [c.at_.mroIs] <;> rfl
theorem has_cls {C R D : Addr} {b : Bool} (h : decide (C = D) = b) (n : R ≠ D) : (Value.ref C :: Value.ref R :: exTail).contains (.ref D) = b := by
  subst h
  by_cases e : C = D
  · subst e
    rw [List.contains_cons, beq_self_eq_true, decide_eq_true rfl] <;> rfl
  · have e1 : (Value.ref D == Value.ref C) = false := beq_eq_false_iff_ne.mpr fun z => e (Value.ref.inj z).symm
    have e2 : (Value.ref D == Value.ref R) = false := beq_eq_false_iff_ne.mpr fun z => n (Value.ref.inj z).symm
    rw [decide_eq_false e, List.contains_cons, e1, List.contains_cons, e2] <;> rfl
theorem has_root {C R : Addr} : (Value.ref C :: Value.ref R :: exTail).contains (.ref R) = true := by
  rw [List.contains_cons, List.contains_cons, beq_self_eq_true, Bool.true_or, Bool.or_true]
theorem kit_bt {K : PySem.W.Frag} {C R : Addr} (c : ClsAt K C (.ref R :: exTail)) : PySem.W.kitOne K (.ref C) (.type "ValueError") = some true := by
  unfold PySem.W.kitOne
  rw [if_neg (show ¬ (Value.ref C == Value.type "ValueError") = true from fun z => nomatch (show false = true from z))]
  have e2 : PySem.W.kitMeta "ValueError" = true := by decide +kernel
  show (if PySem.W.kitMeta "ValueError" = true then PySem.W.subIn K (.ref C) (.type "ValueError") else none) = _
  rw [if_pos e2, c.sub] <;> rfl
/-- what the top says of a class with a constant MOST -/
structure ClsK (K : PySem.W.Frag) (nm : Str) (C : Addr) (n : Int) (t : Nat) : Prop where
  nsn : PySem.W.nsIn K mainGlobals nm = some (some (.ref C))
  rd : PySem.W.readsIn K C (.type "type") = true
  ga : PySem.W.specialIn K (.ref C) "__getattribute__" = some (some (.builtin "type.__getattribute__"))
  most : PySem.W.findCls K (.ref C) (.type "type") "MOST" = some (.val (.int n t))
  pg : PySem.W.plainGet K C Str.empty = true
  hd : PySem.W.hasDictIn K C = true
  po : PySem.W.plainOver K C = true
  sa : PySem.W.findIn K (.ref C) "__setattr__" = some (some (.builtin "object.__setattr__"))
  mks : PySem.W.makesIn K C = true
  kp : PySem.W.keepIn K (.ref C) = true
  ha : PySem.W.findIn K (.ref C) "__class__" = some (some (.builtin "object.__class__"))
  hn : PySem.W.specialIn K (.builtin "object.__class__") "__get__" = some (some (.builtin "getset_descriptor.__get__"))
  ht : PySem.W.takesIn K (.builtin "object.__class__") = some true
  hm : PySem.W.mroIn K C (.type "object") = some true
/-- a method -/
structure MetK (K : PySem.W.Frag) (C : Addr) (m : Str) (f : Addr) : Prop where
  at_ : PySem.W.findIn K (.ref C) m = some (some (.ref f))
  fn : PySem.W.isFn K (.ref f) = true
/-- a property -/
structure PrK (K : PySem.W.Frag) (C : Addr) (m : Str) (p g : Addr) (rest : List Value) : Prop where
  at_ : PySem.W.findIn K (.ref C) m = some (some (.ref p))
  get : PySem.W.specialIn K (.ref p) "__get__" = some (some (.builtin "property.__get__"))
  tak : PySem.W.takesIn K (.ref p) = some true
  rec_ : PySem.W.recIn K p "property" = some (.ref g :: rest)
theorem ClsF.er {K : PySem.W.Frag} {h : Heap} {mg : Str → Option Value} {nm f : Str} {C I R : Addr} (X : K.In h) (G : h.Ns mainGlobals mg) (c : ClsF K nm f C I R) (r : RootF K R) : Er K mg nm f C I :=
  ⟨PySem.W.mg_of X G c.nsn, c.x r, c.ini, c.ity, c.no⟩
theorem RootF.rt {K : PySem.W.Frag} {h : Heap} {mg : Str → Option Value} {R : Addr} (X : K.In h) (G : h.Ns mainGlobals mg) (r : RootF K R) : Rt K mg R := ⟨PySem.W.mg_of X G r.nsn, ⟨r.rd, r.ga, r.ini⟩⟩
theorem ClsK.fc {K : PySem.W.Frag} {h : Heap} {mg : Str → Option Value} {CF : Addr} {t t2 : Nat} (X : K.In h) (G : h.Ns mainGlobals mg) (k : ClsK K "Forest" CF 12 t) (root : PySem.W.findCls K (.ref CF) (.type "type") "ROOT" = some (.val (.str "" t2))) : Fc K mg CF (.type "type") :=
  ⟨PySem.W.mg_of X G k.nsn, ⟨k.rd, k.ga⟩, ⟨_, k.most, ⟨_, rfl⟩⟩, ⟨_, root, ⟨_, rfl⟩⟩⟩
theorem ClsK.cls {K : PySem.W.Frag} {nm : Str} {C : Addr} {n : Int} {t : Nat} (k : ClsK K nm C n t) : Cls K C := ⟨k.pg, k.hd, k.po, k.sa⟩
/-- a def with its code object and the table of that -/
structure TabK (K : PySem.W.Frag) (x : Str) (c P : Addr) : Prop where
  at_ : PySem.W.tabIn K x = some (c, P)
  no : K.lookup P = none
end FT


/-! what the top says of a class without a constant, of a static method -/
namespace FT
open PySem L2 TL ClX
structure ClsN (K : PySem.W.Frag) (nm : Str) (C : Addr) : Prop where
  nsn : PySem.W.nsIn K mainGlobals nm = some (some (.ref C))
  rd : PySem.W.readsIn K C (.type "type") = true
  ga : PySem.W.specialIn K (.ref C) "__getattribute__" = some (some (.builtin "type.__getattribute__"))
  pg : PySem.W.plainGet K C Str.empty = true
  hd : PySem.W.hasDictIn K C = true
  po : PySem.W.plainOver K C = true
  sa : PySem.W.findIn K (.ref C) "__setattr__" = some (some (.builtin "object.__setattr__"))
  mks : PySem.W.makesIn K C = true
  kp : PySem.W.keepIn K (.ref C) = true
theorem ClsN.cls {K : PySem.W.Frag} {nm : Str} {C : Addr} (k : ClsN K nm C) : Cls K C := ⟨k.pg, k.hd, k.po, k.sa⟩
/-- a static method -/
structure StK (K : PySem.W.Frag) (C : Addr) (m : Str) (p f : Addr) (rest : List Value) : Prop where
  at_ : PySem.W.findCls K (.ref C) (.type "type") m = some (.get (.builtin "staticmethod.__get__") (.ref p) .none (.ref C))
  rec_ : PySem.W.recIn K p "staticmethod" = some (.ref f :: rest)
theorem StK.sm {K : PySem.W.Frag} {C p f : Addr} {m : Str} {rest : List Value} (s : StK K C m p f rest) : SMet K C (.type "type") m p f := ⟨s.at_, _, s.rec_⟩
end FT


namespace FT
open PySem PySem.Spec PyProof.Rows L2 TL ClX LamX NdefX
section
variable {q : Program} {l : PySem.W.OpenLaw} {w : World} {K : PySem.W.Frag} {h : Heap} {mg : Str → Option Value} {fa : Addr}
theorem all_mk {f_bg f_mx f_dt f_dp f_fo f_isn f_isa f_nd f_fi f_fl f_po f_ii f_nu f_ri f_sz f_fd f_rl f_np f_pi f_un f_lz f_rz f_rd f_rt f_lp f_ai f_ra f_rf f_ap f_af f_fe f_fp f_rs f_nfM f_ao f_cr f_eo f_ea f_cl f_chM f_be f_se f_pl f_ph f_cd f_mv f_ne f_led f_shn f_re f_law p_fl p_rl p_rz p_rd p_rt p_ra p_rf p_ap p_af p_fp C_InvalidSizes C_UnknownName C_InvalidUsers C_InvalidLists C_NeedsMemory C_InvalidLimits C_TooMany I_InvalidSizes I_UnknownName I_InvalidUsers I_InvalidLists I_NeedsMemory I_InvalidLimits I_TooMany R c_law t_law CF CA CR : Addr} {d_bg d_mx d_dt d_dp d_fo d_isn d_isa d_nd d_fi d_fl d_po d_ii d_nu d_ri d_sz d_fd d_rl d_np d_pi d_un d_lz d_rz d_rd d_rt d_lp d_ai d_ra d_rf d_ap d_af d_fe d_fp d_rs d_nfM d_ao d_cr d_eo d_ea d_cl d_chM d_be d_se d_pl d_ph d_cd d_mv d_ne d_led d_shn d_re d_law D_InvalidSizes D_UnknownName D_InvalidUsers D_InvalidLists D_NeedsMemory D_InvalidLimits D_TooMany : FuncData} {tL tT tR tCF tCA : Nat} {r_fl r_rl r_rz r_rd r_rt r_ra r_rf r_ap r_af r_fp : List Value} (X : K.In h) (G : h.Ns mainGlobals mg) (hfa : mg "law" = some (.ref fa)) (TO : TabsOf q K h)
    (kCF : ClsK K "Forest" CF 12 tCF)
    (noCF_above : PySem.W.findIn K (.ref CF) "above" = some none)
    (kCA : ClsK K "Assignment" CA 60 tCA)
    (noCA_own_forest : PySem.W.findIn K (.ref CA) "own_forest" = some none)
    (noCA_own_places : PySem.W.findIn K (.ref CA) "own_places" = some none)
    (kCR : ClsN K "Rollout" CR)
    (noCR_grown_from : PySem.W.findIn K (.ref CR) "grown_from" = some none)
    (noCR_kept_lists : PySem.W.findIn K (.ref CR) "kept_lists" = some none)
    (noCR_past_sizes : PySem.W.findIn K (.ref CR) "past_sizes" = some none)
    (root : PySem.W.findCls K (.ref CF) (.type "type") "ROOT" = some (.val (.str "" tR)))
    (cL : PySem.W.nsIn K mainGlobals "LONGEST" = some (some (.int 8 tL)))
    (cT : PySem.W.nsIn K mainGlobals "LETTERS" = some (some (.str letters tT)))
    (n_bg : PySem.W.nsIn K mainGlobals "_law_begin" = some (some (.ref f_bg)))
    (u_bg : L2.Fun K "_law_begin" "_law_begin" s__law_begin f_bg d_bg)
    (n_mx : PySem.W.nsIn K mainGlobals "_law_mixed" = some (some (.ref f_mx)))
    (u_mx : L2.Fun K "_law_mixed" "_law_mixed" s__law_mixed f_mx d_mx)
    (n_dt : PySem.W.nsIn K mainGlobals "_law_take" = some (some (.ref f_dt)))
    (u_dt : L2.Fun K "_law_take" "_law_take" s__law_take f_dt d_dt)
    (n_dp : PySem.W.nsIn K mainGlobals "_law_pick" = some (some (.ref f_dp)))
    (u_dp : L2.Fun K "_law_pick" "_law_pick" s__law_pick f_dp d_dp)
    (n_fo : PySem.W.nsIn K mainGlobals "_law_forest" = some (some (.ref f_fo)))
    (u_fo : L2.Fun K "_law_forest" "_law_forest" s__law_forest f_fo d_fo)
    (n_isn : PySem.W.nsIn K mainGlobals "is_name" = some (some (.ref f_isn)))
    (u_isn : L2.Fun K "is_name" "is_name" s_is_name f_isn d_isn)
    (n_isa : PySem.W.nsIn K mainGlobals "is_ancestor" = some (some (.ref f_isa)))
    (u_isa : L2.Fun K "is_ancestor" "is_ancestor" s_is_ancestor f_isa d_isa)
    (n_nd : PySem.W.nsIn K mainGlobals "need_parents" = some (some (.ref f_nd)))
    (u_nd : L2.Fun K "need_parents" "need_parents" s_need_parents f_nd d_nd)
    (n_po : PySem.W.nsIn K mainGlobals "places_of" = some (some (.ref f_po)))
    (u_po : L2.Fun K "places_of" "places_of" s_places_of f_po d_po)
    (n_ii : PySem.W.nsIn K mainGlobals "is_integer" = some (some (.ref f_ii)))
    (u_ii : L2.Fun K "is_integer" "is_integer" s_is_integer f_ii d_ii)
    (n_nu : PySem.W.nsIn K mainGlobals "need_users" = some (some (.ref f_nu)))
    (u_nu : L2.Fun K "need_users" "need_users" s_need_users f_nu d_nu)
    (n_sz : PySem.W.nsIn K mainGlobals "_law_sizes" = some (some (.ref f_sz)))
    (u_sz : L2.Fun K "_law_sizes" "_law_sizes" s__law_sizes f_sz d_sz)
    (n_fd : PySem.W.nsIn K mainGlobals "_law_flipped" = some (some (.ref f_fd)))
    (u_fd : L2.Fun K "_law_flipped" "_law_flipped" s__law_flipped f_fd d_fd)
    (n_np : PySem.W.nsIn K mainGlobals "need_place" = some (some (.ref f_np)))
    (u_np : L2.Fun K "need_place" "need_place" s_need_place f_np d_np)
    (n_pi : PySem.W.nsIn K mainGlobals "path_in" = some (some (.ref f_pi)))
    (u_pi : L2.Fun K "path_in" "path_in" s_path_in f_pi d_pi)
    (n_lz : PySem.W.nsIn K mainGlobals "listed_sizes" = some (some (.ref f_lz)))
    (u_lz : L2.Fun K "listed_sizes" "listed_sizes" s_listed_sizes f_lz d_lz)
    (n_lp : PySem.W.nsIn K mainGlobals "listed_places" = some (some (.ref f_lp)))
    (u_lp : L2.Fun K "listed_places" "listed_places" s_listed_places f_lp d_lp)
    (n_rs : PySem.W.nsIn K mainGlobals "residents_of" = some (some (.ref f_rs)))
    (u_rs : L2.Fun K "residents_of" "residents_of" s_residents_of f_rs d_rs)
    (n_nfM : PySem.W.nsIn K mainGlobals "need_feasible" = some (some (.ref f_nfM)))
    (u_nfM : L2.Fun K "need_feasible" "need_feasible" s_need_feasible f_nfM d_nfM)
    (n_ao : PySem.W.nsIn K mainGlobals "amounts_of" = some (some (.ref f_ao)))
    (u_ao : L2.Fun K "amounts_of" "amounts_of" s_amounts_of f_ao d_ao)
    (n_cr : PySem.W.nsIn K mainGlobals "crossings" = some (some (.ref f_cr)))
    (u_cr : L2.Fun K "crossings" "crossings" s_crossings f_cr d_cr)
    (n_eo : PySem.W.nsIn K mainGlobals "edge_order" = some (some (.ref f_eo)))
    (u_eo : L2.Fun K "edge_order" "edge_order" s_edge_order f_eo d_eo)
    (n_ea : PySem.W.nsIn K mainGlobals "edges_at" = some (some (.ref f_ea)))
    (u_ea : L2.Fun K "edges_at" "edges_at" s_edges_at f_ea d_ea)
    (n_cl : PySem.W.nsIn K mainGlobals "changed_lists" = some (some (.ref f_cl)))
    (u_cl : L2.Fun K "changed_lists" "changed_lists" s_changed_lists f_cl d_cl)
    (n_be : PySem.W.nsIn K mainGlobals "_law_bent_sizes" = some (some (.ref f_be)))
    (u_be : L2.Fun K "_law_bent_sizes" "_law_bent_sizes" s__law_bent_sizes f_be d_be)
    (n_se : PySem.W.nsIn K mainGlobals "_law_sizes_error" = some (some (.ref f_se)))
    (u_se : L2.Fun K "_law_sizes_error" "_law_sizes_error" s__law_sizes_error f_se d_se)
    (n_pl : PySem.W.nsIn K mainGlobals "_law_places" = some (some (.ref f_pl)))
    (u_pl : L2.Fun K "_law_places" "_law_places" s__law_places f_pl d_pl)
    (n_ph : PySem.W.nsIn K mainGlobals "_law_path" = some (some (.ref f_ph)))
    (u_ph : L2.Fun K "_law_path" "_law_path" s__law_path f_ph d_ph)
    (n_cd : PySem.W.nsIn K mainGlobals "_law_counted" = some (some (.ref f_cd)))
    (u_cd : L2.Fun K "_law_counted" "_law_counted" s__law_counted f_cd d_cd)
    (n_mv : PySem.W.nsIn K mainGlobals "_law_moving" = some (some (.ref f_mv)))
    (u_mv : L2.Fun K "_law_moving" "_law_moving" s__law_moving f_mv d_mv)
    (n_ne : PySem.W.nsIn K mainGlobals "_law_near" = some (some (.ref f_ne)))
    (u_ne : L2.Fun K "_law_near" "_law_near" s__law_near f_ne d_ne)
    (n_led : PySem.W.nsIn K mainGlobals "_law_led" = some (some (.ref f_led)))
    (u_led : L2.Fun K "_law_led" "_law_led" s__law_led f_led d_led)
    (n_shn : PySem.W.nsIn K mainGlobals "_law_shown" = some (some (.ref f_shn)))
    (u_shn : L2.Fun K "_law_shown" "_law_shown" s__law_shown f_shn d_shn)
    (n_re : PySem.W.nsIn K mainGlobals "_law_result" = some (some (.ref f_re)))
    (u_re : L2.Fun K "_law_result" "_law_result" s__law_result f_re d_re)
    (n_law : PySem.W.nsIn K mainGlobals "law" = some (some (.ref f_law)))
    (u_law : FunC K "law" "law" s_law f_law d_law c_law)
    (t1_law : PySem.W.tabIn K "law" = some (c_law, t_law))
    (t2_law : K.lookup t_law = none)
    (t3_law : ((recsOf q).find? (fun e => e.name == ("law" : Str))).isSome = true)
    (m_fi : MetK K CF "__init__" f_fi)
    (m_ri : MetK K CR "__init__" f_ri)
    (m_un : MetK K CF "under" f_un)
    (m_ai : MetK K CA "__init__" f_ai)
    (m_fe : MetK K CF "__eq__" f_fe)
    (m_chM : MetK K CR "change" f_chM)
    (m_fl : PrK K CF "flags" p_fl f_fl r_fl)
    (m_rl : PrK K CR "lists" p_rl f_rl r_rl)
    (m_rz : PrK K CR "sizes" p_rz f_rz r_rz)
    (m_rd : PrK K CR "depth" p_rd f_rd r_rd)
    (m_rt : PrK K CR "total" p_rt f_rt r_rt)
    (m_ra : PrK K CR "assignment" p_ra f_ra r_ra)
    (m_rf : PrK K CR "forest" p_rf f_rf r_rf)
    (m_ap : PrK K CA "places" p_ap f_ap r_ap)
    (m_af : PrK K CA "forest" p_af f_af r_af)
    (m_fp : PrK K CF "parents" p_fp f_fp r_fp)
    (eF_CF : EqF K CF f_fe)
    (u_fi : L2.Fun K "__init__" "Forest.__init__" s_Forest___init__ f_fi d_fi)
    (u_ri : L2.Fun K "__init__" "Rollout.__init__" s_Rollout___init__ f_ri d_ri)
    (u_un : L2.Fun K "under" "Forest.under" s_Forest_under f_un d_un)
    (u_ai : L2.Fun K "__init__" "Assignment.__init__" s_Assignment___init__ f_ai d_ai)
    (u_fe : L2.Fun K "__eq__" "Forest.__eq__" s_Forest___eq__ f_fe d_fe)
    (u_chM : L2.Fun K "change" "Rollout.change" s_Rollout_change f_chM d_chM)
    (u_fl : L2.Fun K "flags" "Forest.flags" s_Forest_flags f_fl d_fl)
    (u_rl : L2.Fun K "lists" "Rollout.lists" s_Rollout_lists f_rl d_rl)
    (u_rz : L2.Fun K "sizes" "Rollout.sizes" s_Rollout_sizes f_rz d_rz)
    (u_rd : L2.Fun K "depth" "Rollout.depth" s_Rollout_depth f_rd d_rd)
    (u_rt : L2.Fun K "total" "Rollout.total" s_Rollout_total f_rt d_rt)
    (u_ra : L2.Fun K "assignment" "Rollout.assignment" s_Rollout_assignment f_ra d_ra)
    (u_rf : L2.Fun K "forest" "Rollout.forest" s_Rollout_forest f_rf d_rf)
    (u_ap : L2.Fun K "places" "Assignment.places" s_Assignment_places f_ap d_ap)
    (u_af : L2.Fun K "forest" "Assignment.forest" s_Assignment_forest f_af d_af)
    (u_fp : L2.Fun K "parents" "Forest.parents" s_Forest_parents f_fp d_fp)
    (rt0 : RootF K R)
    (e_InvalidSizes : ClsF K "InvalidSizes" "place" C_InvalidSizes I_InvalidSizes R)
    (i_InvalidSizes : L2.Fun K "__init__" "InvalidSizes.__init__" s_InvalidSizes___init__ I_InvalidSizes D_InvalidSizes)
    (e_UnknownName : ClsF K "UnknownName" "name" C_UnknownName I_UnknownName R)
    (i_UnknownName : L2.Fun K "__init__" "UnknownName.__init__" s_UnknownName___init__ I_UnknownName D_UnknownName)
    (e_InvalidUsers : ClsF K "InvalidUsers" "" C_InvalidUsers I_InvalidUsers R)
    (i_InvalidUsers : L2.Fun K "__init__" "InvalidUsers.__init__" s_InvalidUsers___init__ I_InvalidUsers D_InvalidUsers)
    (e_InvalidLists : ClsF K "InvalidLists" "" C_InvalidLists I_InvalidLists R)
    (i_InvalidLists : L2.Fun K "__init__" "InvalidLists.__init__" s_InvalidLists___init__ I_InvalidLists D_InvalidLists)
    (e_NeedsMemory : ClsF K "NeedsMemory" "" C_NeedsMemory I_NeedsMemory R)
    (i_NeedsMemory : L2.Fun K "__init__" "NeedsMemory.__init__" s_NeedsMemory___init__ I_NeedsMemory D_NeedsMemory)
    (e_InvalidLimits : ClsF K "InvalidLimits" "name" C_InvalidLimits I_InvalidLimits R)
    (i_InvalidLimits : L2.Fun K "__init__" "InvalidLimits.__init__" s_InvalidLimits___init__ I_InvalidLimits D_InvalidLimits)
    (e_TooMany : ClsF K "TooMany" "most" C_TooMany I_TooMany R)
    (i_TooMany : L2.Fun K "__init__" "TooMany.__init__" s_TooMany___init__ I_TooMany D_TooMany)
    (apart : ∀ i : Fin 7, R ≠ ([C_InvalidSizes, C_UnknownName, C_InvalidUsers, C_InvalidLists, C_NeedsMemory, C_InvalidLimits, C_TooMany] : List Nat).getD i.1 0)
    (dist : ∀ i j : Fin 7, decide (([C_InvalidSizes, C_UnknownName, C_InvalidUsers, C_InvalidLists, C_NeedsMemory, C_InvalidLimits, C_TooMany] : List Nat).getD i.1 0 = ([C_InvalidSizes, C_UnknownName, C_InvalidUsers, C_InvalidLists, C_NeedsMemory, C_InvalidLimits, C_TooMany] : List Nat).getD j.1 0) = decide (i.1 = j.1))
    (z_abs : PySem.W.nsIn K mainGlobals "abs" = some none)
    (z_len : PySem.W.nsIn K mainGlobals "len" = some none)
    (z_rng : PySem.W.nsIn K mainGlobals "range" = some none)
    (z_enu : PySem.W.nsIn K mainGlobals "enumerate" = some none)
    (z_zip : PySem.W.nsIn K mainGlobals "zip" = some none)
    (z_isi : PySem.W.nsIn K mainGlobals "isinstance" = some none)
    (z_all : PySem.W.nsIn K mainGlobals "all" = some none)
    (z_srt : PySem.W.nsIn K mainGlobals "sorted" = some none)
    (z_lst : PySem.W.nsIn K mainGlobals "list" = some none)
    (z_dct : PySem.W.nsIn K mainGlobals "dict" = some none)
    (z_str : PySem.W.nsIn K mainGlobals "str" = some none)
    (z_int : PySem.W.nsIn K mainGlobals "int" = some none)
    (z_tup : PySem.W.nsIn K mainGlobals "tuple" = some none)
    (z_sum : PySem.W.nsIn K mainGlobals "sum" = some none)
    (z_min : PySem.W.nsIn K mainGlobals "min" = some none)
    (z_max : PySem.W.nsIn K mainGlobals "max" = some none)
    (z_rep : PySem.W.nsIn K mainGlobals "repr" = some none)
    (z_bool : PySem.W.nsIn K mainGlobals "bool" = some none)
    (z_any : PySem.W.nsIn K mainGlobals "any" = some none)
    (z_vE : PySem.W.nsIn K mainGlobals "ValueError" = some none)
    : LawTG l w K 9 63 "_law_script" mg fa h := by
  cases hfa.symm.trans (PySem.W.mg_of X G n_law)
  have N : Nm mg := ⟨PySem.W.mg_none_of X G z_abs, PySem.W.mg_none_of X G z_len, PySem.W.mg_none_of X G z_rng, PySem.W.mg_none_of X G z_enu, PySem.W.mg_none_of X G z_zip, PySem.W.mg_none_of X G z_isi, PySem.W.mg_none_of X G z_all, PySem.W.mg_none_of X G z_srt, PySem.W.mg_none_of X G z_lst, PySem.W.mg_none_of X G z_dct, PySem.W.mg_none_of X G z_str, PySem.W.mg_none_of X G z_int, PySem.W.mg_none_of X G z_tup, PySem.W.mg_none_of X G z_sum, PySem.W.mg_none_of X G z_min, PySem.W.mg_none_of X G z_max, PySem.W.mg_none_of X G z_rep, PySem.W.mg_none_of X G z_bool, PySem.W.mg_none_of X G z_any, PySem.W.mg_none_of X G z_vE⟩
  have Cs_ : Cs mg := ⟨⟨_, PySem.W.mg_of X G cL⟩, ⟨_, PySem.W.mg_of X G cT⟩⟩
  have SF : IsF K CF := ⟨kCF.ha, kCF.hn, kCF.ht, kCF.hm⟩
  have O : FoC K CF := ⟨kCF.cls, noCF_above⟩
  have Z : Fc K mg CF (.type "type") := kCF.fc X G root
  have B : Ac K mg CA (.type "type") := ⟨PySem.W.mg_of X G kCA.nsn, ⟨kCA.rd, kCA.ga⟩, ⟨_, kCA.most, ⟨_, rfl⟩⟩, kCA.cls, noCA_own_forest, noCA_own_places⟩
  have R_ : RoC K mg CR (.type "type") := ⟨PySem.W.mg_of X G kCR.nsn, ⟨kCR.rd, kCR.ga⟩, kCR.cls, noCR_grown_from, noCR_kept_lists, noCR_past_sizes⟩
  have b_bg := u_bg.binds (ps := ["_law_script"]) fun _ _ _ _ _ _ us hl => match us, hl with | [_], _ => rfl
  have b_mx := u_mx.binds (ps := ["_law_draw"]) fun _ _ _ _ _ _ us hl => match us, hl with | [_], _ => rfl
  have b_dt := u_dt.binds (ps := ["_law_draw", "_law_size"]) fun _ _ _ _ _ _ us hl => match us, hl with | [_, _], _ => rfl
  have b_dp := u_dp.binds (ps := ["_law_draw", "_law_some"]) fun _ _ _ _ _ _ us hl => match us, hl with | [_, _], _ => rfl
  have b_fo := u_fo.binds (ps := ["_law_draw", "_law_most"]) fun _ _ _ _ _ _ us hl => match us, hl with | [_, _], _ => rfl
  have b_isn := u_isn.binds (ps := ["value"]) fun _ _ _ _ _ _ us hl => match us, hl with | [_], _ => rfl
  have b_isa := u_isa.binds (ps := ["parents", "name"]) fun _ _ _ _ _ _ us hl => match us, hl with | [_, _], _ => rfl
  have b_nd := u_nd.binds (ps := ["parents"]) fun _ _ _ _ _ _ us hl => match us, hl with | [_], _ => rfl
  have b_fi := u_fi.binds (ps := ["self", "parents"]) fun _ _ _ _ _ _ us hl => match us, hl with | [_, _], _ => rfl
  have b_fl := u_fl.binds (ps := ["self"]) fun _ _ _ _ _ _ us hl => match us, hl with | [_], _ => rfl
  have b_po := u_po.binds (ps := ["forest"]) fun _ _ _ _ _ _ us hl => match us, hl with | [_], _ => rfl
  have b_ii := u_ii.binds (ps := ["value", "least"]) fun _ _ _ _ _ _ us hl => match us, hl with | [_, _], _ => rfl
  have b_nu := u_nu.binds (ps := ["users", "most"]) fun _ _ _ _ _ _ us hl => match us, hl with | [_, _], _ => rfl
  have b_ri := u_ri.binds (ps := ["self", "forest", "users"]) fun _ _ _ _ _ _ us hl => match us, hl with | [_, _, _], _ => rfl
  have b_sz := u_sz.binds (ps := ["_law_draw", "_law_parents", "_law_folk"]) fun _ _ _ _ _ _ us hl => match us, hl with | [_, _, _], _ => rfl
  have b_fd := u_fd.binds (ps := ["_law_some"]) fun _ _ _ _ _ _ us hl => match us, hl with | [_], _ => rfl
  have b_rl := u_rl.binds (ps := ["self"]) fun _ _ _ _ _ _ us hl => match us, hl with | [_], _ => rfl
  have b_np := u_np.binds (ps := ["forest", "place"]) fun _ _ _ _ _ _ us hl => match us, hl with | [_, _], _ => rfl
  have b_pi := u_pi.binds (ps := ["above", "place"]) fun _ _ _ _ _ _ us hl => match us, hl with | [_, _], _ => rfl
  have b_un := u_un.binds (ps := ["self", "place"]) fun _ _ _ _ _ _ us hl => match us, hl with | [_, _], _ => rfl
  have b_lz := u_lz.binds (ps := ["forest", "lists"]) fun _ _ _ _ _ _ us hl => match us, hl with | [_, _], _ => rfl
  have b_rz := u_rz.binds (ps := ["self"]) fun _ _ _ _ _ _ us hl => match us, hl with | [_], _ => rfl
  have b_rd := u_rd.binds (ps := ["self"]) fun _ _ _ _ _ _ us hl => match us, hl with | [_], _ => rfl
  have b_rt := u_rt.binds (ps := ["self"]) fun _ _ _ _ _ _ us hl => match us, hl with | [_], _ => rfl
  have b_lp := u_lp.binds (ps := ["lists"]) fun _ _ _ _ _ _ us hl => match us, hl with | [_], _ => rfl
  have b_ai := u_ai.binds (ps := ["self", "forest", "places"]) fun _ _ _ _ _ _ us hl => match us, hl with | [_, _, _], _ => rfl
  have b_ra := u_ra.binds (ps := ["self"]) fun _ _ _ _ _ _ us hl => match us, hl with | [_], _ => rfl
  have b_rf := u_rf.binds (ps := ["self"]) fun _ _ _ _ _ _ us hl => match us, hl with | [_], _ => rfl
  have b_ap := u_ap.binds (ps := ["self"]) fun _ _ _ _ _ _ us hl => match us, hl with | [_], _ => rfl
  have b_af := u_af.binds (ps := ["self"]) fun _ _ _ _ _ _ us hl => match us, hl with | [_], _ => rfl
  have b_fe := u_fe.binds (ps := ["self", "other"]) fun _ _ _ _ _ _ us hl => match us, hl with | [_, _], _ => rfl
  have b_fp := u_fp.binds (ps := ["self"]) fun _ _ _ _ _ _ us hl => match us, hl with | [_], _ => rfl
  have b_rs := u_rs.binds (ps := ["forest", "users", "sizes"]) fun _ _ _ _ _ _ us hl => match us, hl with | [_, _, _], _ => rfl
  have b_nfM := u_nfM.binds (ps := ["forest", "users", "sizes"]) fun _ _ _ _ _ _ us hl => match us, hl with | [_, _, _], _ => rfl
  have b_ao := u_ao.binds (ps := ["forest", "sizes", "new"]) fun _ _ _ _ _ _ us hl => match us, hl with | [_, _, _], _ => rfl
  have b_cr := u_cr.binds (ps := ["forest", "changed"]) fun _ _ _ _ _ _ us hl => match us, hl with | [_, _], _ => rfl
  have b_eo := u_eo.binds (ps := ["forest", "changed"]) fun _ _ _ _ _ _ us hl => match us, hl with | [_, _], _ => rfl
  have b_ea := u_ea.binds (ps := ["forest", "place"]) fun _ _ _ _ _ _ us hl => match us, hl with | [_, _], _ => rfl
  have b_cl := u_cl.binds (ps := ["forest", "lists", "changed"]) fun _ _ _ _ _ _ us hl => match us, hl with | [_, _, _], _ => rfl
  have b_chM := u_chM.binds (ps := ["self", "new"]) fun _ _ _ _ _ _ us hl => match us, hl with | [_, _], _ => rfl
  have b_be := u_be.binds (ps := ["_law_draw", "_law_parents", "_law_wide"]) fun _ _ _ _ _ _ us hl => match us, hl with | [_, _, _], _ => rfl
  have b_se := u_se.binds (ps := ["_law_parents", "_law_folk", "_law_wide"]) fun _ _ _ _ _ _ us hl => match us, hl with | [_, _, _], _ => rfl
  have b_pl := u_pl.binds (ps := ["_law_shelf"]) fun _ _ _ _ _ _ us hl => match us, hl with | [_], _ => rfl
  have b_ph := u_ph.binds (ps := ["_law_parents", "_law_place"]) fun _ _ _ _ _ _ us hl => match us, hl with | [_, _], _ => rfl
  have b_cd := u_cd.binds (ps := ["_law_parents", "_law_places_here"]) fun _ _ _ _ _ _ us hl => match us, hl with | [_, _], _ => rfl
  have b_mv := u_mv.binds (ps := ["_law_parents", "_law_old", "_law_fresh"]) fun _ _ _ _ _ _ us hl => match us, hl with | [_, _, _], _ => rfl
  have b_ne := u_ne.binds (ps := ["_law_parents", "_law_place"]) fun _ _ _ _ _ _ us hl => match us, hl with | [_, _], _ => rfl
  have b_led := u_led.binds (ps := ["_law_parents", "_law_shelf", "_law_fresh"]) fun _ _ _ _ _ _ us hl => match us, hl with | [_, _, _], _ => rfl
  have b_shn := u_shn.binds (ps := ["_law_rollout", "_law_parents", "_law_shelf", "_law_depth"]) fun _ _ _ _ _ _ us hl => match us, hl with | [_, _, _, _], _ => rfl
  have b_re := u_re.binds (ps := ["_law_work"]) fun _ _ _ _ _ _ us hl => match us, hl with | [_], _ => rfl
  have g_bg := PySem.W.mg_of X G n_bg
  have g_mx := PySem.W.mg_of X G n_mx
  have g_dt := PySem.W.mg_of X G n_dt
  have g_dp := PySem.W.mg_of X G n_dp
  have g_fo := PySem.W.mg_of X G n_fo
  have g_isn := PySem.W.mg_of X G n_isn
  have g_isa := PySem.W.mg_of X G n_isa
  have g_nd := PySem.W.mg_of X G n_nd
  have g_po := PySem.W.mg_of X G n_po
  have g_ii := PySem.W.mg_of X G n_ii
  have g_nu := PySem.W.mg_of X G n_nu
  have g_sz := PySem.W.mg_of X G n_sz
  have g_fd := PySem.W.mg_of X G n_fd
  have g_np := PySem.W.mg_of X G n_np
  have g_pi := PySem.W.mg_of X G n_pi
  have g_lz := PySem.W.mg_of X G n_lz
  have g_lp := PySem.W.mg_of X G n_lp
  have g_rs := PySem.W.mg_of X G n_rs
  have g_nfM := PySem.W.mg_of X G n_nfM
  have g_ao := PySem.W.mg_of X G n_ao
  have g_cr := PySem.W.mg_of X G n_cr
  have g_eo := PySem.W.mg_of X G n_eo
  have g_ea := PySem.W.mg_of X G n_ea
  have g_cl := PySem.W.mg_of X G n_cl
  have g_be := PySem.W.mg_of X G n_be
  have g_se := PySem.W.mg_of X G n_se
  have g_pl := PySem.W.mg_of X G n_pl
  have g_ph := PySem.W.mg_of X G n_ph
  have g_cd := PySem.W.mg_of X G n_cd
  have g_mv := PySem.W.mg_of X G n_mv
  have g_ne := PySem.W.mg_of X G n_ne
  have g_led := PySem.W.mg_of X G n_led
  have g_shn := PySem.W.mg_of X G n_shn
  have g_re := PySem.W.mg_of X G n_re
  have rt := rt0.rt X G
  have at_ : ∀ i, i < 7 → ClsAt K (([C_InvalidSizes, C_UnknownName, C_InvalidUsers, C_InvalidLists, C_NeedsMemory, C_InvalidLimits, C_TooMany] : List Nat).getD i 0) (.ref R :: exTail) := fun i hi => match i, hi with
    | 0, _ => e_InvalidSizes.at_
    | 1, _ => e_UnknownName.at_
    | 2, _ => e_InvalidUsers.at_
    | 3, _ => e_InvalidLists.at_
    | 4, _ => e_NeedsMemory.at_
    | 5, _ => e_InvalidLimits.at_
    | 6, _ => e_TooMany.at_
  have xs_ : ∀ i, i < 7 → XCls K (([C_InvalidSizes, C_UnknownName, C_InvalidUsers, C_InvalidLists, C_NeedsMemory, C_InvalidLimits, C_TooMany] : List Nat).getD i 0) := fun i hi => match i, hi with
    | 0, _ => e_InvalidSizes.x rt0
    | 1, _ => e_UnknownName.x rt0
    | 2, _ => e_InvalidUsers.x rt0
    | 3, _ => e_InvalidLists.x rt0
    | 4, _ => e_NeedsMemory.x rt0
    | 5, _ => e_InvalidLimits.x rt0
    | 6, _ => e_TooMany.x rt0
  have kits : ∀ i j, i < 7 → j < 7 → PySem.W.kitOne K (.ref (([C_InvalidSizes, C_UnknownName, C_InvalidUsers, C_InvalidLists, C_NeedsMemory, C_InvalidLimits, C_TooMany] : List Nat).getD i 0)) (.ref (([C_InvalidSizes, C_UnknownName, C_InvalidUsers, C_InvalidLists, C_NeedsMemory, C_InvalidLimits, C_TooMany] : List Nat).getD j 0)) = some (decide (i = j)) := fun i j hi hj => by rw [(at_ i hi).kit (at_ j hj), has_cls (dist ⟨i, hi⟩ ⟨j, hj⟩) (apart ⟨j, hj⟩)]
  have exs : ∀ i j, i < 7 → j < 7 → PySem.W.exmOne K (.ref (([C_InvalidSizes, C_UnknownName, C_InvalidUsers, C_InvalidLists, C_NeedsMemory, C_InvalidLimits, C_TooMany] : List Nat).getD i 0)) (.ref (([C_InvalidSizes, C_UnknownName, C_InvalidUsers, C_InvalidLists, C_NeedsMemory, C_InvalidLimits, C_TooMany] : List Nat).getD j 0)) = some (decide (i = j)) := fun i j hi hj => by rw [(at_ i hi).exm (at_ j hj) rfl, has_cls (dist ⟨i, hi⟩ ⟨j, hj⟩) (apart ⟨j, hj⟩)]
  obtain ⟨T, eT⟩ : ∃ T : List (Addr × Str), T = [(t_law, lamQ "law")] := ⟨_, rfl⟩
  have m_law : (t_law, lamQ "law") ∈ T := by rw [eT]; simp
  have un_law : ∀ p ∈ T, p.1 = t_law → p.2 = lamQ "law" := fun p hp e => by
    rw [eT] at hp
    simp only [List.mem_cons, List.not_mem_nil, or_false] at hp
    rcases hp with rfl
    · rfl
  refine ⟨d_law, ([(c_law, t_law)] : List (Addr × Addr)), spLaw17 K T, fun p hp => ?_, fun s u => ?_, fun H a ns hl hts hS => ?_, fun base KB GB TBs => ?_⟩
  · simp only [List.mem_cons, List.not_mem_nil, or_false] at hp
    rcases hp with rfl
    · exact ⟨(TO _ _ _ t3_law t1_law).1, (TO _ _ _ t3_law t1_law).2, t2_law⟩
  · obtain ⟨oc, od, kV, doc, pm, an, cdv, ct, osl, rfl, lk, hcd⟩ := u_law.fun.ex
    exact .of_eq rfl
  · refine ⟨a, ns, rfl, hS, hl, ?_, fun _ => rfl⟩
    intro p hp
    rw [eT] at hp
    simp only [List.mem_cons, List.not_mem_nil, or_false] at hp
    rcases hp with rfl
    · exact TabS.nil (hts (c_law, t_law) (by simp))
  have E_InvalidSizes : Er1 l.prog w K mg base "InvalidSizes" "place" C_InvalidSizes I_InvalidSizes D_InvalidSizes := ⟨e_InvalidSizes.er X G rt0, ok_InvalidSizes i_InvalidSizes rt (e_InvalidSizes.er X G rt0), i_InvalidSizes.binds (ps := ["self", "place"]) fun _ _ _ _ _ _ us hl => match us, hl with | [_, _], _ => rfl⟩
  have E_InvalidUsers : Er0 l.prog w K mg base "InvalidUsers" C_InvalidUsers I_InvalidUsers D_InvalidUsers := ⟨e_InvalidUsers.er X G rt0, ok_InvalidUsers i_InvalidUsers rt (e_InvalidUsers.er X G rt0), i_InvalidUsers.binds (ps := ["self"]) fun _ _ _ _ _ _ us hl => match us, hl with | [_], _ => rfl⟩
  have D_bg : Dn l.prog w K mg base CX0 1 "_law_begin" ["_law_script"] (spBeginB K) f_bg d_bg := ⟨ok_beginB u_bg N, u_bg.kp, b_bg, g_bg⟩
  have D_mx : Dn l.prog w K mg base CX0 1 "_law_mixed" ["_law_draw"] (spMixedB) f_mx d_mx := ⟨ok_mixedB u_mx, u_mx.kp, b_mx, g_mx⟩
  have D_dt : Dn l.prog w K mg base CX0 2 "_law_take" ["_law_draw", "_law_size"] (spTakeB) f_dt d_dt := ⟨ok_takeB u_dt D_mx, u_dt.kp, b_dt, g_dt⟩
  have D_dp : Dn l.prog w K mg base CX0 3 "_law_pick" ["_law_draw", "_law_some"] (spPickB) f_dp d_dp := ⟨ok_pickB u_dp N D_dt, u_dp.kp, b_dp, g_dp⟩
  have D_fo : Dn l.prog w K mg base CX0 4 "_law_forest" ["_law_draw", "_law_most"] (spForB) f_fo d_fo := ⟨ok_forestB u_fo N D_dt D_dp, u_fo.kp, b_fo, g_fo⟩
  have D_isn : Dn l.prog w K mg base CX0 1 "is_name" ["value"] (spIsName) f_isn d_isn := ⟨ok_isName u_isn N Cs_, u_isn.kp, b_isn, g_isn⟩
  have D_isa : Dn l.prog w K mg base CX0 1 "is_ancestor" ["parents", "name"] (spIsAnc) f_isa d_isa := ⟨ok_isAnc u_isa, u_isa.kp, b_isa, g_isa⟩
  have D_nd : Dn l.prog w K mg base CX0 2 "need_parents" ["parents"] (spNeed) f_nd d_nd := ⟨ok_need u_nd N Cs_ Z D_isn D_isa, u_nd.kp, b_nd, g_nd⟩
  have F_fi : FnOk l.prog w K mg base CX0 3 f_fi d_fi ["self", "parents"] (spFInit CF) := ok_finit u_fi N O D_nd
  have MK_fi : Mk K CF f_fi := ⟨kCF.mks, m_fi.at_, m_fi.fn, kCF.kp⟩
  have P_fl : Pr1 l.prog w K mg base CF "flags" (spFFlags CF) p_fl f_fl d_fl := ⟨⟨m_fl.at_, m_fl.get, m_fl.tak, ⟨_, m_fl.rec_⟩⟩, ok_fflags u_fl N O, b_fl⟩
  have D_po : Dn l.prog w K mg base CX0 3 "places_of" ["forest"] (spPlacesOf CF) f_po d_po := ⟨ok_placesOf u_po N O Z P_fl, u_po.kp, b_po, g_po⟩
  have D_ii : Dn l.prog w K mg base CX0 1 "is_integer" ["value", "least"] (spIsInt K) f_ii d_ii := ⟨ok_isInt u_ii N, u_ii.kp, b_ii, g_ii⟩
  have D_nu : Dn l.prog w K mg base (L2.CX l.prog w) 3 "need_users" ["users", "most"] (spUsers K C_InvalidUsers) f_nu d_nu := ⟨ok_users u_nu N D_ii E_InvalidUsers, u_nu.kp, b_nu, g_nu⟩
  have F_ri : FnOk l.prog w K mg base CX0 4 f_ri d_ri ["self", "forest", "users"] (spRInit CF CR) := ok_rinit u_ri N Z B R_ D_po D_nu
  have MK_ri : Mk K CR f_ri := ⟨kCR.mks, m_ri.at_, m_ri.fn, kCR.kp⟩
  have D_sz : Dn l.prog w K mg base CX0 4 "_law_sizes" ["_law_draw", "_law_parents", "_law_folk"] (spSizesB) f_sz d_sz := ⟨ok_sizesB u_sz N D_dt D_dp, u_sz.kp, b_sz, g_sz⟩
  have D_fd : Dn l.prog w K mg base CX0 1 "_law_flipped" ["_law_some"] (spFlipO) f_fd d_fd := ⟨ok_flippedO u_fd N, u_fd.kp, b_fd, g_fd⟩
  have P_rl : PrN l.prog w K mg base 1 CR "lists" (spRLists CF CR) p_rl f_rl d_rl := ⟨⟨m_rl.at_, m_rl.get, m_rl.tak, ⟨_, m_rl.rec_⟩⟩, ok_rlists u_rl N R_, b_rl⟩
  have D_np : Dn l.prog w K mg base CX0 1 "need_place" ["forest", "place"] (spNeedPl CF) f_np d_np := ⟨ok_needPl u_np N O Z, u_np.kp, b_np, g_np⟩
  have D_pi : Dn l.prog w K mg base CX0 1 "path_in" ["above", "place"] (spPathIn) f_pi d_pi := ⟨ok_pathIn u_pi N, u_pi.kp, b_pi, g_pi⟩
  have F_un : FnOk l.prog w K mg base CX0 2 f_un d_un ["self", "place"] (spUnder CF) := ok_under u_un N O Z D_np D_pi
  have M_un : Mt l.prog w K mg base CX0 2 CF "under" ["self", "place"] (spUnder CF) f_un d_un := ⟨⟨m_un.at_, m_un.fn, u_un.kp⟩, F_un, b_un⟩
  have D_lz : Dn l.prog w K mg base CX0 3 "listed_sizes" ["forest", "lists"] (spLSizes CF) f_lz d_lz := ⟨ok_listedSizes u_lz N O P_fl M_un, u_lz.kp, b_lz, g_lz⟩
  have P_rz : PrN l.prog w K mg base 4 CR "sizes" (spRSizes CF CR) p_rz f_rz d_rz := ⟨⟨m_rz.at_, m_rz.get, m_rz.tak, ⟨_, m_rz.rec_⟩⟩, ok_rsizes u_rz R_ D_lz, b_rz⟩
  have P_rd : PrN l.prog w K mg base 1 CR "depth" (spRDepth CF CR) p_rd f_rd d_rd := ⟨⟨m_rd.at_, m_rd.get, m_rd.tak, ⟨_, m_rd.rec_⟩⟩, ok_rdepth u_rd N R_, b_rd⟩
  have P_rt : PrN l.prog w K mg base 1 CR "total" (spRTotal CF CR) p_rt f_rt d_rt := ⟨⟨m_rt.at_, m_rt.get, m_rt.tak, ⟨_, m_rt.rec_⟩⟩, ok_rtotal u_rt N R_, b_rt⟩
  have D_lp : Dn l.prog w K mg base CX0 1 "listed_places" ["lists"] (spLPlaces) f_lp d_lp := ⟨ok_listedPlaces u_lp N, u_lp.kp, b_lp, g_lp⟩
  have F_ai : FnOk l.prog w K mg base CX0 1 f_ai d_ai ["self", "forest", "places"] (spAInit CF CA) := ok_ainit u_ai N O Z B
  have MK_ai : Mk K CA f_ai := ⟨kCA.mks, m_ai.at_, m_ai.fn, kCA.kp⟩
  have P_ra : PrN l.prog w K mg base 3 CR "assignment" (spRAsg CF CR CA) p_ra f_ra d_ra := ⟨⟨m_ra.at_, m_ra.get, m_ra.tak, ⟨_, m_ra.rec_⟩⟩, ok_rasg u_ra R_ B D_lp MK_ai F_ai b_ai, b_ra⟩
  have P_rf : PrN l.prog w K mg base 1 CR "forest" (spRForest CF CR) p_rf f_rf d_rf := ⟨⟨m_rf.at_, m_rf.get, m_rf.tak, ⟨_, m_rf.rec_⟩⟩, ok_rforest u_rf R_, b_rf⟩
  have P_ap : PrN l.prog w K mg base 1 CA "places" (spAPlaces CA) p_ap f_ap d_ap := ⟨⟨m_ap.at_, m_ap.get, m_ap.tak, ⟨_, m_ap.rec_⟩⟩, ok_aplaces u_ap N B, b_ap⟩
  have P_af : PrN l.prog w K mg base 1 CA "forest" (spAForest CA) p_af f_af d_af := ⟨⟨m_af.at_, m_af.get, m_af.tak, ⟨_, m_af.rec_⟩⟩, ok_aforest u_af B, b_af⟩
  have F_fe : FnOk l.prog w K mg base CX0 1 f_fe d_fe ["self", "other"] (spEq (RFo CF)) := ok_feq u_fe N O Z SF
  have M_fe : Mt l.prog w K mg base CX0 1 CF "__eq__" ["self", "other"] (spEq (RFo CF)) f_fe d_fe := ⟨⟨m_fe.at_, m_fe.fn, u_fe.kp⟩, F_fe, b_fe⟩
  have P_fp : Pr1 l.prog w K mg base CF "parents" (spFParents CF) p_fp f_fp d_fp := ⟨⟨m_fp.at_, m_fp.get, m_fp.tak, ⟨_, m_fp.rec_⟩⟩, ok_fparents u_fp N O, b_fp⟩
  have D_rs : Dn l.prog w K mg base CX0 4 "residents_of" ["forest", "users", "sizes"] (spResid CF) f_rs d_rs := ⟨ok_resid u_rs N O Z D_po P_fl P_fp, u_rs.kp, b_rs, g_rs⟩
  have D_nfM : Dn l.prog w K mg base (L2.CX l.prog w) 5 "need_feasible" ["forest", "users", "sizes"] (spFeasM K CF C_InvalidSizes) f_nfM d_nfM := ⟨ok_feasM u_nfM N O E_InvalidSizes D_rs D_ii P_fl, u_nfM.kp, b_nfM, g_nfM⟩
  have D_ao : Dn l.prog w K mg base CX0 3 "amounts_of" ["forest", "sizes", "new"] (spAmtOf CF) f_ao d_ao := ⟨ok_amtOf u_ao O P_fl, u_ao.kp, b_ao, g_ao⟩
  have D_cr : Dn l.prog w K mg base CX0 3 "crossings" ["forest", "changed"] (spCross CF) f_cr d_cr := ⟨ok_cross u_cr O P_fl, u_cr.kp, b_cr, g_cr⟩
  have D_eo : Dn l.prog w K mg base CX0 4 "edge_order" ["forest", "changed"] (spEdgeOrder CF) f_eo d_eo := ⟨ok_edgeOrder u_eo D_cr D_po, u_eo.kp, b_eo, g_eo⟩
  have D_ea : Dn l.prog w K mg base CX0 3 "edges_at" ["forest", "place"] (spEdgesAt CF) f_ea d_ea := ⟨ok_edgesAt u_ea O Z P_fl, u_ea.kp, b_ea, g_ea⟩
  have D_cl : Dn l.prog w K mg base CX0 5 "changed_lists" ["forest", "lists", "changed"] (spChanged CF) f_cl d_cl := ⟨ok_changed u_cl N D_cr D_eo D_ea D_po, u_cl.kp, b_cl, g_cl⟩
  have F_chM : FnOk l.prog w K mg base (L2.CX l.prog w) 6 f_chM d_chM ["self", "new"] (spChangeM K CF CR C_InvalidSizes) := ok_changeM u_chM N R_ D_nfM D_lz D_ao D_cl P_rt
  have M_chM : Mt l.prog w K mg base (L2.CX l.prog w) 6 CR "change" ["self", "new"] (spChangeM K CF CR C_InvalidSizes) f_chM d_chM := ⟨⟨m_chM.at_, m_chM.fn, u_chM.kp⟩, F_chM, b_chM⟩
  have D_be : Dn l.prog w K mg base CX0 4 "_law_bent_sizes" ["_law_draw", "_law_parents", "_law_wide"] (spBentR) f_be d_be := ⟨ok_bentR u_be N D_dt D_dp, u_be.kp, b_be, g_be⟩
  have G_se : FnG l.prog w K mg base CX0 1 f_se d_se ["_law_parents", "_law_folk", "_law_wide"] (spSzErr K) := ok_szErr u_se N
  have D_pl : Dn l.prog w K mg base CX0 1 "_law_places" ["_law_shelf"] (spLPlaces) f_pl d_pl := ⟨ok_placesL u_pl N, u_pl.kp, b_pl, g_pl⟩
  have D_ph : Dn l.prog w K mg base CX0 1 "_law_path" ["_law_parents", "_law_place"] (spPathL) f_ph d_ph := ⟨ok_pathL u_ph, u_ph.kp, b_ph, g_ph⟩
  have D_cd : Dn l.prog w K mg base CX0 2 "_law_counted" ["_law_parents", "_law_places_here"] (spCounted) f_cd d_cd := ⟨ok_counted u_cd N D_ph, u_cd.kp, b_cd, g_cd⟩
  have D_mv : Dn l.prog w K mg base CX0 1 "_law_moving" ["_law_parents", "_law_old", "_law_fresh"] (spMoving) f_mv d_mv := ⟨ok_moving u_mv N, u_mv.kp, b_mv, g_mv⟩
  have D_ne : Dn l.prog w K mg base CX0 1 "_law_near" ["_law_parents", "_law_place"] (spNear) f_ne d_ne := ⟨ok_near u_ne N, u_ne.kp, b_ne, g_ne⟩
  have D_led : Dn l.prog w K mg base CX0 3 "_law_led" ["_law_parents", "_law_shelf", "_law_fresh"] (spLed) f_led d_led := ⟨ok_led u_led N D_pl D_cd D_mv D_ne, u_led.kp, b_led, g_led⟩
  have WS : WShL l.prog w K mg base CF CR CA (.type "type") (.type "type") (.type "type") (fun i => ([f_rl, f_rd, f_rt, f_rz, f_ra, f_rf, f_ap, f_af, f_fe, f_fi, f_pl, f_cd] : List Nat).getD i 0) (fun i => ([p_rl, p_rd, p_rt, p_rz, p_ra, p_rf, p_ap, p_af] : List Nat).getD i 0) (fun i => ([d_rl, d_rd, d_rt, d_rz, d_ra, d_rf, d_ap, d_af, d_fe, d_fi, d_pl, d_cd] : List FuncData).getD i d_rl) := { Z := Z, R := R_, B := B, pL := P_rl, pD := P_rd, pT := P_rt, pS := P_rz, pA := P_ra, pF := P_rf, aP := P_ap, aF := P_af, fe := F_fe, feb := b_fe, fea := m_fe.at_, fei := m_fe.fn, fi := F_fi, fim := MK_fi, fib := b_fi, pl := D_pl, cd := D_cd }
  have G_shn : FnG l.prog w K mg base CX0 6 f_shn d_shn ["_law_rollout", "_law_parents", "_law_shelf", "_law_depth"] (spShown CF CR) := ok_shownL u_shn N WS
  have GE : Ge K mg "_law_result" s__law_result f_re d_re := ⟨u_re, b_re, g_re⟩
  have CC_ : Cl7 K mg R (fun i => ([C_InvalidSizes, C_UnknownName, C_InvalidUsers, C_InvalidLists, C_NeedsMemory, C_InvalidLimits, C_TooMany] : List Nat).getD i 0) := ⟨rt.g, fun i hi => match i, hi with
    | 0, _ => PySem.W.mg_of X G e_InvalidSizes.nsn
    | 1, _ => PySem.W.mg_of X G e_UnknownName.nsn
    | 2, _ => PySem.W.mg_of X G e_InvalidUsers.nsn
    | 3, _ => PySem.W.mg_of X G e_InvalidLists.nsn
    | 4, _ => PySem.W.mg_of X G e_NeedsMemory.nsn
    | 5, _ => PySem.W.mg_of X G e_InvalidLimits.nsn
    | 6, _ => PySem.W.mg_of X G e_TooMany.nsn, xs_, kits, fun i hi => kit_bt (at_ i hi), fun i hi => by rw [(at_ i hi).exm rt0.at_ rfl, has_root], fun i f hi hf => match i, hi with
    | 0, _ => by cases hf; exact e_InvalidSizes.no
    | 1, _ => by cases hf; exact e_UnknownName.no
    | 2, _ => by cases hf
    | 3, _ => by cases hf
    | 4, _ => by cases hf
    | 5, _ => by cases hf; exact e_InvalidLimits.no
    | 6, _ => by cases hf; exact e_TooMany.no⟩
  have W : W17 l.prog w K mg base CF CR C_InvalidSizes C_InvalidUsers (.type "type") (.type "type") (fun i => ([f_bg, f_dt, f_dp, f_fo, f_fi, f_ri, f_sz, f_fd, f_rl, f_chM, f_be, f_se, f_shn, f_pl, f_cd, f_mv, f_led] : List Nat).getD i 0) (fun i => ([p_rl] : List Nat).getD i 0) (fun i => ([d_bg, d_dt, d_dp, d_fo, d_fi, d_ri, d_sz, d_fd, d_rl, d_chM, d_be, d_se, d_shn, d_pl, d_cd, d_mv, d_led] : List FuncData).getD i d_bg) := { Z := Z, R := R_, bg := D_bg, dt := D_dt, dp := D_dp, fo := D_fo, fi := F_fi, fim := MK_fi, fib := b_fi, ri := F_ri, rim := MK_ri, rib := b_ri, rx := ok_rinitX u_ri N Z B R_ D_po D_nu, rik := kwM2 u_ri (fun _ _ _ _ _ _ _ _ _ => rfl), sz := D_sz, fl := D_fd, pL := P_rl, ch := M_chM, be := D_be, se := G_se, sem := g_se, sek := u_se.kp, seb := b_se, sh := G_shn, shm := g_shn, shk := u_shn.kp, shb := b_shn, pl := D_pl, cd := D_cd, mv := D_mv, le := D_led }
  exact ok_law17 u_law N W GE CC_ rfl rfl (TBs (c_law, t_law) (by simp)) m_law un_law
end
theorem walk {l : PySem.W.OpenLaw} {q : Program} {loose : List Str} {XP : (Str → Option Value) → Heap → Prop} {YP : World → Heap → Prop} {d : DefRec} {K : Params → PySem.W.Frag} (hn : l.most = some 63) (hdf : d.params.defaults = [])
    (hY : ∀ (w : World) (h : Heap), YP w h → (K w.params).In h)
    (F : ∀ (w : World) (mg : Str → Option Value) (fa : Addr) (h : Heap), (K w.params).In h → h.Ns mainGlobals mg → mg d.name = some (.ref fa) → TabsOf q (K w.params) h → XP mg h → LawTG l w (K w.params) 9 63 "_law_script" mg fa h) :
    PySem.W.WalkO q loose XP YP l.row.toRowW d [] (fun f vs => PySem.call f vs) :=
  walk_tabG (n := 63) (k := 9) (x := "_law_script") hn (by decide) hdf ⟨rfl, by decide, by decide⟩ hY F
end FT


open PySem PySem.W PyProof.Rows
namespace FT
abbrev R17 : PySem.W.OpenRow := PySem.W.OpenLaw.row PySem.Challenge.rw_flagtrees_k17_changes_of_lists
def lo17_0 : List PySem.Str := [("_wall" : PySem.Str), ("__name__" : PySem.Str), ("RolloutError" : PySem.Str), ("InvalidForest" : PySem.Str), ("UnknownName" : PySem.Str), ("InvalidUsers" : PySem.Str), ("InvalidSizes" : PySem.Str), ("InvalidPlace" : PySem.Str), ("UnknownUser" : PySem.Str), ("InvalidLists" : PySem.Str), ("NeedsMemory" : PySem.Str), ("InvalidLimits" : PySem.Str), ("TooMany" : PySem.Str), ("LONGEST" : PySem.Str), ("LETTERS" : PySem.Str), ("is_name" : PySem.Str), ("is_ancestor" : PySem.Str), ("need_parents" : PySem.Str), ("Forest" : PySem.Str), ("path_in" : PySem.Str), ("places_of" : PySem.Str), ("need_place" : PySem.Str), ("need_flag" : PySem.Str), ("is_integer" : PySem.Str), ("need_users" : PySem.Str), ("need_feasible" : PySem.Str), ("residents_of" : PySem.Str), ("sizes_of" : PySem.Str), ("Assignment" : PySem.Str), ("need_user" : PySem.Str)]
def lo17_1 : List PySem.Str := [("amounts_of" : PySem.Str), ("crossings" : PySem.Str), ("edge_order" : PySem.Str), ("edges_at" : PySem.Str), ("changed_lists" : PySem.Str), ("listed_sizes" : PySem.Str), ("listed_places" : PySem.Str), ("Rollout" : PySem.Str), ("_law_begin" : PySem.Str), ("_law_mixed" : PySem.Str), ("_law_take" : PySem.Str), ("_law_pick" : PySem.Str), ("_law_forest" : PySem.Str), ("_law_sizes" : PySem.Str), ("_law_fits" : PySem.Str), ("_law_path" : PySem.Str), ("_law_counted" : PySem.Str), ("_law_near" : PySem.Str), ("_law_moving" : PySem.Str), ("_law_led" : PySem.Str), ("_law_places" : PySem.Str), ("_law_result" : PySem.Str), ("_law_sizes_error" : PySem.Str), ("_law_bent_sizes" : PySem.Str), ("_law_shown" : PySem.Str), ("_law_flipped" : PySem.Str)]
def lo17 : List PySem.Str := lo17_0 ++ lo17_1
abbrev qv17 : Program := PySem.W.view R17.prog [62]
def lv17 : List (PySem.Str × PySem.W.WData) := []
end FT
local macro_rules
  | `(tactic| o_head ($f:ident $k:term $a:term $e:term $t:term)) => do
    let hw := Lean.mkIdent `hw
    let hc := Lean.mkIdent `hc
    `(tactic| refine FT.head_km (r := FT.R17) (q := FT.qv17) (K := $k) (as := $a) (ts := $t) (pe := $e) (M := 16000) (loose := FT.lo17) (lv := FT.lv17) (kwd := []) (by kernel_rfl) (fun s => by kernel_rfl) (fun w os => by kernel_rfl) (by rfl) (by rfl) (by rfl) (by rfl) (by first | assumption | decide +kernel) (by decide +kernel) ⟨rfl, rfl, rfl, rfl, rfl, by decide +kernel⟩ ?$hw ?$hc)
set_option maxRecDepth 100000 in
set_option maxHeartbeats 0 in
theorem PySem.Challenge.cw_flagtrees_k17_changes_of_lists_holds : PySem.Challenge.rw_flagtrees_k17_changes_of_lists.Holds := by
  w_on; o_law; k_head; (case hw => w_witness2)
  k_fill
  refine FT.walk (l := PySem.Challenge.rw_flagtrees_k17_changes_of_lists) rfl rfl (fun w h Y => PySem.W.km_in_of Y) ?F
  case F =>
    intro w mg fa h KX G hm TO XX
    have hmg : mg "law" = some (.ref fa) := hm
    clear hm
    refine' FT.all_mk KX G hmg TO ?kCF ?noCF_above ?kCA ?noCA_own_forest ?noCA_own_places ?kCR ?noCR_grown_from ?noCR_kept_lists ?noCR_past_sizes ?root ?cL ?cT ?n_bg ?u_bg ?n_mx ?u_mx ?n_dt ?u_dt ?n_dp ?u_dp ?n_fo ?u_fo ?n_isn ?u_isn ?n_isa ?u_isa ?n_nd ?u_nd ?n_po ?u_po ?n_ii ?u_ii ?n_nu ?u_nu ?n_sz ?u_sz ?n_fd ?u_fd ?n_np ?u_np ?n_pi ?u_pi ?n_lz ?u_lz ?n_lp ?u_lp ?n_rs ?u_rs ?n_nfM ?u_nfM ?n_ao ?u_ao ?n_cr ?u_cr ?n_eo ?u_eo ?n_ea ?u_ea ?n_cl ?u_cl ?n_be ?u_be ?n_se ?u_se ?n_pl ?u_pl ?n_ph ?u_ph ?n_cd ?u_cd ?n_mv ?u_mv ?n_ne ?u_ne ?n_led ?u_led ?n_shn ?u_shn ?n_re ?u_re ?n_law ?u_law ?t1_law ?t2_law ?t3_law ?m_fi ?m_ri ?m_un ?m_ai ?m_fe ?m_chM ?m_fl ?m_rl ?m_rz ?m_rd ?m_rt ?m_ra ?m_rf ?m_ap ?m_af ?m_fp ?eF_CF ?u_fi ?u_ri ?u_un ?u_ai ?u_fe ?u_chM ?u_fl ?u_rl ?u_rz ?u_rd ?u_rt ?u_ra ?u_rf ?u_ap ?u_af ?u_fp ?rt0 ?e_InvalidSizes ?i_InvalidSizes ?e_UnknownName ?i_UnknownName ?e_InvalidUsers ?i_InvalidUsers ?e_InvalidLists ?i_InvalidLists ?e_NeedsMemory ?i_NeedsMemory ?e_InvalidLimits ?i_InvalidLimits ?e_TooMany ?i_TooMany ?apart ?dist ?z_abs ?z_len ?z_rng ?z_enu ?z_zip ?z_isi ?z_all ?z_srt ?z_lst ?z_dct ?z_str ?z_int ?z_tup ?z_sum ?z_min ?z_max ?z_rep ?z_bool ?z_any ?z_vE
    (case kCF => (refine' ⟨?nsn, ?rd, ?ga, ?most, ?pg, ?hd, ?po, ?sa, ?mks, ?kp, ?ha, ?hn, ?ht, ?hm⟩; (case nsn => k_is); (case rd => k_is); (case ga => k_is); (case most => k_is); (case pg => k_is); (case hd => k_is); (case po => k_is); (case sa => k_is); (case mks => k_is); (case kp => k_is); (case ha => k_is); (case hn => k_is); (case ht => k_is); (case hm => k_is)))
    (case noCF_above => k_is)
    (case kCA => (refine' ⟨?nsn, ?rd, ?ga, ?most, ?pg, ?hd, ?po, ?sa, ?mks, ?kp, ?ha, ?hn, ?ht, ?hm⟩; (case nsn => k_is); (case rd => k_is); (case ga => k_is); (case most => k_is); (case pg => k_is); (case hd => k_is); (case po => k_is); (case sa => k_is); (case mks => k_is); (case kp => k_is); (case ha => k_is); (case hn => k_is); (case ht => k_is); (case hm => k_is)))
    (case noCA_own_forest => k_is)
    (case noCA_own_places => k_is)
    (case kCR => (refine' ⟨?nsn, ?rd, ?ga, ?pg, ?hd, ?po, ?sa, ?mks, ?kp⟩; (case nsn => k_is); (case rd => k_is); (case ga => k_is); (case pg => k_is); (case hd => k_is); (case po => k_is); (case sa => k_is); (case mks => k_is); (case kp => k_is)))
    (case noCR_grown_from => k_is)
    (case noCR_kept_lists => k_is)
    (case noCR_past_sizes => k_is)
    (case root => k_is)
    (case cL => k_is)
    (case cT => k_is)
    (case n_bg => k_is)
    (case u_bg => (refine' L2.fun_mk ?l ?c ?k; (case l => k_is); (case c => k_is); (case k => k_is)))
    (case n_mx => k_is)
    (case u_mx => (refine' L2.fun_mk ?l ?c ?k; (case l => k_is); (case c => k_is); (case k => k_is)))
    (case n_dt => k_is)
    (case u_dt => (refine' L2.fun_mk ?l ?c ?k; (case l => k_is); (case c => k_is); (case k => k_is)))
    (case n_dp => k_is)
    (case u_dp => (refine' L2.fun_mk ?l ?c ?k; (case l => k_is); (case c => k_is); (case k => k_is)))
    (case n_fo => k_is)
    (case u_fo => (refine' L2.fun_mk ?l ?c ?k; (case l => k_is); (case c => k_is); (case k => k_is)))
    (case n_isn => k_is)
    (case u_isn => (refine' L2.fun_mk ?l ?c ?k; (case l => k_is); (case c => k_is); (case k => k_is)))
    (case n_isa => k_is)
    (case u_isa => (refine' L2.fun_mk ?l ?c ?k; (case l => k_is); (case c => k_is); (case k => k_is)))
    (case n_nd => k_is)
    (case u_nd => (refine' L2.fun_mk ?l ?c ?k; (case l => k_is); (case c => k_is); (case k => k_is)))
    (case n_po => k_is)
    (case u_po => (refine' L2.fun_mk ?l ?c ?k; (case l => k_is); (case c => k_is); (case k => k_is)))
    (case n_ii => k_is)
    (case u_ii => (refine' L2.fun_mk ?l ?c ?k; (case l => k_is); (case c => k_is); (case k => k_is)))
    (case n_nu => k_is)
    (case u_nu => (refine' L2.fun_mk ?l ?c ?k; (case l => k_is); (case c => k_is); (case k => k_is)))
    (case n_sz => k_is)
    (case u_sz => (refine' L2.fun_mk ?l ?c ?k; (case l => k_is); (case c => k_is); (case k => k_is)))
    (case n_fd => k_is)
    (case u_fd => (refine' L2.fun_mk ?l ?c ?k; (case l => k_is); (case c => k_is); (case k => k_is)))
    (case n_np => k_is)
    (case u_np => (refine' L2.fun_mk ?l ?c ?k; (case l => k_is); (case c => k_is); (case k => k_is)))
    (case n_pi => k_is)
    (case u_pi => (refine' L2.fun_mk ?l ?c ?k; (case l => k_is); (case c => k_is); (case k => k_is)))
    (case n_lz => k_is)
    (case u_lz => (refine' L2.fun_mk ?l ?c ?k; (case l => k_is); (case c => k_is); (case k => k_is)))
    (case n_lp => k_is)
    (case u_lp => (refine' L2.fun_mk ?l ?c ?k; (case l => k_is); (case c => k_is); (case k => k_is)))
    (case n_rs => k_is)
    (case u_rs => (refine' L2.fun_mk ?l ?c ?k; (case l => k_is); (case c => k_is); (case k => k_is)))
    (case n_nfM => k_is)
    (case u_nfM => (refine' L2.fun_mk ?l ?c ?k; (case l => k_is); (case c => k_is); (case k => k_is)))
    (case n_ao => k_is)
    (case u_ao => (refine' L2.fun_mk ?l ?c ?k; (case l => k_is); (case c => k_is); (case k => k_is)))
    (case n_cr => k_is)
    (case u_cr => (refine' L2.fun_mk ?l ?c ?k; (case l => k_is); (case c => k_is); (case k => k_is)))
    (case n_eo => k_is)
    (case u_eo => (refine' L2.fun_mk ?l ?c ?k; (case l => k_is); (case c => k_is); (case k => k_is)))
    (case n_ea => k_is)
    (case u_ea => (refine' L2.fun_mk ?l ?c ?k; (case l => k_is); (case c => k_is); (case k => k_is)))
    (case n_cl => k_is)
    (case u_cl => (refine' L2.fun_mk ?l ?c ?k; (case l => k_is); (case c => k_is); (case k => k_is)))
    (case n_be => k_is)
    (case u_be => (refine' L2.fun_mk ?l ?c ?k; (case l => k_is); (case c => k_is); (case k => k_is)))
    (case n_se => k_is)
    (case u_se => (refine' L2.fun_mk ?l ?c ?k; (case l => k_is); (case c => k_is); (case k => k_is)))
    (case n_pl => k_is)
    (case u_pl => (refine' L2.fun_mk ?l ?c ?k; (case l => k_is); (case c => k_is); (case k => k_is)))
    (case n_ph => k_is)
    (case u_ph => (refine' L2.fun_mk ?l ?c ?k; (case l => k_is); (case c => k_is); (case k => k_is)))
    (case n_cd => k_is)
    (case u_cd => (refine' L2.fun_mk ?l ?c ?k; (case l => k_is); (case c => k_is); (case k => k_is)))
    (case n_mv => k_is)
    (case u_mv => (refine' L2.fun_mk ?l ?c ?k; (case l => k_is); (case c => k_is); (case k => k_is)))
    (case n_ne => k_is)
    (case u_ne => (refine' L2.fun_mk ?l ?c ?k; (case l => k_is); (case c => k_is); (case k => k_is)))
    (case n_led => k_is)
    (case u_led => (refine' L2.fun_mk ?l ?c ?k; (case l => k_is); (case c => k_is); (case k => k_is)))
    (case n_shn => k_is)
    (case u_shn => (refine' L2.fun_mk ?l ?c ?k; (case l => k_is); (case c => k_is); (case k => k_is)))
    (case n_re => k_is)
    (case u_re => (refine' L2.fun_mk ?l ?c ?k; (case l => k_is); (case c => k_is); (case k => k_is)))
    (case n_law => k_is)
    (case u_law => (refine' L2.funC_mk ?l ?e ?k; (case l => k_is); (case e => k_is); (case k => k_is)))
    (case t1_law => rfl)
    (case t2_law => rfl)
    (case t3_law => rfl)
    (case m_fi => (refine' ⟨?at_, ?fn⟩; (case at_ => k_is); (case fn => k_is)))
    (case m_ri => (refine' ⟨?at_, ?fn⟩; (case at_ => k_is); (case fn => k_is)))
    (case m_un => (refine' ⟨?at_, ?fn⟩; (case at_ => k_is); (case fn => k_is)))
    (case m_ai => (refine' ⟨?at_, ?fn⟩; (case at_ => k_is); (case fn => k_is)))
    (case m_fe => (refine' ⟨?at_, ?fn⟩; (case at_ => k_is); (case fn => k_is)))
    (case m_chM => (refine' ⟨?at_, ?fn⟩; (case at_ => k_is); (case fn => k_is)))
    (case m_fl => (refine' ⟨?at_, ?get, ?tak, ?rec_⟩; (case at_ => k_is); (case get => k_is); (case tak => k_is); (case rec_ => k_is)))
    (case m_rl => (refine' ⟨?at_, ?get, ?tak, ?rec_⟩; (case at_ => k_is); (case get => k_is); (case tak => k_is); (case rec_ => k_is)))
    (case m_rz => (refine' ⟨?at_, ?get, ?tak, ?rec_⟩; (case at_ => k_is); (case get => k_is); (case tak => k_is); (case rec_ => k_is)))
    (case m_rd => (refine' ⟨?at_, ?get, ?tak, ?rec_⟩; (case at_ => k_is); (case get => k_is); (case tak => k_is); (case rec_ => k_is)))
    (case m_rt => (refine' ⟨?at_, ?get, ?tak, ?rec_⟩; (case at_ => k_is); (case get => k_is); (case tak => k_is); (case rec_ => k_is)))
    (case m_ra => (refine' ⟨?at_, ?get, ?tak, ?rec_⟩; (case at_ => k_is); (case get => k_is); (case tak => k_is); (case rec_ => k_is)))
    (case m_rf => (refine' ⟨?at_, ?get, ?tak, ?rec_⟩; (case at_ => k_is); (case get => k_is); (case tak => k_is); (case rec_ => k_is)))
    (case m_ap => (refine' ⟨?at_, ?get, ?tak, ?rec_⟩; (case at_ => k_is); (case get => k_is); (case tak => k_is); (case rec_ => k_is)))
    (case m_af => (refine' ⟨?at_, ?get, ?tak, ?rec_⟩; (case at_ => k_is); (case get => k_is); (case tak => k_is); (case rec_ => k_is)))
    (case m_fp => (refine' ⟨?at_, ?get, ?tak, ?rec_⟩; (case at_ => k_is); (case get => k_is); (case tak => k_is); (case rec_ => k_is)))
    (case eF_CF => exact ⟨⟨_, _, _, _, _, _, _, _, _, _, _, _, _, _, _, rfl, _, _, _, _, _, rfl, rfl, rfl, rfl⟩, ⟨_, rfl, rfl⟩⟩)
    (case u_fi => (refine' L2.fun_mk ?l ?c ?k; (case l => k_is); (case c => k_is); (case k => k_is)))
    (case u_ri => (refine' L2.fun_mk ?l ?c ?k; (case l => k_is); (case c => k_is); (case k => k_is)))
    (case u_un => (refine' L2.fun_mk ?l ?c ?k; (case l => k_is); (case c => k_is); (case k => k_is)))
    (case u_ai => (refine' L2.fun_mk ?l ?c ?k; (case l => k_is); (case c => k_is); (case k => k_is)))
    (case u_fe => (refine' L2.fun_mk ?l ?c ?k; (case l => k_is); (case c => k_is); (case k => k_is)))
    (case u_chM => (refine' L2.fun_mk ?l ?c ?k; (case l => k_is); (case c => k_is); (case k => k_is)))
    (case u_fl => (refine' L2.fun_mk ?l ?c ?k; (case l => k_is); (case c => k_is); (case k => k_is)))
    (case u_rl => (refine' L2.fun_mk ?l ?c ?k; (case l => k_is); (case c => k_is); (case k => k_is)))
    (case u_rz => (refine' L2.fun_mk ?l ?c ?k; (case l => k_is); (case c => k_is); (case k => k_is)))
    (case u_rd => (refine' L2.fun_mk ?l ?c ?k; (case l => k_is); (case c => k_is); (case k => k_is)))
    (case u_rt => (refine' L2.fun_mk ?l ?c ?k; (case l => k_is); (case c => k_is); (case k => k_is)))
    (case u_ra => (refine' L2.fun_mk ?l ?c ?k; (case l => k_is); (case c => k_is); (case k => k_is)))
    (case u_rf => (refine' L2.fun_mk ?l ?c ?k; (case l => k_is); (case c => k_is); (case k => k_is)))
    (case u_ap => (refine' L2.fun_mk ?l ?c ?k; (case l => k_is); (case c => k_is); (case k => k_is)))
    (case u_af => (refine' L2.fun_mk ?l ?c ?k; (case l => k_is); (case c => k_is); (case k => k_is)))
    (case u_fp => (refine' L2.fun_mk ?l ?c ?k; (case l => k_is); (case c => k_is); (case k => k_is)))
    (case rt0 => (refine' ⟨?nsn, ?at_, ?rd, ?ga, ?ini, ?hn, ?ht⟩; (case nsn => k_is); (case at_ => (refine' ⟨_, _, _, _, _, _, _, _, _, _, _, _, _, _, ?xl⟩; (case xl => rfl))); (case rd => k_is); (case ga => k_is); (case ini => k_is); (case hn => k_is); (case ht => k_is)))
    (case e_InvalidSizes => (refine' ⟨?nsn, ?at_, ?sa, ?ga, ?gg, ?ha, ?kC, ?no, ?ini, ?ity⟩; (case nsn => k_is); (case at_ => (refine' ⟨_, _, _, _, _, _, _, _, _, _, _, _, _, _, ?xl⟩; (case xl => rfl))); (case sa => k_is); (case ga => k_is); (case gg => k_is); (case ha => k_is); (case kC => k_is); (case no => k_is); (case ini => k_is); (case ity => k_is)))
    (case i_InvalidSizes => (refine' L2.fun_mk ?l ?c ?k; (case l => k_is); (case c => k_is); (case k => k_is)))
    (case e_UnknownName => (refine' ⟨?nsn, ?at_, ?sa, ?ga, ?gg, ?ha, ?kC, ?no, ?ini, ?ity⟩; (case nsn => k_is); (case at_ => (refine' ⟨_, _, _, _, _, _, _, _, _, _, _, _, _, _, ?xl⟩; (case xl => rfl))); (case sa => k_is); (case ga => k_is); (case gg => k_is); (case ha => k_is); (case kC => k_is); (case no => k_is); (case ini => k_is); (case ity => k_is)))
    (case i_UnknownName => (refine' L2.fun_mk ?l ?c ?k; (case l => k_is); (case c => k_is); (case k => k_is)))
    (case e_InvalidUsers => (refine' ⟨?nsn, ?at_, ?sa, ?ga, ?gg, ?ha, ?kC, ?no, ?ini, ?ity⟩; (case nsn => k_is); (case at_ => (refine' ⟨_, _, _, _, _, _, _, _, _, _, _, _, _, _, ?xl⟩; (case xl => rfl))); (case sa => k_is); (case ga => k_is); (case gg => k_is); (case ha => k_is); (case kC => k_is); (case no => k_is); (case ini => k_is); (case ity => k_is)))
    (case i_InvalidUsers => (refine' L2.fun_mk ?l ?c ?k; (case l => k_is); (case c => k_is); (case k => k_is)))
    (case e_InvalidLists => (refine' ⟨?nsn, ?at_, ?sa, ?ga, ?gg, ?ha, ?kC, ?no, ?ini, ?ity⟩; (case nsn => k_is); (case at_ => (refine' ⟨_, _, _, _, _, _, _, _, _, _, _, _, _, _, ?xl⟩; (case xl => rfl))); (case sa => k_is); (case ga => k_is); (case gg => k_is); (case ha => k_is); (case kC => k_is); (case no => k_is); (case ini => k_is); (case ity => k_is)))
    (case i_InvalidLists => (refine' L2.fun_mk ?l ?c ?k; (case l => k_is); (case c => k_is); (case k => k_is)))
    (case e_NeedsMemory => (refine' ⟨?nsn, ?at_, ?sa, ?ga, ?gg, ?ha, ?kC, ?no, ?ini, ?ity⟩; (case nsn => k_is); (case at_ => (refine' ⟨_, _, _, _, _, _, _, _, _, _, _, _, _, _, ?xl⟩; (case xl => rfl))); (case sa => k_is); (case ga => k_is); (case gg => k_is); (case ha => k_is); (case kC => k_is); (case no => k_is); (case ini => k_is); (case ity => k_is)))
    (case i_NeedsMemory => (refine' L2.fun_mk ?l ?c ?k; (case l => k_is); (case c => k_is); (case k => k_is)))
    (case e_InvalidLimits => (refine' ⟨?nsn, ?at_, ?sa, ?ga, ?gg, ?ha, ?kC, ?no, ?ini, ?ity⟩; (case nsn => k_is); (case at_ => (refine' ⟨_, _, _, _, _, _, _, _, _, _, _, _, _, _, ?xl⟩; (case xl => rfl))); (case sa => k_is); (case ga => k_is); (case gg => k_is); (case ha => k_is); (case kC => k_is); (case no => k_is); (case ini => k_is); (case ity => k_is)))
    (case i_InvalidLimits => (refine' L2.fun_mk ?l ?c ?k; (case l => k_is); (case c => k_is); (case k => k_is)))
    (case e_TooMany => (refine' ⟨?nsn, ?at_, ?sa, ?ga, ?gg, ?ha, ?kC, ?no, ?ini, ?ity⟩; (case nsn => k_is); (case at_ => (refine' ⟨_, _, _, _, _, _, _, _, _, _, _, _, _, _, ?xl⟩; (case xl => rfl))); (case sa => k_is); (case ga => k_is); (case gg => k_is); (case ha => k_is); (case kC => k_is); (case no => k_is); (case ini => k_is); (case ity => k_is)))
    (case i_TooMany => (refine' L2.fun_mk ?l ?c ?k; (case l => k_is); (case c => k_is); (case k => k_is)))
    (case apart => decide +kernel)
    (case dist => decide +kernel)
    (case z_abs => k_is)
    (case z_len => k_is)
    (case z_rng => k_is)
    (case z_enu => k_is)
    (case z_zip => k_is)
    (case z_isi => k_is)
    (case z_all => k_is)
    (case z_srt => k_is)
    (case z_lst => k_is)
    (case z_dct => k_is)
    (case z_str => k_is)
    (case z_int => k_is)
    (case z_tup => k_is)
    (case z_sum => k_is)
    (case z_min => k_is)
    (case z_max => k_is)
    (case z_rep => k_is)
    (case z_bool => k_is)
    (case z_any => k_is)
    (case z_vE => k_is)
