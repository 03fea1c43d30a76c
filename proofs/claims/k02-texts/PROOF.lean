import PyProof.Rows.All
import Wide.All
import OpenK.AllK
import Wide.FinOn
import KE.KStateDown
import KE.OsRunLaw
import HandS.Head0
import HandS.Head1
import HandS.Head2
import KE.KNestM
import HandS.ForMost
import PyProof.EqAt
import PyProof.EqKinds
import PyProof.TupleCall
import KE.KFromBytes
import KE.KExcIs
import HandS.Exc
import HandS.TryOnly
import HandS.ExcInit
import HandS.ExcIs
import HandS.ExcField
import HandS.IsInst
import HandS.ClsMeth
import HandS.Defaults
import HandS.DictComp
import HandS.SortKw
import HandS.More
import HandS.Nested
import PyProof.Rows.StrRules
import PyProof.Rows.SortKeyStr
import KE.KUnpackStar
import HandS.Flow
import HandS.Walk
import HandS.Wide
import HandS.Text
import HandS.Style
import HandS.Property
import HandS.WordsDict
import HandS.ListItems
import HandS.Finally
import HandS.WordsExc
import HandS.Lambda
import HandS.EndBits
import KE.KNest
import HandS.ExcOwn
import HandS.Conv
import HandS.Dict
import HandS.List
import HandS.Small
import HandS.GenOver
import HandS.GenList
import HandS.GenYield
import PyProof.NeData
import HandS.OwnEq
import PyProof.InstNe
import HandS.Iter
import HandS.TupLen
import KE.KeyNested
import KE.KDictCopyH
import PyProof.PureStr
import PyProof.ReprBulk
import HandS.DeepEq
import PyProof.P3Eq
import KE.RegKIsAll
import Wide.Loose
import PySem.Challenge.RW_flagtrees_k02_forest_texts
set_option Elab.async false
set_option linter.all false
set_option maxRecDepth 100000
set_option maxHeartbeats 8000000

/-! the head by one kernel run over the heap as a tree, with the frame of objects that the walk reads -/
namespace FT
open PySem PySem.W PySem.Calls PyProof.Rows HandSHeadRun
noncomputable def RunK (r : OpenRow) (q : Program) (K : Params → Frag) (as : List Addr) (M : Nat) (loose : List PySem.Str) (lv : List (PySem.Str × WData)) (w : World) : Prop :=
  ∀ os : OsState, (endF (stepQ (denQ tabQ) r.prog w) M r.prog w os).map (fun s => (looksF r.prog (boot_heap w.params) s.abs, seenQ q loose (importedModules r.prog.main.body) (fun s => xlAt q lv s && recOk r.toRowW.records s) s.abs, as.map (getT s))) = some (true, openGood q loose, (K w.params).map fun p => some p.2)
end FT


/-! the head by one kernel run, as HdK, for a text whose defs hold lambdas (the hook with tables) -/
namespace FT
open PySem PySem.W PySem.Calls PyProof.Rows HandSHeadRun
noncomputable def RunM (r : OpenRow) (q : Program) (K : Params → Frag) (as ts : List Addr) (M : Nat) (loose : List PySem.Str) (lv : List (PySem.Str × WData)) (w : World) : Prop :=
  ∀ os : OsState, (endF (stepQ (denQ tabQ) r.prog w) M r.prog w os).map (fun s => (looksF r.prog (boot_heap w.params) s.abs, seenQ q loose (importedModules r.prog.main.body) (fun s => xlAt q lv s && recOk r.toRowW.records s) s.abs, as.map (getT s), ts.map (getT s))) = some (true, openGood q loose, (K w.params).map (fun p => some p.2), ts.map fun _ => some (tabObj #[]))
theorem head_km {r : OpenRow} {q : Program} {K : Params → Frag} {as ts : List Addr} {pe : ∀ P, as = (K P).map (·.1)} {M : Nat} {loose : List PySem.Str} {lv : List (PySem.Str × WData)} {d : DefRec} {kwd : List (PySem.Str × PySem.Expr)}
    (e : opening r.prog = plainProg r.prog.main.scope.names) (f : ∀ s, fenceModules? r.prog s = some s) (run : ∀ w, RunM r q K as ts M loose lv w)
    (hdef : defOf q r.name = some (d, kwd)) (hp : r.prog.theDef r.name = some (d.params, d.body, d.scope)) (hk : kwWritten? d.params.kwonlyargs d.params.kw_defaults = some kwd)
    (hwr : (!r.writes || r.records.isEmpty) = true) (k1 : r.wellSaid = true) (ok : (chainsOk q && opensWell r.prog && (frees r.toRowW && r.within.isEmpty)) = true) (hb : r.prog.bare) (hw : r.toRowW.promised)
    (call : WalkO q loose (XL q lv) (kmHook K as pe ts).says r.toRowW d kwd fun f vs => PySem.call f vs) : r.Holds := by
  have ob : (fun s : SharedT => (as.map (getT s), ts.map (getT s))) = fun s => (kmHook K as pe ts).obs s.abs := funext fun s => Prod.ext (List.map_congr_left fun a _ => getT_eq s a) (List.map_congr_left fun a _ => getT_eq s a)
  have left : LeftO r.prog q loose (fun s => xlAt q lv s && recOk r.toRowW.records s) (kmHook K as pe ts).obs (kmHook K as pe ts).val (M + 600) true :=
    left_one (M := M) e (Nat.ble_eq_true_of_le (by omega)) f (Nat.ble_eq_true_of_le (by omega)) fun w os => by
      have z := run w os
      rw [show (fun s : SharedT => (looksF r.prog (boot_heap w.params) s.abs, seenQ q loose (importedModules r.prog.main.body) (fun s => xlAt q lv s && recOk r.toRowW.records s) s.abs, as.map (getT s), ts.map (getT s))) = fun s : SharedT => (looksF r.prog (boot_heap w.params) s.abs, seenQ q loose (importedModules r.prog.main.body) (fun s => xlAt q lv s && recOk r.toRowW.records s) s.abs, (kmHook K as pe ts).obs s.abs) from funext fun s => congrArg (fun t => (looksF r.prog (boot_heap w.params) s.abs, seenQ q loose (importedModules r.prog.main.body) (fun s => xlAt q lv s && recOk r.toRowW.records s) s.abs, t)) (congrFun ob s)] at z
      simp only [endQ_eq, seenQ_eq]
      exact z
  exact holds_open (r := r) (q := q) (loose := loose) (XP := XL q lv) (YP := (kmHook K as pe ts).says) (d := d) (kwd := kwd) left (kmHook K as pe ts).of (kmHook K as pe ts).keeps (fun s z => xl_of s (Bool.and_eq_true_iff.mp z).1) XL.keeps hdef hp hk (fun s z => recFacts_of (Bool.and_eq_true_iff.mp z).2) hwr k1 ok hb hw call
end FT


namespace FT
open PySem L2
/-- the i-th statement of the row's text -/
def top (i : Nat) : Stmt := PySem.Challenge.pw_flagtrees_k02_forest_texts.main.body.getD i (.Pass ⟨0, 0, 0, 0⟩)
abbrev s__wall : Stmt := top 0
abbrev s_InvalidForest___init__ : Stmt := inClass (top 3) 0
abbrev s_UnknownName___init__ : Stmt := inClass (top 4) 0
abbrev s_InvalidSizes___init__ : Stmt := inClass (top 5) 0
abbrev s_InvalidText___init__ : Stmt := inClass (top 6) 0
abbrev s_is_name : Stmt := top 10
abbrev s_is_ancestor : Stmt := top 11
abbrev s_need_parents : Stmt := top 12
abbrev s_Forest___init__ : Stmt := inClass (top 13) 2
abbrev s_Forest___eq__ : Stmt := inClass (top 13) 3
abbrev s_Forest_flags : Stmt := inClass (top 13) 4
abbrev s_Forest_parents : Stmt := inClass (top 13) 5
abbrev s_Forest_text : Stmt := inClass (top 13) 6
abbrev s_Forest_children : Stmt := inClass (top 13) 7
abbrev s_Forest_path : Stmt := inClass (top 13) 8
abbrev s_Forest_under : Stmt := inClass (top 13) 9
abbrev s_Forest_distance : Stmt := inClass (top 13) 10
abbrev s_Forest_walk : Stmt := inClass (top 13) 11
abbrev s_Forest_parse : Stmt := inClass (top 13) 12
abbrev s_walked : Stmt := top 14
abbrev s_path_in : Stmt := top 15
abbrev s_path_difference : Stmt := top 16
abbrev s_need_place : Stmt := top 17
abbrev s__law_begin : Stmt := top 19
abbrev s__law_take : Stmt := top 20
abbrev s__law_pick : Stmt := top 21
abbrev s__law_order : Stmt := top 22
abbrev s__law_names : Stmt := top 23
abbrev s__law_parents : Stmt := top 24
abbrev s__law_is_name : Stmt := top 25
abbrev s__law_in_ring : Stmt := top 26
abbrev s__law_due : Stmt := top 27
abbrev s__law_below : Stmt := top 28
abbrev s__law_row : Stmt := top 29
abbrev s__law_bent : Stmt := top 30
abbrev s__law_parsed : Stmt := top 31
abbrev s__law_told : Stmt := top 32
abbrev s__law_unknown_right : Stmt := top 33
abbrev s_law : Stmt := top 34
end FT


/-! Own: an exception class over ValueError called with one keyword, `C(name=value)`. The library's lemmas (HandSPX.call_own) say it for calls without keywords; these say it for one keyword. -/
namespace FX
open PySem PySem.W PySem.Calls PyProof.Rows PySem.HandSPX
section
variable {Mo : Model} {Ar : Around} {Er : Value → Shared → Prop} {he : Heap} {ge : Array GenState} {dr : Drawn} {tk : Nat} {os : OsState}
variable {nm qn : Str} {C N : Addr} {bs bm bmB : List Value} {hdct : Bool} {sn : List Str} {sub : List Value} {ab : Bool} {col : Option Bool} {dd : Option Addr} {k0 k1 k2 k3 k5 : Option Value} {B idN idI : String}
variable {kn : Str} {kv : Value} {more : List Value}
/-- the class object of an exception class, short -/
abbrev XO (nm qn : Str) (C N : Addr) (bs bm : List Value) (hdct : Bool) (sn : List Str) (sub : List Value) (ab : Bool) (col : Option Bool) (dd : Option Addr) (k0 k1 k2 k3 k5 : Option Value) (idN : String) : Obj :=
  excClassObj nm qn C N bs bm hdct sn sub ab col dd k0 k1 k2 k3 k5 idN
abbrev SameTy (bm bmB : List Value) : Prop := ∀ T : String, bm.contains (.type T) = bmB.contains (.type T)
end
section
variable {pg : Program} {w : World} {Ar : Around} {Er : Value → Shared → Prop} {Rs : Result → Shared → Prop} {he : Heap} {ge : Array GenState} {dr : Drawn} {tk : Nat} {os : OsState}
variable {nm qn : Str} {C N fI : Addr} {bs bm bmB : List Value} {hdct : Bool} {sn : List Str} {sub : List Value} {ab : Bool} {col : Option Bool} {dd : Option Addr} {k0 k1 k2 k3 k5 : Option Value} {B idN idI : String}
variable {kn : Str} {kv : Value} {more : List Value}
/-- the heap with the new exception -/
abbrev withX (he : Heap) (C : Addr) (more : List Value) : Heap := (he.push (W.kdv_tup more)).push (excO C he.objs.size)
end
end FX


namespace L2
open PySem PySem.Spec PyProof.Rows
/-- what the written part says of an own exception class over ValueError -/
structure XCls (K : PySem.W.Frag) (C : Addr) : Prop where
  cls : ∃ nm q N bs bm sn sub ab col dd k0 k1 k2 k3 k5, K.lookup C = some (excClassObj nm q C N bs bm true sn sub ab col dd k0 k1 k2 k3 k5 "ValueError.__new__") ∧ PySem.HandSPX.refsVE bm = true
  sa : PySem.W.findIn K (.ref C) "__setattr__" = some (some (.builtin "object.__setattr__"))
  exC : PySem.W.subIn K (.ref C) (.type "BaseException") = some true
  tyC : PySem.W.typeIn K (.ref C) = some (.type "type")
  kC : PySem.W.keepIn K (.ref C) = true
  ga : PySem.W.findIn K (.ref C) "__getattribute__" = some (some (.builtin "BaseException.__getattribute__"))
  gg : PySem.W.findIn K (.ref C) "__getattr__" = some none
  hdC : PySem.W.hasDictIn K C = true
  ha : PySem.W.findIn K (.ref C) "__class__" = some (some (.builtin "object.__class__"))
  hn : PySem.W.specialIn K (.builtin "object.__class__") "__get__" = some (some (.builtin "getset_descriptor.__get__"))
  ht : PySem.W.takesIn K (.builtin "object.__class__") = some true
  hm : PySem.W.mroIn K C (.type "object") = some true
theorem XCls.oex {K : PySem.W.Frag} {C : Addr} (c : XCls K C) : OexC K C := ⟨c.cls, c.sa, c.exC, c.tyC, c.kC⟩
/-- an exception object at a, by class and dict, its fields not told -/
def exg (a C : Addr) (d : Option Addr) : HO := .ext fun h => ∃ vs sl, h.get? a = some ({ cls := .ref C, dict := d, data := .fields vs, slots := sl } : Obj)
theorem exg_ok {P : Program} {w : World} {H : Hp} {h : Heap} {e C : Addr} {d : Option Addr} {vs : Array Value} {sl : Array (Option Value)} (he : h.get? e = some ({ cls := .ref C, dict := d, data := .fields vs, slots := sl } : Obj)) : ObjOk P w H h e (exg e C d) :=
  ⟨⟨vs, sl, he⟩, ⟨_, he⟩, fun h1 h2 z k => by
    obtain ⟨vs, sl, q⟩ := z
    exact ⟨vs, sl, k _ q⟩⟩
def XAt (H : Hp) (a C : Addr) (d : Option Addr) : Prop := H a = some (exo a C d) ∨ H a = some (exg a C d)
theorem XAt.obj {P : Program} {w : World} {H : Hp} {h : Heap} {a C : Addr} {d : Option Addr} (x : XAt H a C d) (hok : HOk P w H h) : ∃ ox vs, h.get? a = some ox ∧ ox.cls = .ref C ∧ ox.dict = d ∧ ox.data = .fields vs := by
  rcases x with e | e
  · obtain ⟨t1, q⟩ := exo_at hok e
    exact ⟨_, _, q, rfl, rfl, rfl⟩
  · have z : ObjOk P w H h a (.ext fun h => ∃ vs sl, h.get? a = some ({ cls := .ref C, dict := d, data := .fields vs, slots := sl } : Obj)) := hok a _ e
    obtain ⟨⟨vs, sl, q⟩, _⟩ := z
    exact ⟨_, vs, q, rfl, rfl, rfl⟩
def XD (H : Hp) (dx : Addr) (fs : List (Str × V)) : Prop := H dx = some (exd dx fs) ∨ H dx = some (.xd fs)
theorem XD.at {P : Program} {w : World} {H : Hp} {h : Heap} {dx : Addr} {fs : List (Str × V)} (x : XD H dx fs) (hok : HOk P w H h) : ∃ mA, h.Ns1 dx mA ∧ ∀ f, RelO (fs.lookup f) (mA f) := by
  rcases x with e | e
  · exact exd_at hok e
  · have z : ObjOk P w H h dx (.xd fs) := hok dx _ e
    exact z
/-- an exception of the class at C stands at a; its attributes are fs -/
def XV (H : Hp) (a C : Addr) (fs : List (Str × V)) : Prop := (XAt H a C none ∧ fs = []) ∨ ∃ dx, XAt H a C (some dx) ∧ XD H dx fs
theorem XV.inst {P : Program} {w : World} {H : Hp} {h : Heap} {a C : Addr} {fs : List (Str × V)} (x : XV H a C fs) (hok : HOk P w H h) : ∃ ox od, PySem.W.InstAt h a ox C od := by
  rcases x with ⟨x, _⟩ | ⟨dx, x, y⟩
  · obtain ⟨ox, vs, e1, e2, e3, e4⟩ := x.obj hok
    exact ⟨ox, none, e1, e2, by unfold PySem.W.notCls; rw [e4] <;> rfl, by rw [e3]; trivial⟩
  · obtain ⟨ox, vs, e1, e2, e3, e4⟩ := x.obj hok
    obtain ⟨mA, hn, hr⟩ := y.at hok
    obtain ⟨od, ho, hl⟩ := lookIn_ns hn
    exact ⟨ox, some od, e1, e2, by unfold PySem.W.notCls; rw [e4] <;> rfl, by rw [e3]; exact ho⟩
theorem XV.look {P : Program} {w : World} {H : Hp} {h : Heap} {a C : Addr} {fs : List (Str × V)} {f : Str} {v : V} (x : XV H a C fs) (hok : HOk P w H h) (hl : fs.lookup f = some v) :
    ∃ ox od u, PySem.W.InstAt h a ox C (some od) ∧ PySem.W.lookIn f od = some (some u) ∧ RelV v u := by
  rcases x with ⟨_, e⟩ | ⟨dx, x, y⟩
  · rw [e] at hl
    cases hl
  · obtain ⟨ox, vs, e1, e2, e3, e4⟩ := x.obj hok
    obtain ⟨mA, hn, hr⟩ := y.at hok
    obtain ⟨od, ho, hk⟩ := lookIn_ns hn
    obtain ⟨u, hu, ru⟩ := RelO.some_of (v := v) (o := mA f) (by rw [← hl]; exact hr f)
    exact ⟨ox, od, u, ⟨e1, e2, by unfold PySem.W.notCls; rw [e4] <;> rfl, by rw [e3]; exact ho⟩, by rw [hk, hu], ru⟩

section
variable {X : Cx}
/-- isinstance(e, c), e an exception of an own class -/
def rIsX (K : PySem.W.Frag) : List V → Hp → VK → Prop := fun xs H Q => ∃ (a C : Addr) (fs : List (Str × V)) (c : V) (u : Value) (b : Bool), xs = [.ref a, c] ∧ ClsV c u ∧ XCls K C ∧ XV H a C fs ∧ PySem.W.kitOne K (.ref C) u = some b ∧ Q (.bl b) H
theorem call_isX : CallR X (.builtin "isinstance") (rIsX X.K) := by
  intro pins s σ H xs us Q I r h
  obtain ⟨a, C, fs, c, u, b, rfl, k, T, xv, e, q⟩ := h
  obtain ⟨u1, u2, rfl, r1, r2⟩ := vals2 r
  have e2 := k.eq r2
  subst e2
  obtain rfl : u1 = Value.ref a := r1
  obtain ⟨ox, od, J⟩ := xv.inst I.hok
  have hcl : (PySem.W.clsIn X.K C).isSome = true := by
    obtain ⟨cd, hc, _⟩ := PySem.W.any_some T.hdC
    rw [hc] <;> rfl
  exact PySem.W.kia_one (PySem.W.kitx_exc hcl T.ga T.gg T.exC T.ha T.hn T.ht T.hm) I.kIn J e (fun z => nomatch z) fun tk => ⟨.bl b, H, I.tok tk, rfl, q⟩
/-- e.f -/
def tXFld (K : PySem.W.Frag) (te : TE) (f : Str) : TE := fun σ H Q => te σ H fun x H1 => ∃ (a C : Addr) (fs : List (Str × V)) (v : V), x = .ref a ∧ XV H1 a C fs ∧ XCls K C ∧ PySem.W.findIn K (.ref C) f = some none ∧ fs.lookup f = some v ∧ Q v H1
theorem pe_xfld {e : Expr} {te : TE} {pos : Pos} {n : Str} (he : PE X e te) (hb : attributeBase e n X.env (eval e X.env) = eval e X.env := by rfl) : PE X (.Attribute e n pos) (tXFld X.K te n) := by
  refine ⟨fun pins s σ H Q I h => ?_⟩
  refine attr_of hb (thn (he.run pins s σ H _ I h) fun u s1 hh => ?_)
  obtain ⟨x, H1, I1, rx, a, C, fs, v, ex, xv, T, hno, hl, q⟩ := hh
  subst ex
  obtain rfl : u = Value.ref a := rx
  obtain ⟨ox, od, u, J, hk, ru⟩ := xv.look I1.hok hl
  exact HandSPX.exc_get I1.kIn J T.ga T.gg T.exC (PySem.W.findObj_own T.hdC hno rfl hk) (handed_of ru) ⟨v, H1, I1.tok _, ru, q⟩
/-- R.__init__(self, ..), R an own class whose __init__ is ValueError's -/
structure XIni (K : PySem.W.Frag) (R : Addr) : Prop where
  rd : PySem.W.readsIn K R (.type "type") = true
  ga : PySem.W.specialIn K (.ref R) "__getattribute__" = some (some (.builtin "type.__getattribute__"))
  at_ : PySem.W.findCls K (.ref R) (.type "type") "__init__" = some (.val (.builtin "ValueError.__init__"))
theorem pe_clsinit {R : Addr} {rn : Str} {e : Expr} {es : List Expr} {ta : TA} {p1 p2 pos : Pos} {pl : Sem Bool} (T0 : XIni X.K R) (hg : Gl X rn) (hm : X.mg rn = some (.ref R)) (ha : PA X (e :: es) ta)
    (hdb : (rn == ("__debug__" : Str)) = false := by decide)
    (hc : eval (.Call (.Attribute (.Name rn p1) "__init__" p2) (e :: es) [] pos) X.env = (do
      let ov ← eval (.Name rn p1) X.env
      standAt p2.atName
      let (f, first) ← holding [ov] (getMethod ov "__init__" pl)
      callWith pos f first (backTo pos (starEach (e :: es) X.env)) (backToKw pos (keywordEach [] X.env))) := by rfl)
    (he : starEach (e :: es) X.env = (false, eval e X.env) :: starEach es X.env := by rfl) (hpl : (backTo pos (starEach es X.env)).any (·.1) = false := by rfl) :
    PE X (.Call (.Attribute (.Name rn p1) "__init__" p2) (e :: es) [] pos) (tVeI X.K ta) := by
  refine ⟨fun pins s σ H Q I h => ?_⟩
  refine PySem.W.methodCall_KW (ld_glob I hg hm ?_ hdb) hc
  refine PySem.W.method_cls I.kIn T0.ga (PySem.W.cls_value I.kIn T0.rd T0.at_ rfl ?_)
  show wpAny _ _ (callWith pos (Value.builtin "ValueError.__init__") [] (backTo pos (starEach (e :: es) X.env)) []) _ _ _
  refine PyProof.Rows.callWith_method1 (thn (ha.run pos pins _ σ H _ (I.tok _) h) fun us s1 ⟨vs, H1, I1, r1, a, C, ws, ev, hl, T, ea, q⟩ => ?_) he hpl
  subst ev
  cases r1 with
  | @cons _ u0 _ ur ra rw' =>
    obtain rfl : u0 = Value.ref a := ra
    have hlen : ur.length ≤ sizeLine := by
      rw [← Paired.length rw', sizeLine_eq]
      omega
    exact oinit_ok T I1 ea hlen fun s' J => ⟨.non, H1, J, rfl, q⟩

/-! ### C(..) as a value -/
variable {CX : CXT} {C fI : Addr} {k : Nat} {fd : FuncData} {ps : List Str} {sp : Sp} {ds : List Value} {dvs : List V} {E : XK}
/-- C(e, ..) as a value; C's own __init__ keeps sp -/
def tMkX (C : Addr) (sp : Sp) (dvs : List V) (E : XK) (ta : TA) : TE := fun σ H Q => ta σ H fun vs H1 => vs.length ≤ 1000 ∧ ∀ a, H1 a = none → sp (.ref a :: (vs ++ dvs)) (upd H1 a (exo a C none)) (fun v H2 => v = .non ∧ Q (.ref a) H2) E
def tMkXK (C : Addr) (sp : Sp) (gV : List V → List V → List V) (E : XK) (te : TE) : TE := fun σ H Q => te σ H fun v H1 => ∀ a, H1 a = none → sp (gV [.ref a] [v]) (upd H1 a (exo a C none)) (fun v H2 => v = .non ∧ Q (.ref a) H2) E
variable {x : Str} {e : Expr} {es : List Expr} {ta : TA} {te : TE} {p pos kpos : Pos}
end
end L2


/-! y = {k: v for ..}, y a local; an expression whose answer is locked -/
namespace L2
open PySem PySem.Spec PyProof.Rows
section
variable {X : Cx} {i : Nat} {y : Str} {py : Pos} {kx vx tg iter : Expr} {ifs : List Expr} {scope : Scope} {own : List (Str × Nat)} {pos spos : Pos} {wi : TI} {g : TG} {tt : TT} {tk tv : TE}
/-- e, its answer locked from then on -/
def tLk (te : TE) : TE := fun σ H Q => te σ H fun x H1 => ∃ d u, x = .ref d ∧ H1 d = some u ∧ Mut (some u) ∧ ∀ od, Q (.ref d) (upd H1 d (.frz od u))
end
end L2


/-! try: .. except C as n: .., the caught exception known behind the try -/
namespace L2
open PySem PySem.Spec PyProof.Rows
section
variable {X : Cx} {pins : List (Addr × Obj)} {σ : St} {H : Hp} {s : Shared}
/-- an object that stands there is known from now on; the entry had none at its place -/
theorem Inv.known {a : Addr} {o : HO} (I : Inv X pins σ H s) (hn : H a = none) (h0 : X.s_0.heap.get? a = none) (hL : a ≠ X.env.locals) (h2 : ∀ x c, X.env.cells.lookup x = some c → c ≠ a) (h3 : ∀ p ∈ X.pn ++ pins, p.1 ≠ a)
    (new : ObjOk X.prog X.w (upd H a o) s.heap a o) : Inv X pins σ (upd H a o) s := by
  have nit : ∀ b u, H b = some u → b ≠ a := fun b u e z => by rw [z, hn] at e; cases e
  refine ⟨I.ok, I.os, I.bare, ⟨I.base.keep, I.base.slot, fun b o e n hx => ?_, I.base.there, fun b xs e => ?_, fun b o xs e => ?_, fun b ps e => ?_⟩, I.loc, I.cell, ?_, fun x c e => ?_, fun p hp => ?_, fun b u e => ?_, I.len⟩
  · rw [upd_ne (fun z => by rw [z, h0] at e; cases e)]
    exact I.base.free b o e n hx
  · have q := I.base.tups b xs e
    rw [upd_ne (nit b _ q)]
    exact q
  · have q := I.base.frzs b o xs e
    rw [upd_ne (nit b _ q)]
    exact q
  · obtain ⟨m, q⟩ := I.base.tbls b ps e
    exact ⟨m, by rw [upd_ne (nit b _ q)]; exact q⟩
  · rw [upd_ne (Ne.symm hL)]
    exact I.free
  · rw [upd_ne (h2 x c e)]
    exact I.freeC x c e
  · obtain ⟨e, n, r⟩ := I.pin p hp
    exact ⟨e, by rw [upd_ne (h3 p hp)]; exact n, r⟩
  · by_cases hb : b = a
    · subst hb
      rw [upd_same] at e
      cases e
      exact new
    · rw [upd_ne hb] at e
      exact (I.hok b u e).stay (fun c v hc q => q) (fun c q => by rw [upd_ne (nit c _ q)]; exact q) fun c _ q => by rw [upd_ne (nit c _ q)]; exact q
end
/-- what a landed exception is: its object, where it does not lie -/
structure Landed (X : Cx) (pins : List (Addr × Obj)) (σ : St) (H : Hp) (a C : Addr) (d : Option Addr) (h : Heap) (s : Shared) : Prop where
  inv : Inv X pins σ H { s with heap := h }
  obj : ∃ vs sl, h.get? a = some ({ cls := .ref C, dict := d, data := .fields vs, slots := sl } : Obj)
  free : H a = none
  entry : X.s_0.heap.get? a = none
  loc : a ≠ X.env.locals
  fs : a ∉ X.fs
  pin : ∀ p ∈ X.pn ++ pins, p.1 ≠ a
theorem Landed.of {X : Cx} {pins : List (Addr × Obj)} {σ : St} {H : Hp} {a C : Addr} {d : Option Addr} {h B : Heap} {s sI : Shared} (hs : X.stack = X.env :: X.outer) (hf : X.env.frame = some X.env.locals) (hex : X.ex = []) (J : Inv X pins σ H sI) (na : H a = none)
    (nb : ∀ b o, sI.heap.get? b = some o → b ∉ frs X.stack → B.get? b = some o) (hB : B.get? a = none) (ff : h.FunFrames B (X.env :: X.outer)) (there : ∃ oe vs, h.get? a = some oe ∧ Zc (.ref C) d oe ∧ oe.data = .fields vs) (K : Inv X pins σ H { s with heap := h }) : Landed X pins σ H a C d h s := by
  obtain ⟨⟨oc, od, odt, osl⟩, ws, at_, ⟨z1, z2⟩, z3⟩ := there
  have off : a ∉ frs (X.env :: X.outer) := fun hm => by
    obtain ⟨_, u, hu, plain⟩ := ff.mem hm
    rw [at_] at hu
    exact plain ws (by rw [← Option.some.inj hu]; exact z3)
  have out : sI.heap.get? a = none := by
    cases q : sI.heap.get? a with
    | none => rfl
    | some o => exact absurd (nb a o q (by rw [hs]; exact off)) (by rw [hB]; simp)
  refine ⟨K, ⟨ws, osl, ?_⟩, na, ?_, fun z => off (List.mem_filterMap.mpr ⟨X.env, .head _, by rw [hf, z]⟩), fun hm => ?_, fun p hp z => ?_⟩
  · dsimp only at z1 z2 z3
    rw [at_, z1, z2, z3]
  · cases q : X.s_0.heap.get? a with
    | none => rfl
    | some o =>
      obtain ⟨_, q2⟩ := J.base.there a o q (by rw [hex]; simp)
      rw [out] at q2
      cases q2
  · obtain ⟨e, m, q⟩ := List.mem_filterMap.mp hm
    exact off (List.mem_filterMap.mpr ⟨e, .tail _ m, q⟩)
  · have q := (J.pin p hp).1
    rw [z, out] at q
    cases q
/-- what is wanted of an exception in the try: as wAs, but behind the suite the exception is known -/
def wAsK (K : PySem.W.Frag) (c : Value) (i : Nat) (ts : Addr → Value → Option Addr → TS) (Wout : WX) (D : Ends) : WX := fun cls d σ H => ∃ b C, cls = Value.ref C ∧ PySem.W.exmOne K cls c = some b ∧
  (b = true → ∀ a, H a = none → ts a cls d ⟨fun σ' H' => D.nx (σ'.set i none) (upd H' a (exg a C d)), D.rt, fun σ' H' => D.bk (σ'.set i none) H', fun σ' H' => D.ct (σ'.set i none) H'⟩ (σ.set i (some (.ref a))) H) ∧ (b = false → Wout cls d σ H)
section
variable {X : Cx} {x n : Str} {c : Value} {i : Nat} {body suite : List Stmt} {st : Stmt} {np pos hpos : Pos} {tb : WX → TS} {ts : Addr → Value → Option Addr → TS} {Wout : WX}
/-- the end of such a suite -/
theorem keep_end {pins : List (Addr × Obj)} {σ σ6 : St} {H H6 : Hp} {a C : Addr} {d : Option Addr} {h : Heap} {s s6 : Shared} {oe : Obj} {Q : Shared → Prop} (L : Landed X pins σ H a C d h s) (eo : h.get? a = some oe) (hN : X.N.Nodup) (hi : X.N[i]? = some n) (hln : X.env.kindOf n = some .local)
    (S : Inv (X.suite a ((a, oe) :: (X.pn ++ pins))) [] σ6 H6 s6) (q : ∀ s7, Inv X pins (σ6.set i none) (upd H6 a (exg a C d)) s7 → Q s7) : wpAny (model X.prog X.w) X.A (do bindName X.env n .none; unbindBehindTheSuite X.env n hpos) (fun _ s7 => Q s7) X.xe s6 := by
  obtain ⟨p1, p2, _⟩ := S.pin (a, oe) (List.mem_append_left _ (.head _))
  obtain ⟨ws, sl, e0⟩ := L.obj
  rw [eo] at e0
  have p3 : s6.heap.get? a = some oe := p1
  rw [Option.some.inj e0] at p3
  have U := S.unsuite L.inv.ok
  refine gone_ok (U.known (o := exg a C d) p2 L.entry L.loc (fun y k e z => ?_) L.pin (exg_ok p3)) hN hi hln q
  obtain ⟨_, _, w1, w2⟩ := U.cell y k e
  rw [z, p3] at w1
  rw [← Option.some.inj w1] at w2
  cases w2
/-- try: body / except x as n: suite -/
theorem ps_try_keep (hs : X.stack = X.env :: X.outer) (hf : X.env.frame = some X.env.locals) (hex : X.ex = []) (hN : X.N.Nodup) (hi : X.N[i]? = some n) (hln : X.env.kindOf n = some .local) (hc : Names X x c) (tk : Takes X Wout)
    (hb : ∀ (W : WX) (pn : List (Addr × Obj)) (xe : Value → Shared → Prop), Takes (X.tr pn xe) W → PassesOwn (model X.prog X.w) X.A X.env xe → PSs (X.tr pn xe) body (tb W))
    (hsu : ∀ (a : Addr) (oe : Obj) (cls : Value) (d : Option Addr) (pn : List (Addr × Obj)), Zc cls d oe → (∃ vs, oe.data = .fields vs) → PSs (X.suite a ((a, oe) :: pn)) (st :: suite) (ts a cls d)) :
    PS X (.Try body [.ExceptHandler (some (.Name x np)) (some n) (st :: suite) hpos] [] [] pos) (fun D σ H => tb (wAsK X.K c i ts Wout D) D σ H) := by
  constructor
  intro pins s σ H D I h
  refine wpAny_Try_except (wpAny_mono ((hb (wAsK X.K c i ts Wout D) (X.pn ++ pins) (fun e t1 => wpAny (model X.prog X.w) X.A (noteFrame e X.env) (fun _ t2 => wpAny (model X.prog X.w) X.A (setFlight e none) (fun _ t3 =>
    wpAny (model X.prog X.w) X.A (handleBy e X.env [.ExceptHandler (some (.Name x np)) (some n) (st :: suite) hpos]) (SP X pins D) X.xe t3) X.xe t2) X.xe t1) (fun u s' air => ?_) PassesOwn.looking).run [] s σ H D (I.toTry _) h) (fun f t1 ok => ?_) fun _ _ z => z)
  case refine_2 =>
    cases f with
    | next => exact let ⟨σ1, H1, K, q⟩ := ok; wpAny_execs_nil ⟨σ1, H1, K.ofTry I.ok, q⟩
    | brk => exact let ⟨σ1, H1, K, q⟩ := ok; ⟨σ1, H1, K.ofTry I.ok, q⟩
    | cont => exact let ⟨σ1, H1, K, q⟩ := ok; ⟨σ1, H1, K.ofTry I.ok, q⟩
    | ret u => exact let ⟨v, σ1, H1, K, rv, q⟩ := ok; ⟨v, σ1, H1, K.ofTry I.ok, rv, q⟩
  case refine_1 =>
    obtain ⟨a, B, sI, pins', σ', H', cls, d, rfl, J', nb, up, sky, na, os, ag, b, C, rfl, mb, yes, no⟩ := air
    have J := J'.ofTry I.ok
    rw [hs] at sky
    have hfr : X.A.frames = some (X.env :: X.outer) := I.ok.frames.trans (congrArg some hs)
    show wpAny (model X.prog X.w) X.A (noteFrame (.ref a) X.env) _ _ _
    refine Sky.land Zc.steady hfr hf sky fun hA flA upA => ?_
    have KA : Inv X pins σ' H' { s' with heap := hA } := J.landed nb flA.1 (up.trans upA) os ag
    obtain ⟨oA, wA, atA, zA, dA⟩ := flA.there
    have LA := Landed.of (s := s') hs hf hex J na nb flA.2.1 flA.2.2.1 ⟨oA, wA, atA, zA, dA⟩ KA
    have SA := KA.suite atA dA na LA.loc LA.fs
    refine wpAny_handleBy_cons (codeAny_handlers_test ?_) fun z => by cases z
    have ty : PySem.W.Looks (model X.prog X.w) hA (typeOf (.ref a)) (.ref C) := fun _ _ _ _ kk q => wpAny_typeOf_ref (kk _ _ atA) (by rw [zA.1]; exact q)
    have mk := PySem.W.exm_one (M := model X.prog X.w) KA.kIn ty mb
    have named : ∀ {Q E : Value → Shared → Prop}, Q c { s' with heap := hA } → wpAny (model X.prog X.w) (X.A.mark (some (.ref a))) (eval (.Name x np) X.env) Q E { s' with heap := hA } := fun q => by
      obtain ⟨g, gd, e | ⟨e, bt, nn⟩⟩ := hc
      · exact ld_glob SA g e q gd
      · exact ld_blt SA g e bt q nn gd
    refine named (mk.here ?_)
    match b, yes, no with
    | true, yes, _ =>
      refine codeAny_handlers_suite_as (HandSPX.lands_againZ flA fun hC flC upC => ?_)
      have KC : Inv X pins σ' H' { s' with heap := hC } := J.landed nb flC.1 ((up.trans upA).trans upC) os ag
      obtain ⟨oC, wC, atC, zC, dC⟩ := flC.there
      have LC := Landed.of (s := s') hs hf hex J na nb flC.2.1 flC.2.2.1 ⟨oC, wC, atC, zC, dC⟩ KC
      refine store_ok (X := X.suite a ((a, oC) :: (X.pn ++ pins))) (v := .ref a) (KC.suite atC dC na LC.loc LC.fs) hN hi (.inl hln) rfl (fun t5 S5 => ?_) (.inr hln)
      refine wpAny_mono ((hsu a oC _ d (X.pn ++ pins) zC ⟨_, dC⟩).run [] t5 _ H' _ S5 (yes rfl a na)) (fun f t6 e6 => ?_) fun _ _ z => z.elim
      have plain : ∀ {σ6 : St} {H6 : Hp} {Q : Shared → Prop}, Inv (X.suite a ((a, oC) :: (X.pn ++ pins))) [] σ6 H6 t6 → (∀ t7, Inv X pins (σ6.set i none) H6 t7 → Q t7) → wpAny (model X.prog X.w) X.A (do bindName X.env n .none; unbindBehindTheSuite X.env n hpos) (fun _ t7 => Q t7) X.xe t6 :=
        fun S q => gone_ok (S.unsuite I.ok) hN hi hln q
      cases f with
      | next => exact let ⟨σ6, H6, S6, q6⟩ := e6; keep_end LC atC hN hi hln S6 fun t7 K7 => ⟨_, _, K7, q6⟩
      | brk => exact let ⟨σ6, H6, S6, q6⟩ := e6; plain S6 fun t7 K7 => ⟨_, _, K7, q6⟩
      | cont => exact let ⟨σ6, H6, S6, q6⟩ := e6; plain S6 fun t7 K7 => ⟨_, _, K7, q6⟩
      | ret u => exact let ⟨v6, σ6, H6, S6, r6, q6⟩ := e6; plain S6 fun t7 K7 => ⟨_, _, _, K7, r6, q6⟩
    | false, _, no =>
      show wpAny _ X.A (handleBy (.ref a) X.env []) _ _ _
      refine wpAny_handleBy_nil ?_
      obtain ⟨oe, vs, tb1, _, _, e1, _, e2, e3, _⟩ := flA.2.2.2
      unfold PySem.passOn
      refine wpAny_bind (wpAny_field e1 e2 e3 ?_)
      rw [if_neg (by simp)]
      have fly : wpAny (model X.prog X.w) X.A (setFlight (.ref a) X.env.frame) (fun _ t4 => wpAny (model X.prog X.w) X.A (throw (.ref a) : Sem Flow) (SP X pins D) X.xe t4) X.xe { s' with heap := hA } := by
        rw [hf]
        exact HandSPX.setFlight_upZ flA fun hD held upD => wpAny_throw (tk _ _ ⟨a, B, sI, pins, σ', H', .ref C, d, rfl, J, nb, (up.trans upA).trans upD, .inr (.inr (by rw [hs]; exact held)), na, os, ag, no rfl⟩)
      first | exact wpAny_bind (wpAny_pure (wpAny_bind fly)) | exact wpAny_bind fly
end
end L2


/-! raise C(..) where C's own __init__ writes no attribute -/
namespace L2
open PySem PySem.Spec PyProof.Rows
section
variable {X : Cx} {o e : Expr} {es : List Expr} {to te : TE} {ta : TA} {f : Str} {p p' p1 p2 pos : Pos}
/-- C(e, ..), C's own __init__ keeping sp; no attribute is written -/
def tMkO0 (C : Addr) (sp : Sp) (dvs : List V) (ta : TA) : St → Hp → XK → Prop := fun σ H Q => ta σ H fun vs H1 => vs.length ≤ 1000 ∧ ∀ a, H1 a = none → sp (.ref a :: (vs ++ dvs)) (upd H1 a (exo a C none))
  (fun v H2 => v = .non ∧ H2 a = some (exo a C none) ∧ Q (.ref C) none (del H2 a)) (fun _ _ _ => False)
variable {CX : CXT} {x : Str} {C fI : Addr} {k : Nat} {fd : FuncData} {ps : List Str} {sp : Sp} {ds : List Value} {dvs : List V}
end
end L2


/-! sorted(a dict of texts, key=a lambda of one parameter that gives (int, text)) -/
namespace SrtKy
open PySem PyProof.Rows Srt SrtO
/-- a tuple of a number and a text -/
def IsIS (h : Heap) (v : Value) (x : Int) (z : Str) : Prop := ∃ a o t u n, v = .ref a ∧ h.get? a = some o ∧ o.cls = .type "tuple" ∧ o.data = .seq #[.int x t, .str z u] n
theorem IsIS.keeps {h h' : Heap} {v : Value} {x : Int} {z : Str} (p : IsIS h v x z) (k : ∀ b o, h.get? b = some o → o.cls = .type "tuple" → h'.get? b = some o) : IsIS h' v x z := by
  obtain ⟨a, o, t, u, n, e, ho, hc, hd⟩ := p
  exact ⟨a, o, t, u, n, e, k _ _ ho hc, hc, hd⟩
def isLt (p q : Int × Str) : Bool := if p.1 = q.1 then decide (p.2.cps.toList < q.2.cps.toList) else decide (p.1 < q.1)
section
variable {prog : Program} {w : World} {s : Shared} {A : Around} {E : Value → Shared → Prop}
end
end SrtKy


namespace L2
open PySem PySem.Spec PyProof.Rows
section
variable {X : Cx} {pins : List (Addr × Obj)} {σ : St} {H : Hp} {s : Shared} {h' : Heap}
end
/-- what the keys of the first items are -/
def KysAt (H : Hp) (key : V → Int × Str) (xs : List V) (kA : List Value) : Prop := ∀ (j : Nat) (kv : Value), kA[j]? = some kv → ∃ (t : Addr) (x : V), kv = Value.ref t ∧ xs[j]? = some x ∧ H t = some (.tup [.int (key x).1, .str (key x).2])
theorem KysAt.up {H H' : Hp} {key : V → Int × Str} {xs : List V} {kA : List Value} (h : KysAt H key xs kA) (t : ∀ b ys, H b = some (.tup ys) → H' b = some (.tup ys)) : KysAt H' key xs kA := fun j kv e => by
  obtain ⟨a, x, e1, e2, e3⟩ := h j kv e
  exact ⟨a, x, e1, e2, t _ _ e3⟩
theorem KysAt.snoc {H : Hp} {key : V → Int × Str} {xs : List V} {kA : List Value} {t : Addr} {x : V} (h : KysAt H key xs kA) (hx : xs[kA.length]? = some x) (ht : H t = some (.tup [.int (key x).1, .str (key x).2])) : KysAt H key xs (kA ++ [.ref t]) := fun j kv e => by
  by_cases hj : j < kA.length
  · rw [List.getElem?_append_left hj] at e
    exact h j kv e
  · rw [List.getElem?_append_right (by omega)] at e
    have h0 : j - kA.length = 0 := by
      have := (List.getElem?_eq_some_iff.mp e).1
      rw [List.length_singleton] at this
      omega
    rw [h0] at e
    have e' : Value.ref t = kv := Option.some.inj e
    have : j = kA.length := by omega
    subst this
    exact ⟨t, x, e'.symm, hx, ht⟩
/-- the key that stands at an address -/
def keyOfL (H : Hp) : Value → Int × Str
  | .ref t => match H t with
    | some (.tup [.int n, .str z]) => (n, z)
    | _ => (0, "")
  | _ => (0, "")
theorem keyOfL_at {H : Hp} {t : Addr} {n : Int} {z : Str} (h : H t = some (.tup [.int n, .str z])) : keyOfL H (.ref t) = (n, z) := by
  show (match H t with
    | some (.tup [.int n, .str z]) => (n, z)
    | _ => ((0 : Int), ("" : Str))) = (n, z)
  rw [h]
theorem KysAt.is {X : Cx} {pins : List (Addr × Obj)} {σ : St} {H : Hp} {s : Shared} {key : V → Int × Str} {xs : List V} {kA : List Value} (I : Inv X pins σ H s) (h : KysAt H key xs kA) : ∀ v ∈ kA, SrtKy.IsIS s.heap v (keyOfL H v).1 (keyOfL H v).2 := fun v hv => by
  obtain ⟨j, hj⟩ := List.mem_iff_getElem?.mp hv
  obtain ⟨t, x, rfl, _, e⟩ := h j v hj
  rw [keyOfL_at e]
  obtain ⟨_, its, r, o, ho, hc, n, hd⟩ := I.hok _ _ e
  obtain ⟨u1, u2, rfl, ri, rj⟩ := vals2 r
  obtain ⟨t1, rfl⟩ := ri
  obtain ⟨t2, rfl⟩ := rj
  exact ⟨t, o, t1, t2, n, rfl, ho, hc, hd⟩
section
variable {X : Cx} {pins : List (Addr × Obj)} {σ : St} {H : Hp} {s : Shared}
end
end L2


namespace L2
open PySem PySem.Spec PyProof.Rows LamX NdefX
/-- all that was told stays -/
def HKeep (H H' : Hp) : Prop := ∀ b o, H b = some o → H' b = some o
/-- the lambda as a function of the layer (its body is an expression: none of the statements' field is read) -/
def lamF (X : Cx) (params : Arguments) (scope : Scope) (c' : Addr) : NF := ⟨"<lambda>", X.env.qual ++ "<lambda>", params, [], scope, cloFrom X.env.cells scope.names [], c'⟩
/-- sorted(e, key=lambda ..): js: where the captured names stand among ours -/
def tSortLam (T : List (Addr × Str)) (q : Str) (N : List Str) (js : List Nat) (ta : TA) (tb : TE) : TE := fun σ H Q => ta σ H fun vs H1 => ∃ x : V, vs = [x] ∧ Tabs T H1 ∧ ∀ (c' : Addr) (H2 : Hp), ExtN H1 H2 → Tabs T H2 → H2 c' = some (CodeO c' q) →
  ∃ (a : Addr) (kvs : List (Key × V)) (ks : List Str) (key : Str → Int × Str), x = .ref a ∧ Rd H2 a (.dK kvs) ∧ kvs.map (·.1) = ks.map Sum.inr ∧ ks.length ≤ sizeLine ∧
    (∀ k ∈ ks, ∀ H, HKeep H2 H → tb (startF N [.str k] (js.map (NdefX.slotAt σ))) H fun v H3 => HKeep H H3 ∧ ∃ t, v = .ref t ∧ H3 t = some (.tup [.int (key k).1, .str (key k).2])) ∧
    ∀ (ys : List Str) (H3 : Hp) (p : Addr), ys.Perm ks → ys.Pairwise (fun x y => SrtKy.isLt (key y) (key x) = false) → HKeep H2 H3 → H3 p = none → Q (.ref p) (upd H3 p (.lst (ys.map V.str)))
section
variable {X : Cx}
end
end L2


/-! heaps, lists, texts: what all the laws' proofs share. -/
namespace FT
open PySem L2 TL
abbrev Same (H H' : Hp) : Prop := ∀ b o, H b = some o → H' b = some o
theorem Same.refl {H : Hp} : Same H H := fun _ _ e => e
theorem Same.trans {H H1 H2 : Hp} (a : Same H H1) (b : Same H1 H2) : Same H H2 := fun x o e => b x o (a x o e)
theorem Same.free {H H' : Hp} {p : Addr} (s : Same H H') (n : H' p = none) : H p = none := by
  cases e : H p with
  | none => rfl
  | some o =>
    rw [s p o e] at n
    cases n
theorem Same.sql {K : PySem.W.Frag} {H H' : Hp} {a : Addr} {xs : List V} (e : Same H H') (h : SqL K H a xs) : SqL K H' a xs := by
  rcases h with (h | ⟨o, h⟩) | h
  · exact .inl (.inl (e _ _ h))
  · exact .inl (.inr ⟨o, e _ _ h⟩)
  · exact .inr h
theorem same_new {H : Hp} {p : Addr} {o : HO} (n : H p = none) : Same H (upd H p o) := fun b u e => by
  rw [upd_ne (ne_of_none e n)]
  exact e
theorem Same.put {H H' : Hp} {p : Addr} {o : HO} (s : Same H H') (n : H p = none) : Same H (upd H' p o) := fun b u e => by
  rw [upd_ne (ne_of_none e n)]
  exact s b u e
/-- what the text finds among the module's names -/
structure Nm (mg : Str → Option Value) : Prop where
  abs : mg "abs" = none
  len : mg "len" = none
  rng : mg "range" = none
  enu : mg "enumerate" = none
  zip : mg "zip" = none
  isi : mg "isinstance" = none
  all : mg "all" = none
  srt : mg "sorted" = none
  lst : mg "list" = none
  dct : mg "dict" = none
  str : mg "str" = none
  int : mg "int" = none
  tup : mg "tuple" = none
  sum : mg "sum" = none
  min : mg "min" = none
  max : mg "max" = none
  rep : mg "repr" = none
  bool : mg "bool" = none
  any : mg "any" = none
  vE : mg "ValueError" = none
theorem take_more {α : Type} {l : List α} {i : Nat} {x : α} (h : l[i]? = some x) : l.take (i + 1) = l.take i ++ [x] := by
  rw [List.take_succ, h] <;> rfl
theorem cut_ints (ns : List Int) (lo hi : Option Int) : ∃ ms : List Int, cutV (ns.map V.int) lo hi = ms.map V.int ∧ ms.length ≤ ns.length := by
  unfold cutV
  generalize HT.sIx (ns.map V.int).length 0 lo = i
  generalize HT.sIx (ns.map V.int).length (ns.map V.int).length hi = j
  refine ⟨(ns.drop i).take (j - i), by rw [List.map_take, List.map_drop], ?_⟩
  rw [List.length_take, List.length_drop]
  omega
theorem cut_take {xs : List V} {j : Nat} (h : j ≤ xs.length) : cutV xs none (some (j : Int)) = xs.take j := by
  have e : HT.sIx xs.length xs.length (some (j : Int)) = min j xs.length := HT.sIx_nat _ _ j
  show (xs.drop 0).take (HT.sIx xs.length xs.length (some (j : Int)) - 0) = xs.take j
  rw [e, List.drop_zero, Nat.sub_zero, Nat.min_eq_left h]
theorem map_at {α : Type} {f : α → V} {cells : List α} {j : Nat} {z : α} (h : cells[j]? = some z) : (cells.map f)[j]? = some (f z) := by
  rw [List.getElem?_map, h] <;> rfl
theorem map_of {α : Type} {f : α → V} {l : List α} {j : Nat} {x : V} (h : (l.map f)[j]? = some x) : ∃ z, l[j]? = some z ∧ x = f z := by
  rw [List.getElem?_map] at h
  obtain ⟨z, hz, rfl⟩ := Option.map_eq_some_iff.mp h
  exact ⟨z, hz, rfl⟩
theorem ixN_nat {n j : Nat} (h : j < n) : ixN n (j : Int) = some j := by
  unfold ixN
  rw [if_pos (by omega), if_pos (by omega)]
  simp
theorem map_erase {α β : Type} (f : α → β) : ∀ (l : List α) (i : Nat), (l.map f).eraseIdx i = (l.eraseIdx i).map f
  | [], _ => rfl
  | _ :: _, 0 => rfl
  | a :: l, i + 1 => congrArg (List.cons (f a)) (map_erase f l i)
theorem erase_perm {α : Type} : ∀ (l : List α) (i : Nat) (h : i < l.length), (l[i] :: l.eraseIdx i).Perm l
  | [], _, h => absurd h (Nat.not_lt_zero _)
  | _ :: _, 0, _ => .refl _
  | a :: l, i + 1, h => (List.Perm.swap a _ _).trans ((erase_perm l i (Nat.lt_of_succ_lt_succ h)).cons a)
/-- how many items stand there -/
def many (H : Hp) (a : Addr) : Nat := match H a with
  | some (.lst xs) => xs.length
  | _ => 0
theorem many_at {H : Hp} {a : Addr} {xs : List V} (h : H a = some (.lst xs)) : many H a = xs.length := by
  unfold many
  rw [h]
theorem items_strs {Pz : Str → Prop} {ws : List Str} (h : ∀ z ∈ ws, Pz z) : ∀ (i : Nat) (x : V), (ws.map V.str)[i]? = some x → ∃ z, x = .str z ∧ Pz z := fun i x e => by
  obtain ⟨z, hz, rfl⟩ := map_of e
  exact ⟨z, rfl, h z (List.mem_of_getElem? hz)⟩
theorem inV_strs (x : Str) : ∀ fs : List Str, inV (.str x) (fs.map V.str) = decide (x ∈ fs)
  | [] => rfl
  | y :: fs => by
    show (eqV (.str y) (.str x) || inV (.str x) (fs.map V.str)) = _
    rw [inV_strs x fs]
    have e : eqV (.str y) (.str x) = decide (x = y) := by
      show (y == x) = decide (x = y)
      rw [Bool.eq_iff_iff, beq_iff_eq, decide_eq_true_eq]
      exact eq_comm
    rw [e, Bool.eq_iff_iff]
    simp only [Bool.or_eq_true, decide_eq_true_eq, List.mem_cons]
theorem flat_strs : ∀ fs : List Str, (fs.map V.str).all flatV = true
  | [] => rfl
  | _ :: fs => flat_strs fs
/-! ### texts -/
/-- a name: letters, one to eight, not self -/
def NameL (z : Str) : Prop := (∀ c ∈ tl z, 97 ≤ c ∧ c ≤ 122) ∧ 1 ≤ (tl z).length ∧ (tl z).length ≤ 8 ∧ z ≠ "self"
instance (z : Str) : Decidable (NameL z) := by unfold NameL; infer_instance
theorem NameL.len {z : Str} (h : NameL z) : 1 ≤ z.length ∧ z.length ≤ 8 := by
  rw [len_tl]
  exact ⟨h.2.1, h.2.2.1⟩
theorem NameL.self {z : Str} (h : NameL z) : z ≠ "self" := h.2.2.2
theorem NameL.ne {z : Str} (h : NameL z) : z ≠ "" := fun e => by
  subst e
  have := h.2.1
  revert this
  decide +kernel
/-! ### order -/
theorem rising_all : ∀ (l : List Str) (p : Str), PyProof.Rows.risingS p l = true → (∀ y ∈ l, tl p ≤ tl y) ∧ l.Pairwise (fun a b => tl a ≤ tl b)
  | [], p, _ => ⟨fun y h => (by cases h), List.Pairwise.nil⟩
  | x :: r, p, h => by
    have h' : (!PySem.Spec.ltCps x.cps.toList p.cps.toList && PyProof.Rows.risingS x r) = true := h
    rw [Bool.and_eq_true, PyProof.Rows.ltCps_eq] at h'
    obtain ⟨h1, h2⟩ := h'
    have px : tl p ≤ tl x := by
      show ¬ (tl x < tl p)
      intro z
      rw [decide_eq_true z] at h1
      cases h1
    obtain ⟨i1, i2⟩ := rising_all r x h2
    refine ⟨fun y hy => ?_, List.pairwise_cons.mpr ⟨i1, i2⟩⟩
    rcases List.mem_cons.mp hy with rfl | hy
    · exact px
    · exact List.le_trans px (i1 y hy)
theorem sorted_pw {l : List Str} (h : PyProof.Rows.sortedS l = true) : l.Pairwise (fun a b => tl a ≤ tl b) := by
  cases l with
  | nil => exact .nil
  | cons x r =>
    obtain ⟨i1, i2⟩ := rising_all r x h
    exact List.pairwise_cons.mpr ⟨i1, i2⟩
/-- one order of the same texts -/
theorem sorted_one {l m : List Str} (p : l.Perm m) (hl : PyProof.Rows.sortedS l = true) (hm : PyProof.Rows.sortedS m = true) : l = m :=
  List.Perm.eq_of_pairwise (le := fun a b => tl a ≤ tl b) (fun a b _ _ h1 h2 => ext_tl (List.le_antisymm h1 h2)) (sorted_pw hl) (sorted_pw hm) p
/-! ### comprehensions of dicts, locks -/
/-- a dict comprehension over a walk: Pv by the turn and the heap (the new dict at D within) -/
theorem dc_it {J : It} {n : Nat} {G : Hp → Prop} {Y : Nat → Hp → V → Hp → Prop} (w : Walk J n G Y) {g : TG} {tt : TT} {tk tv : TE} {vs : List Nat} {σ : St} {H1 : Hp} {D : Addr} {Qd : Hp → Prop} (Pv : Nat → Hp → Prop) (h0 : Pv 0 (upd H1 D (.dK []))) (hG : ∀ i H, i ≤ n → Pv i H → G H)
    (hs : ∀ i x H H', i < n → Pv i H → Y i H x H' → g x (wipe σ vs) H' fun σ2 H2 => wipe σ2 vs = wipe σ vs ∧ tt σ2 H2 fun b H3 =>
      if b = true then tk σ2 H3 fun y H4 => tv σ2 H4 fun z H5 => ∃ kvs k, y = kV k ∧ H5 D = some (.dK kvs) ∧ kvs.length < sizeLine ∧ Pv (i + 1) (upd H5 D (.dK (putK kvs k z))) else Pv (i + 1) H3) (hd : ∀ H, Pv n H → Qd H) :
    ∃ W : Nat → Nat → Hp → Prop, (∃ m, W 0 m (upd H1 D (.dK []))) ∧ ∀ i m H, W i m H →
      (J.stop i H ∧ Qd H) ∨ (J.go i H ∧ ∃ Nx : Hp → Prop, (∀ H', Nx H' → ∃ m', m' < m ∧ W (i + 1) m' H') ∧ ∀ x H', J.yld i H x H' → g x (wipe σ vs) H' fun σ2 H2 => wipe σ2 vs = wipe σ vs ∧ tt σ2 H2 fun b H3 =>
        if b = true then tk σ2 H3 fun y H4 => tv σ2 H4 fun z H5 => ∃ kvs k, y = kV k ∧ H5 D = some (.dK kvs) ∧ kvs.length < sizeLine ∧ Nx (upd H5 D (.dK (putK kvs k z))) else Nx H3) := by
  refine ⟨fun i m H => m = n - i ∧ i ≤ n ∧ Pv i H, ⟨n, by simp, Nat.zero_le _, h0⟩, fun i m H ⟨em, hi, p⟩ => ?_⟩
  have gh := hG i H hi p
  rcases Nat.lt_or_ge i n with lt | ge
  · exact .inr ⟨w.goes i H lt gh, Pv (i + 1), fun H' p' => ⟨n - (i + 1), by omega, rfl, lt, p'⟩, fun x H' y => hs i x H H' lt p (w.yields i H x H' lt gh y)⟩
  · have ei : i = n := by omega
    subst ei
    exact .inl ⟨w.stops H gh, hd H p⟩
theorem unlock_same {H H' : Hp} {q : Addr} {u : HO} {o : Obj} (e : H q = some u) (s : Same (upd H q (.frz o u)) H') : Same H (upd H' q u) := fun b x h => by
  by_cases z : b = q
  · subst z
    rw [upd_same]
    exact e.symm.trans h |>.symm ▸ rfl
  · rw [upd_ne z]
    exact s b x (by rw [upd_ne z]; exact h)
/-! ### dicts with text keys, by any values -/
/-- a dict of values by texts -/
def kvT (t : List (Str × V)) : List (Key × V) := t.map fun p => (Sum.inr p.1, p.2)
theorem kvT_len (t : List (Str × V)) : (kvT t).length = t.length := by unfold kvT; rw [List.length_map]
theorem kvT_app (t : List (Str × V)) (f : Str) (z : V) : kvT t ++ [(Sum.inr f, z)] = kvT (t ++ [(f, z)]) := by
  unfold kvT
  rw [List.map_append] <;> rfl
theorem kvT_any (t : List (Str × V)) (f : Str) : ((kvT t).any fun kv => decide (kv.1 = Sum.inr f)) = decide (f ∈ t.map Prod.fst) := by
  induction t with
  | nil => rfl
  | cons p t ih =>
    show (decide ((Sum.inr p.1 : Key) = Sum.inr f) || ((kvT t).any fun kv => decide (kv.1 = Sum.inr f))) = _
    rw [ih, Bool.eq_iff_iff]
    simp only [Bool.or_eq_true, decide_eq_true_eq, List.map_cons, List.mem_cons]
    constructor
    · rintro (h | h)
      · exact .inl (Sum.inr.inj h).symm
      · exact .inr h
    · rintro (h | h)
      · exact .inl (by rw [h])
      · exact .inr h
theorem kvT_put {t : List (Str × V)} {f : Str} {z : V} (n : f ∉ t.map Prod.fst) : putK (kvT t) (Sum.inr f) z = kvT (t ++ [(f, z)]) := by
  unfold putK
  rw [kvT_any, decide_eq_false n, if_neg (by decide), kvT_app]
/-- the value of a key -/
def look (t : List (Str × V)) (f : Str) : Option V := (t.find? fun p => decide (p.1 = f)).map Prod.snd
theorem look_cons (p : Str × V) (t : List (Str × V)) (f : Str) : look (p :: t) f = if p.1 = f then some p.2 else look t f := by
  unfold look
  rw [List.find?_cons]
  by_cases e : p.1 = f
  · rw [if_pos e, decide_eq_true e] <;> rfl
  · rw [if_neg e, decide_eq_false e]
theorem kvT_val : ∀ (t : List (Str × V)) (f : Str), valV (kvT t) (Sum.inr f) = look t f
  | [], f => rfl
  | p :: t, f => by
    rw [look_cons]
    by_cases e : p.1 = f
    · rw [if_pos e]
      exact valV_pos (by show (Sum.inr p.1 : Key) = Sum.inr f; rw [e])
    · rw [if_neg e]
      exact (valV_neg (p := (Sum.inr p.1, p.2)) (fun z => e (Sum.inr.inj z))).trans (kvT_val t f)
theorem look_none {t : List (Str × V)} {f : Str} (n : f ∉ t.map Prod.fst) : look t f = none := by
  induction t with
  | nil => rfl
  | cons p t ih =>
    rw [List.map_cons, List.mem_cons] at n
    rw [look_cons, if_neg (fun e => n (.inl e.symm))]
    exact ih fun m => n (.inr m)
theorem look_some {t : List (Str × V)} {f : Str} (h : f ∈ t.map Prod.fst) : ∃ v, look t f = some v := by
  induction t with
  | nil => cases h
  | cons p t ih =>
    rw [look_cons]
    by_cases e : p.1 = f
    · exact ⟨_, if_pos e⟩
    · rw [if_neg e]
      exact ih ((List.mem_cons.mp h).resolve_left fun z => e z.symm)
theorem look_has {t : List (Str × V)} {f : Str} : (look t f).isSome = decide (f ∈ t.map Prod.fst) := by
  by_cases h : f ∈ t.map Prod.fst
  · obtain ⟨v, e⟩ := look_some h
    rw [e, decide_eq_true h] <;> rfl
  · rw [look_none h, decide_eq_false h] <;> rfl
/-- a key's value, written anew -/
def putT (t : List (Str × V)) (f : Str) (z : V) : List (Str × V) := if f ∈ t.map Prod.fst then t.map fun p => if p.1 = f then (p.1, z) else p else t ++ [(f, z)]
theorem kvT_putT (t : List (Str × V)) (f : Str) (z : V) : putK (kvT t) (Sum.inr f) z = kvT (putT t f z) := by
  by_cases h : f ∈ t.map Prod.fst
  · unfold putK putT
    rw [kvT_any, decide_eq_true h, if_pos rfl, if_pos h]
    unfold kvT
    rw [List.map_map, List.map_map]
    refine List.map_congr_left fun p _ => ?_
    show (if (Sum.inr p.1 : Key) = Sum.inr f then ((Sum.inr p.1 : Key), z) else (Sum.inr p.1, p.2)) = (Sum.inr (if p.1 = f then (p.1, z) else p).1, (if p.1 = f then (p.1, z) else p).2)
    by_cases e : p.1 = f
    · rw [if_pos e, if_pos (by rw [e])]
    · rw [if_neg e, if_neg fun q => e (Sum.inr.inj q)]
  · rw [kvT_put h]
    unfold putT
    rw [if_neg h]
end FT


/-! forests as pairs of a flag and its parent, in any order. -/
namespace FT
open PySem L2 TL
/-- a dict of texts by texts -/
def prs (t : List (Str × Str)) : List (Key × V) := kvT (t.map fun p => (p.1, V.str p.2))
theorem prs_len (t : List (Str × Str)) : (prs t).length = t.length := by unfold prs; rw [kvT_len, List.length_map]
theorem prs_fst (t : List (Str × Str)) : (t.map fun p => (p.1, V.str p.2)).map Prod.fst = t.map Prod.fst := by rw [List.map_map] <;> rfl
theorem prs_keys (t : List (Str × Str)) : (prs t).map (·.1) = (t.map Prod.fst).map Sum.inr := by unfold prs kvT; rw [List.map_map, List.map_map, List.map_map] <;> rfl
theorem put_new {t : List (Str × Str)} {f z : Str} (n : f ∉ t.map Prod.fst) : putK (prs t) (Sum.inr f) (V.str z) = prs (t ++ [(f, z)]) := by
  unfold prs
  rw [kvT_put (by rw [prs_fst]; exact n), List.map_append] <;> rfl
/-- the parent of a flag -/
def par (t : List (Str × Str)) (a : Str) : Option Str := (t.find? fun p => decide (p.1 = a)).map Prod.snd
theorem par_cons (p : Str × Str) (t : List (Str × Str)) (a : Str) : par (p :: t) a = if p.1 = a then some p.2 else par t a := by
  unfold par
  rw [List.find?_cons]
  by_cases e : p.1 = a
  · rw [if_pos e, decide_eq_true e] <;> rfl
  · rw [if_neg e, decide_eq_false e]
theorem val_prs (a : Str) : ∀ t : List (Str × Str), valV (prs t) (Sum.inr a) = (par t a).map V.str
  | [] => rfl
  | p :: t => by
    have ih := val_prs a t
    unfold prs at ih ⊢
    rw [List.map_cons, kvT_val, look_cons, par_cons]
    rw [kvT_val] at ih
    by_cases e : p.1 = a
    · rw [if_pos e, if_pos e] <;> rfl
    · rw [if_neg e, if_neg e, ih]
theorem par_mem {t : List (Str × Str)} {a z : Str} (h : par t a = some z) : (a, z) ∈ t := by
  induction t with
  | nil => cases h
  | cons p t ih =>
    rw [par_cons] at h
    by_cases e : p.1 = a
    · rw [if_pos e] at h
      cases h
      exact List.mem_cons.mpr (.inl (by rw [← e]))
    · rw [if_neg e] at h
      exact List.mem_cons_of_mem _ (ih h)
theorem par_of {t : List (Str × Str)} {a z : Str} (nd : (t.map Prod.fst).Nodup) (h : (a, z) ∈ t) : par t a = some z := by
  induction t with
  | nil => cases h
  | cons p t ih =>
    obtain ⟨n1, n2⟩ := List.nodup_cons.mp nd
    rw [par_cons]
    rcases List.mem_cons.mp h with e | h
    · subst e
      exact if_pos rfl
    · rw [if_neg fun e => n1 (by rw [e]; exact List.mem_map.mpr ⟨_, h, rfl⟩)]
      exact ih n2 h
theorem par_none {t : List (Str × Str)} {a : Str} (n : a ∉ t.map Prod.fst) : par t a = none := by
  cases e : par t a with
  | none => rfl
  | some z => exact absurd (List.mem_map.mpr ⟨_, par_mem e, rfl⟩) n
theorem par_some {t : List (Str × Str)} {a : Str} (nd : (t.map Prod.fst).Nodup) (h : a ∈ t.map Prod.fst) : ∃ z, par t a = some z := by
  obtain ⟨p, hp, rfl⟩ := List.mem_map.mp h
  exact ⟨p.2, par_of nd hp⟩
theorem par_perm {t u : List (Str × Str)} (nd : (t.map Prod.fst).Nodup) (p : t.Perm u) (a : Str) : par t a = par u a := by
  cases e : par t a with
  | some v => exact (par_of ((p.map _).nodup_iff.mp nd) (p.mem_iff.mp (par_mem e))).symm
  | none =>
    cases e2 : par u a with
    | none => rfl
    | some v =>
      have := par_of nd (p.mem_iff.mpr (par_mem e2))
      rw [e] at this
      cases this
/-- each parent has a lower rank -/
def Rk (t : List (Str × Str)) (rk : Str → Nat) : Prop := ∀ p ∈ t, rk p.1 < t.length ∧ (p.2 = "" ∨ (p.2 ∈ t.map Prod.fst ∧ rk p.2 < rk p.1))
/-- a forest of one to twelve flags -/
structure TreeOk (t : List (Str × Str)) : Prop where
  one : 1 ≤ t.length
  few : t.length ≤ 12
  nd : (t.map Prod.fst).Nodup
  nm : ∀ z ∈ t.map Prod.fst, NameL z
  up : ∃ rk : Str → Nat, Rk t rk
theorem TreeOk.perm {t u : List (Str × Str)} (p : t.Perm u) (o : TreeOk t) : TreeOk u := by
  obtain ⟨rk, hr⟩ := o.up
  have l := p.length_eq
  refine ⟨by have := o.one; omega, by have := o.few; omega, (p.map _).nodup_iff.mp o.nd, fun z h => o.nm z ((p.map _).mem_iff.mpr h), rk, fun q hq => ?_⟩
  obtain ⟨h1, h2⟩ := hr q (p.mem_iff.mpr hq)
  exact ⟨by omega, h2.imp id fun h => ⟨(p.map _).mem_iff.mp h.1, h.2⟩⟩
theorem TreeOk.root {t : List (Str × Str)} (o : TreeOk t) : ("" : Str) ∉ t.map Prod.fst := fun h => (o.nm _ h).ne rfl
/-- the step up -/
theorem TreeOk.step {t : List (Str × Str)} (o : TreeOk t) {rk : Str → Nat} (r : Rk t rk) {a : Str} (h : a ∈ t.map Prod.fst) : ∃ p : Str, par t a = some p ∧ (p = "" ∨ (p ∈ t.map Prod.fst ∧ rk p < rk a)) ∧ rk a < t.length := by
  obtain ⟨z, hz⟩ := par_some o.nd h
  obtain ⟨h1, h2⟩ := r _ (par_mem hz)
  exact ⟨z, hz, h2, h1⟩
/-! ### paths -/
/-- the flags from the top down to a place; n bounds the steps -/
def upN (t : List (Str × Str)) : Nat → Str → List Str
  | 0, _ => []
  | n + 1, a => if a = "" then [] else upN t n ((par t a).getD "") ++ [a]
def pathOf (t : List (Str × Str)) (a : Str) : List Str := upN t t.length a
/-- a place: the root or a flag -/
def Pl (t : List (Str × Str)) (a : Str) : Prop := a = "" ∨ a ∈ t.map Prod.fst
theorem upN_root (t : List (Str × Str)) (n : Nat) : upN t n "" = [] := by
  cases n with
  | zero => rfl
  | succ n => exact if_pos rfl
theorem upN_eq {t : List (Str × Str)} (o : TreeOk t) {rk : Str → Nat} (r : Rk t rk) : ∀ (n m : Nat) (a : Str), Pl t a → (a ≠ "" → rk a < n) → (a ≠ "" → rk a < m) → upN t n a = upN t m a := by
  intro n
  induction n with
  | zero =>
    intro m a hp h1 h2
    by_cases e : a = ""
    · subst e
      rw [upN_root, upN_root]
    · exact absurd (h1 e) (Nat.not_lt_zero _)
  | succ n ih =>
    intro m a hp h1 h2
    by_cases e : a = ""
    · subst e
      rw [upN_root, upN_root]
    · cases m with
      | zero => exact absurd (h2 e) (Nat.not_lt_zero _)
      | succ m =>
        obtain ⟨p, ep, hp2, _⟩ := o.step r (hp.resolve_left e)
        have q1 := h1 e
        have q2 := h2 e
        show (if a = "" then [] else upN t n ((par t a).getD "") ++ [a]) = if a = "" then [] else upN t m ((par t a).getD "") ++ [a]
        rw [if_neg e, if_neg e, ep]
        show upN t n p ++ [a] = upN t m p ++ [a]
        rw [ih m p (hp2.imp id And.left) (fun z => by have := (hp2.resolve_left z).2; omega) (fun z => by have := (hp2.resolve_left z).2; omega)]
theorem path_root (t : List (Str × Str)) : pathOf t "" = [] := upN_root _ _
theorem path_step {t : List (Str × Str)} (o : TreeOk t) {a p : Str} (h : a ∈ t.map Prod.fst) (e : par t a = some p) : pathOf t a = pathOf t p ++ [a] := by
  obtain ⟨rk, r⟩ := o.up
  have ne : a ≠ "" := fun z => o.root (by rw [← z]; exact h)
  obtain ⟨p', e', hp, la⟩ := o.step r h
  cases e.symm.trans e'
  have lt := o.one
  obtain ⟨n, hn⟩ : ∃ n, t.length = n + 1 := ⟨t.length - 1, by omega⟩
  unfold pathOf
  rw [hn]
  show (if a = "" then [] else upN t n ((par t a).getD "") ++ [a]) = _
  rw [if_neg ne, e]
  show upN t n p ++ [a] = _
  rw [upN_eq o r n (n + 1) p (hp.imp id And.left) (fun z => by have := (hp.resolve_left z).2; omega) (fun z => by have := (hp.resolve_left z).2; omega)]
theorem upN_len (t : List (Str × Str)) : ∀ (n : Nat) (a : Str), (upN t n a).length ≤ n
  | 0, _ => Nat.le_refl _
  | n + 1, a => by
    show (if a = "" then [] else upN t n ((par t a).getD "") ++ [a]).length ≤ n + 1
    by_cases e : a = ""
    · rw [if_pos e]
      exact Nat.zero_le _
    · rw [if_neg e, List.length_append]
      have := upN_len t n ((par t a).getD "")
      show _ + 1 ≤ n + 1
      omega
theorem path_len (t : List (Str × Str)) (a : Str) : (pathOf t a).length ≤ t.length := upN_len _ _ _
/-! ### sums over children -/
/-- the sum of sizes of the children of a place -/
def kids (t : List (Str × Str)) (p : Str) : List Str := (t.filter fun q => decide (q.2 = p)).map Prod.fst
def resid (t : List (Str × Str)) (n : Int) (sz : Str → Int) (p : Str) : Int := (if p = "" then n else sz p) - ((kids t p).map sz).sum
theorem kids_snoc (t : List (Str × Str)) (q : Str × Str) (p : Str) : kids (t ++ [q]) p = kids t p ++ (if q.2 = p then [q.1] else []) := by
  unfold kids
  rw [List.filter_append, List.map_append]
  by_cases e : q.2 = p
  · rw [if_pos e, List.filter_cons, decide_eq_true e, List.filter_nil] <;> rfl
  · rw [if_neg e, List.filter_cons, decide_eq_false e, List.filter_nil] <;> rfl
theorem kids_perm {t u : List (Str × Str)} (h : t.Perm u) (p : Str) : (kids t p).Perm (kids u p) := (h.filter _).map _
theorem sum_perm {l m : List Int} (h : l.Perm m) : l.sum = m.sum := by
  induction h with
  | nil => rfl
  | cons x _ ih => rw [List.sum_cons, List.sum_cons, ih]
  | swap x y l => rw [List.sum_cons, List.sum_cons, List.sum_cons, List.sum_cons]; omega
  | trans _ _ a b => rw [a, b]
theorem resid_perm {t u : List (Str × Str)} (h : t.Perm u) (n : Int) (sz : Str → Int) (p : Str) : resid t n sz p = resid u n sz p := by
  unfold resid
  rw [sum_perm ((kids_perm h p).map sz)]
theorem resid_snoc (t : List (Str × Str)) (q : Str × Str) (n : Int) (sz : Str → Int) (p : Str) : resid (t ++ [q]) n sz p = if q.2 = p then resid t n sz p - sz q.1 else resid t n sz p := by
  unfold resid
  rw [kids_snoc]
  by_cases e : q.2 = p
  · rw [if_pos e, if_pos e, List.map_append, List.sum_append]
    show _ - (_ + (sz q.1 + 0)) = _
    omega
  · rw [if_neg e, if_neg e, List.append_nil]
end FT


namespace FT
open PySem L2 TL ClX
def letters : Str := "abcdefghijklmnopqrstuvwxyz"
theorem in_letters {c : Nat} (h0 : 97 ≤ c) (h1 : c ≤ 122) : c ∈ letters.cps.toList := by
  have all : ∀ i : Fin 26, (97 + i.1) ∈ letters.cps.toList := by decide +kernel
  have q := all ⟨c - 97, by omega⟩
  rw [show 97 + (⟨c - 97, by omega⟩ : Fin 26).1 = c by show 97 + (c - 97) = c; omega] at q
  exact q
/-- the module's own constants -/
structure Cs (mg : Str → Option Value) : Prop where
  long : ∃ t, mg "LONGEST" = some (.int 8 t)
  lett : ∃ t, mg "LETTERS" = some (.str letters t)
/-- the class Forest: its two constants -/
structure Fc (K : PySem.W.Frag) (mg : Str → Option Value) (CF : Addr) (mc : Value) : Prop where
  gF : mg "Forest" = some (.ref CF)
  rd : CRead K CF mc
  most : ∃ u, CVal K CF mc "MOST" (.int 12) u
  root : ∃ u, CVal K CF mc "ROOT" (.str "") u
/-- one of the text's defs, called by place -/
structure Dn (P : Program) (w : World) (K : PySem.W.Frag) (mg : Str → Option Value) (base : Heap) (CX : CXT) (k : Nat) (x : Str) (ps : List Str) (sp : Sp) (f : Addr) (fd : FuncData) : Prop where
  ok : FnOk P w K mg base CX k f fd ps sp
  kp : PySem.W.keepIn K (.ref f) = true
  bn : Binds K fd ps []
  mgn : mg x = some (.ref f)
def spIsName : Sp := fun vs H Q _ => ∃ z : Str, vs = [.str z] ∧ NameL z ∧ ∀ H', Same H H' → Q (.bl true) H'
def spIsAnc : Sp := fun vs H Q _ => ∃ (q : Addr) (f : Str) (t : List (Str × Str)), vs = [.ref q, .str f] ∧ H q = some (.dK (prs t)) ∧ TreeOk t ∧ f ∈ t.map Prod.fst ∧ ∀ H', Same H H' → Q (.bl false) H'
def spNeed : Sp := fun vs H Q _ => ∃ (q : Addr) (t : List (Str × Str)), vs = [.ref q] ∧ H q = some (.dK (prs t)) ∧ TreeOk t ∧ ∀ H', Same H H' → Q .non H'
section
variable {P : Program} {w : World} {K : PySem.W.Frag} {mg : Str → Option Value} {base : Heap}
theorem scIsName : FnScope ["value", "letter"] ["value"] (defScope s_is_name) := ⟨rfl, rfl, rfl, by decide +kernel, rfl, by decide +kernel, by decide +kernel⟩
def rankS (t : List (Str × Str)) (rk : Str → Nat) (σ : St) : Nat := match σ[3]? with
  | some (some (V.str a)) => if a ∈ t.map Prod.fst then rk a + 1 else 0
  | _ => 0
theorem scIsAnc : FnScope ["parents", "name", "seen", "above"] ["parents", "name"] (defScope s_is_ancestor) := ⟨rfl, rfl, rfl, by decide +kernel, rfl, by decide +kernel, by decide +kernel⟩
theorem scNeed : FnScope ["parents", "name", "above", "other"] ["parents"] (defScope s_need_parents) := ⟨rfl, rfl, rfl, by decide +kernel, rfl, by decide +kernel, by decide +kernel⟩
/-! ### Forest -/
/-- a forest at x, its pairs ts -/
def FAt (CF : Addr) (H : Hp) (x : Addr) (ts : List (Str × Str)) : Prop := ∃ dx dq, H x = some (.ins CF dx [("above", .ref dq)]) ∧ H dq = some (.dK (prs ts))
theorem FAt.mono {CF x : Addr} {H H' : Hp} {ts : List (Str × Str)} (s : Same H H') (h : FAt CF H x ts) : FAt CF H' x ts := let ⟨dx, dq, e1, e2⟩ := h; ⟨dx, dq, s _ _ e1, s _ _ e2⟩
/-- in ascending order -/
def Asc (ts : List (Str × Str)) : Prop := PyProof.Rows.sortedS (ts.map Prod.fst) = true
/-- facts of a class of the text -/
structure FoC (K : PySem.W.Frag) (CF : Addr) : Prop where
  cl : Cls K CF
  nA : NoAttr K CF "above"
def spFInit (CF : Addr) : Sp := fun vs H Q _ => ∃ (x q dx : Addr) (t : List (Str × Str)), vs = [.ref x, .ref q] ∧ H x = some (.ins CF dx []) ∧ H q = some (.dK (prs t)) ∧ TreeOk t ∧
  ∀ (H' : Hp) (ts : List (Str × Str)), ts.Perm t → Asc ts → FAt CF H' x ts → (∀ b o, b ≠ x → H b = some o → H' b = some o) → Q .non H'
def spFFlags (CF : Addr) : Sp := fun vs H Q _ => ∃ (x : Addr) (ts : List (Str × Str)), vs = [.ref x] ∧ FAt CF H x ts ∧ ∀ p, H p = none → Q (.ref p) (upd H p (.lst ((ts.map Prod.fst).map V.str)))
def spFParents (CF : Addr) : Sp := fun vs H Q _ => ∃ (x : Addr) (ts : List (Str × Str)), vs = [.ref x] ∧ FAt CF H x ts ∧ ∀ p, H p = none → Q (.ref p) (upd H p (.dK (prs ts)))
theorem scFInit : FnScope ["self", "parents", "name"] ["self", "parents"] (defScope s_Forest___init__) := ⟨rfl, rfl, rfl, by decide +kernel, rfl, by decide +kernel, by decide +kernel⟩
theorem perm_pairs : ∀ {ts t : List (Str × Str)}, (t.map Prod.fst).Nodup → (ts.map Prod.fst).Perm (t.map Prod.fst) → (∀ p ∈ ts, p ∈ t) → ts.Perm t
  | [], t, _, pf, _ => by
    have := pf.length_eq
    rw [List.length_map, List.length_map] at this
    rw [List.length_eq_zero_iff.mp (this.symm : t.length = 0)]
  | p :: ts, t, nd, pf, h => by
    have mp := h p (List.mem_cons_self ..)
    have pe := List.perm_cons_erase mp
    have pk : (ts.map Prod.fst).Perm ((t.erase p).map Prod.fst) := (pf.trans (pe.map Prod.fst)).cons_inv
    have nk := (pe.map Prod.fst).nodup_iff.mp nd
    obtain ⟨n1, n2⟩ := List.nodup_cons.mp (show (p.1 :: (t.erase p).map Prod.fst).Nodup from nk)
    refine ((perm_pairs n2 pk fun q hq => ?_).cons p).trans pe.symm
    rcases List.mem_cons.mp (pe.mem_iff.mp (h q (List.mem_cons_of_mem _ hq))) with e | m
    · exfalso
      refine n1 (pk.mem_iff.mp (List.mem_map.mpr ⟨q, hq, ?_⟩))
      rw [e]
    · exact m
theorem scFParents : FnScope ["self"] ["self"] (defScope s_Forest_parents) := ⟨rfl, rfl, rfl, by decide +kernel, rfl, by decide +kernel, by decide +kernel⟩
theorem ok_fparents {f CF : Addr} {fd : FuncData} (F : Fun K "parents" "Forest.parents" s_Forest_parents f fd) (T : Nm mg) (O : FoC K CF) : FnOk P w K mg base CX0 1 f fd ["self"] (spFParents CF) := by
  refine F.ok scFParents (fun vs H Q E h => ?_) (fun cdv A outer s H vs Q E hr h => ?_)
  · obtain ⟨x, ts, rfl, _⟩ := h
    rfl
  · obtain ⟨x, ts, rfl, ⟨dx, dq, hx, hd⟩, k⟩ := h
    refine ⟨_, pss_one (ps_ret (pe_callTy call_dictD (by rfl) T.dct (by decide +kernel) (pa_cons (pe_fld (pv 0) rfl) pa_nil))), ?_⟩
    exact ⟨_, rfl, x, CF, dx, _, .ref dq, rfl, hx, O.cl, O.nA, rfl, dq, prs ts, rfl, .inl hd, fun p np => k p np⟩
/-- a property of a class -/
structure Pr1 (P : Program) (w : World) (K : PySem.W.Frag) (mg : Str → Option Value) (base : Heap) (CF : Addr) (x : Str) (sp : Sp) (p g : Addr) (fd : FuncData) : Prop where
  pr : PropOf K CF x p g
  fn : FnOk P w K mg base CX0 1 g fd ["self"] sp
  bn : Binds K fd ["self"] []
def spPlacesOf (CF : Addr) : Sp := fun vs H Q _ => ∃ (x : Addr) (ts : List (Str × Str)), vs = [.ref x] ∧ FAt CF H x ts ∧ ts.length ≤ 12 ∧ ∀ p H', Same H H' → H p = none → H' p = some (.lst ((("" : Str) :: ts.map Prod.fst).map V.str)) → Q (.ref p) H'
end
end FT


/-! the package's errors: their __init__, how they are raised. -/
namespace FT
open PySem L2 TL ClX
/-- what the top has written of an error class at C, its __init__ at I; f its attribute, or the empty text -/
structure Er (K : PySem.W.Frag) (mg : Str → Option Value) (nm f : Str) (C I : Addr) : Prop where
  g : mg nm = some (.ref C)
  x : XCls K C
  ini : PySem.W.findIn K (.ref C) "__init__" = some (some (.ref I))
  ity : PySem.W.typeIn K (.ref I) = some (.type "function")
  no : PySem.W.findIn K (.ref C) f = some none
/-- the base class -/
structure Rt (K : PySem.W.Frag) (mg : Str → Option Value) (R : Addr) : Prop where
  g : mg "RolloutError" = some (.ref R)
  ini : XIni K R
def spInit1 (C : Addr) (f : Str) : Sp := fun vs H Q _ => ∃ (a : Addr) (v : V), vs = [.ref a, v] ∧ H a = some (exo a C none) ∧ ∀ d, H d = none → d ≠ a → Q .non (upd (upd H d (exd d [(f, v)])) a (exo a C (some d)))
def spInit0 (C : Addr) : Sp := fun vs H Q _ => ∃ (a : Addr), vs = [.ref a] ∧ H a = some (exo a C none) ∧ Q .non H
/-- C(v): what is asked -/
theorem raise1 {C : Addr} {f : Str} {H1 : Hp} {Q : XK} {v : V} (k : ∀ d, H1 d = none → Q (.ref C) (some d) (upd H1 d (.xd [(f, v)]))) :
    [v].length ≤ 1000 ∧ ∀ a, H1 a = none → spInit1 C f (.ref a :: ([v] ++ [])) (upd H1 a (exo a C none))
      (fun w H2 => w = .non ∧ ∃ (d : Addr) (fs : List (Str × V)), H2 a = some (exo a C (some d)) ∧ H2 d = some (exd d fs) ∧ H1 d = none ∧ Q (.ref C) (some d) (upd (del H2 a) d (.xd fs))) (fun _ _ _ => False) := by
  refine ⟨by show 1 ≤ 1000; omega, fun a na => ⟨a, v, rfl, upd_same, fun d nd nda => ⟨rfl, d, [(f, v)], upd_same, by rw [upd_ne nda, upd_same], ?_, ?_⟩⟩⟩
  · rw [upd_ne nda] at nd
    exact nd
  · rw [upd_ne nda] at nd
    have e : upd (del (upd (upd (upd H1 a (exo a C none)) d (exd d [(f, v)])) a (exo a C (some d))) a) d (.xd [(f, v)]) = upd H1 d (.xd [(f, v)]) := by
      funext b
      by_cases h1 : b = d
      · subst h1
        rw [upd_same, upd_same]
      · rw [upd_ne h1, upd_ne h1]
        by_cases h2 : b = a
        · subst h2
          rw [del_same, na]
        · rw [del_ne h2, upd_ne h2, upd_ne h1, upd_ne h2]
    rw [e]
    exact k d nd
/-- an error class with its __init__, as a whole: with one value -/
structure Er1 (P : Program) (w : World) (K : PySem.W.Frag) (mg : Str → Option Value) (base : Heap) (nm f : Str) (C I : Addr) (fd : FuncData) : Prop where
  e : Er K mg nm f C I
  fn : FnOk P w K mg base CX0 1 I fd ["self", f] (spInit1 C f)
  bn : Binds K fd ["self", f] []
structure Er0 (P : Program) (w : World) (K : PySem.W.Frag) (mg : Str → Option Value) (base : Heap) (nm : Str) (C I : Addr) (fd : FuncData) : Prop where
  e : Er K mg nm "" C I
  fn : FnOk P w K mg base CX0 1 I fd ["self"] (spInit0 C)
  bn : Binds K fd ["self"] []
section
variable {X : Cx} {W : WX} {nm f : Str} {C I : Addr} {fd : FuncData} {ex : Expr} {te : TE} {p pos pos2 : Pos}
/-- raise C(e) -/
theorem ps_err1 (L : Er1 X.prog X.w X.K X.mg X.base nm f C I fd) (hc : X.calm = true) (tk : Takes X W) (hr : Room 2 X.A) (hg : Gl X nm) (he : PE X ex te) (hdb : (nm == ("__debug__" : Str)) = false := by decide)
    (hse : starEach (ex :: []) X.env = (false, eval ex X.env) :: starEach [] X.env := by rfl) (hpl : (backTo pos (starEach [] X.env)).any (·.1) = false := by rfl) :
    PS X (.Raise (some (.Call (.Name nm p) [ex] [] pos)) none pos2) (fun _ σ H => tMkO C (spInit1 C f) [] (tCons te tNil) σ H fun cls d H' => W cls d σ H') :=
  ps_raise hc tk (pmk_oex L.e.x.oex L.e.ini L.e.ity L.fn hr L.bn .nil (fun _ _ _ _ _ _ _ h => h.elim) hg L.e.g (pa_cons (hs := hse) he pa_nil) hdb hse hpl)
end
end FT


namespace FT
open PySem L2 TL ClX
section
variable {P : Program} {w : World} {K : PySem.W.Frag} {mg : Str → Option Value} {base : Heap}
theorem sc_InvalidForest : FnScope ["self", "name"] ["self", "name"] (defScope s_InvalidForest___init__) := ⟨rfl, rfl, rfl, by decide +kernel, rfl, by decide +kernel, by decide +kernel⟩
theorem ok_InvalidForest {f R C I : Addr} {fd : FuncData} (F : Fun K "__init__" "InvalidForest.__init__" s_InvalidForest___init__ f fd) (T : Rt K mg R) (L : Er K mg "InvalidForest" "name" C I) : FnOk P w K mg base CX0 1 f fd ["self", "name"] (spInit1 C "name") := by
  refine F.ok sc_InvalidForest (fun vs H Q E h => ?_) (fun cdv A outer s H vs Q E hr h => ?_)
  · obtain ⟨a, v, rfl, _⟩ := h
    rfl
  · obtain ⟨a, v, rfl, ha, k⟩ := h
    refine ⟨_, pss_cons (ps_expr (pe_clsinit T.ini rfl T.g (pa_cons (pv 0) (pa_cons pe_str pa_nil)))) (pss_one (ps_ost (pv 0) (pv 1))), ?_⟩
    refine ⟨_, rfl, a, C, _, rfl, by show 1 ≤ 1000; omega, L.x.oex, ha, ?_⟩
    exact ⟨_, rfl, _, rfl, a, C, rfl, L.x.oex, L.no, .inl ⟨ha, fun d nd nda => k d nd nda⟩⟩
theorem sc_UnknownName : FnScope ["self", "name"] ["self", "name"] (defScope s_UnknownName___init__) := ⟨rfl, rfl, rfl, by decide +kernel, rfl, by decide +kernel, by decide +kernel⟩
theorem ok_UnknownName {f R C I : Addr} {fd : FuncData} (F : Fun K "__init__" "UnknownName.__init__" s_UnknownName___init__ f fd) (T : Rt K mg R) (L : Er K mg "UnknownName" "name" C I) : FnOk P w K mg base CX0 1 f fd ["self", "name"] (spInit1 C "name") := by
  refine F.ok sc_UnknownName (fun vs H Q E h => ?_) (fun cdv A outer s H vs Q E hr h => ?_)
  · obtain ⟨a, v, rfl, _⟩ := h
    rfl
  · obtain ⟨a, v, rfl, ha, k⟩ := h
    refine ⟨_, pss_cons (ps_expr (pe_clsinit T.ini rfl T.g (pa_cons (pv 0) (pa_cons pe_str pa_nil)))) (pss_one (ps_ost (pv 0) (pv 1))), ?_⟩
    refine ⟨_, rfl, a, C, _, rfl, by show 1 ≤ 1000; omega, L.x.oex, ha, ?_⟩
    exact ⟨_, rfl, _, rfl, a, C, rfl, L.x.oex, L.no, .inl ⟨ha, fun d nd nda => k d nd nda⟩⟩
theorem sc_InvalidText : FnScope ["self", "line"] ["self", "line"] (defScope s_InvalidText___init__) := ⟨rfl, rfl, rfl, by decide +kernel, rfl, by decide +kernel, by decide +kernel⟩
theorem ok_InvalidText {f R C I : Addr} {fd : FuncData} (F : Fun K "__init__" "InvalidText.__init__" s_InvalidText___init__ f fd) (T : Rt K mg R) (L : Er K mg "InvalidText" "line" C I) : FnOk P w K mg base CX0 1 f fd ["self", "line"] (spInit1 C "line") := by
  refine F.ok sc_InvalidText (fun vs H Q E h => ?_) (fun cdv A outer s H vs Q E hr h => ?_)
  · obtain ⟨a, v, rfl, _⟩ := h
    rfl
  · obtain ⟨a, v, rfl, ha, k⟩ := h
    refine ⟨_, pss_cons (ps_expr (pe_clsinit T.ini rfl T.g (pa_cons (pv 0) (pa_cons pe_str pa_nil)))) (pss_one (ps_ost (pv 0) (pv 1))), ?_⟩
    refine ⟨_, rfl, a, C, _, rfl, by show 1 ≤ 1000; omega, L.x.oex, ha, ?_⟩
    exact ⟨_, rfl, _, rfl, a, C, rfl, L.x.oex, L.no, .inl ⟨ha, fun d nd nda => k d nd nda⟩⟩
end
end FT


/-! data of any kind; what is raised; numbers by places -/
namespace FT
open PySem L2 TL ClX
/-! ### data of any kind -/
inductive Dat (K : PySem.W.Frag) (H : Hp) : V → String → Prop where
  | non : Dat K H .non "NoneType"
  | bl (b : Bool) : Dat K H (.bl b) "bool"
  | int (i : Int) : Dat K H (.int i) "int"
  | str (z : Str) : Dat K H (.str z) "str"
  | lst {a : Addr} {xs : List V} (h : H a = some (.lst xs)) : Dat K H (.ref a) "list"
  | tup {a : Addr} {xs : List V} (h : H a = some (.tup xs)) : Dat K H (.ref a) "tuple"
  | dct {a : Addr} {kvs : List (Key × V)} (h : H a = some (.dK kvs)) : Dat K H (.ref a) "dict"
theorem Dat.ty {K : PySem.W.Frag} {H : Hp} {v : V} {T : String} (d : Dat K H v T) : TyX K H v (.type T) := by
  cases d with
  | non => exact .base .non
  | bl b => exact .base (.bl b)
  | int i => exact .base (.int i)
  | str z => exact .base (.str z)
  | lst h => exact .base (.lst h)
  | tup h => exact .base (.tup h)
  | dct h => exact .base (.dK h)
theorem Dat.mono {K : PySem.W.Frag} {H H' : Hp} {v : V} {T : String} (s : Same H H') (d : Dat K H v T) : Dat K H' v T := by
  cases d with
  | non => exact .non
  | bl b => exact .bl b
  | int i => exact .int i
  | str z => exact .str z
  | lst h => exact .lst (s _ _ h)
  | tup h => exact .tup (s _ _ h)
  | dct h => exact .dct (s _ _ h)
def IsDat (K : PySem.W.Frag) (H : Hp) (v : V) : Prop := ∃ T, Dat K H v T
theorem IsDat.mono {K : PySem.W.Frag} {H H' : Hp} {v : V} (s : Same H H') (d : IsDat K H v) : IsDat K H' v := let ⟨T, d⟩ := d; ⟨T, d.mono s⟩
/-- isinstance(v, int) -/
def isIntV : V → Bool
  | .int _ => true
  | .bl _ => true
  | _ => false
def isBlV : V → Bool
  | .bl _ => true
  | _ => false
def isDictV (H : Hp) (v : V) : Bool := match v with
  | .ref a => match H a with
    | some (.dK _) => true
    | _ => false
  | _ => false
theorem Dat.str_ {K : PySem.W.Frag} {H : Hp} {v : V} {T : String} (d : Dat K H v T) : PySem.W.kitOne K (.type T) (.type "str") = some (decide (T = "str")) := by
  cases d with
  | non => exact kit_ty (r := false) (by decide +kernel)
  | bl b => exact kit_ty (r := false) (by decide +kernel)
  | int i => exact kit_ty (r := false) (by decide +kernel)
  | str z => exact kit_ty (r := true) (by decide +kernel)
  | lst h => exact kit_ty (r := false) (by decide +kernel)
  | tup h => exact kit_ty (r := false) (by decide +kernel)
  | dct h => exact kit_ty (r := false) (by decide +kernel)
/-- an integer, no bool, of at least l -/
def isGe (v : V) (l : Int) : Bool := match v with
  | .int i => decide (l ≤ i)
  | _ => false
/-! ### what is raised -/
inductive Err where
  | e0 (C : Addr)
  | e1 (C : Addr) (f : Str) (v : V)
/-- the way out of such an error, from the heap H -/
def Out (H : Hp) (E : XK) : Err → Prop
  | .e0 C => ∀ H', Same H H' → E (.ref C) none H'
  | .e1 C f v => ∀ d H', Same H H' → H d = none → H' d = some (.xd [(f, v)]) → E (.ref C) (some d) H'
theorem Out.mono {H H1 : Hp} {E : XK} {e : Err} (s : Same H H1) (o : Out H E e) : Out H1 E e := by
  cases e with
  | e0 C => exact fun H' s' => o H' (s.trans s')
  | e1 C f v => exact fun d H' s' n => o d H' (s.trans s') (s.free n)
/-- raise C(v) in a def that lets it out -/
theorem out1 {C : Addr} {f : Str} {v : V} {H H1 : Hp} {E : XK} (o : Out H E (.e1 C f v)) (s : Same H H1) :
    [v].length ≤ 1000 ∧ ∀ a, H1 a = none → spInit1 C f (.ref a :: ([v] ++ [])) (upd H1 a (exo a C none))
      (fun w H2 => w = .non ∧ ∃ (d : Addr) (fs : List (Str × V)), H2 a = some (exo a C (some d)) ∧ H2 d = some (exd d fs) ∧ H1 d = none ∧ E (.ref C) (some d) (upd (del H2 a) d (.xd fs))) (fun _ _ _ => False) :=
  raise1 (Q := fun cls d H' => E cls d H') fun d nd => o d _ (s.trans (same_new nd)) (s.free nd) upd_same
/-! ### numbers by places -/
def tblI (l : List Str) (g : Str → Int) : List (Key × V) := kvT (l.map fun a => (a, V.int (g a)))
theorem tblI_len (l : List Str) (g : Str → Int) : (tblI l g).length = l.length := by unfold tblI; rw [kvT_len, List.length_map]
theorem tblI_val {l : List Str} {g : Str → Int} {a : Str} (h : a ∈ l) : valV (tblI l g) (Sum.inr a) = some (.int (g a)) := by
  unfold tblI
  rw [kvT_val]
  induction l with
  | nil => cases h
  | cons b l ih =>
    rw [List.map_cons, look_cons]
    by_cases e : b = a
    · subst e
      exact if_pos rfl
    · rw [if_neg e]
      exact ih ((List.mem_cons.mp h).resolve_left fun z => e z.symm)
/-! ### feasible sizes -/
/-- sizes: a dict, its pairs told, or another value -/
def SzV (K : PySem.W.Frag) (H : Hp) (sv : V) : Option (List (Key × V)) → Prop
  | some kvs => ∃ q, sv = .ref q ∧ H q = some (.dK kvs) ∧ ∀ p ∈ kvs, IsDat K H p.2
  | none => ∃ T, Dat K H sv T ∧ T ≠ "dict"
theorem SzV.mono {K : PySem.W.Frag} {H H' : Hp} {sv : V} {o : Option (List (Key × V))} (s : Same H H') (h : SzV K H sv o) : SzV K H' sv o := by
  cases o with
  | none => exact let ⟨T, d, n⟩ := h; ⟨T, d.mono s, n⟩
  | some kvs => exact let ⟨q, e, h, a⟩ := h; ⟨q, e, s _ _ h, fun p hp => (a p hp).mono s⟩
def szOf (kvs : List (Key × V)) (a : Str) : Int := match valV kvs (Sum.inr a) with
  | some (.int i) => i
  | _ => 0
def badKey (kvs : List (Key × V)) (a : Str) : Bool := !isGe ((valV kvs (Sum.inr a)).getD .non) 0
/-- the place of the first fault, as the error tells it -/
def feas (ts : List (Str × Str)) (n : Int) : Option (List (Key × V)) → Option V
  | none => some .non
  | some kvs => if kvs.length ≠ ts.length then some .non else if (ts.map Prod.fst).all (fun a => (valV kvs (Sum.inr a)).isSome) = false then some .non else
    match (ts.map Prod.fst).find? (badKey kvs) with
    | some a => some (.str a)
    | none => ((("" : Str) :: ts.map Prod.fst).find? fun p => decide (resid ts n (szOf kvs) p < 0)).map V.str
def usersOk (v : V) (m : Int) : Bool := match v with
  | .int i => decide (1 ≤ i) && decide (i ≤ m)
  | _ => false
def feE (CS : Addr) (ts : List (Str × Str)) (n : Int) (o : Option (List (Key × V))) : Option Err := (feas ts n o).map fun v => .e1 CS "place" v
def szE (CU CS : Addr) (ts : List (Str × Str)) (uv : V) (o : Option (List (Key × V))) : Option Err := if usersOk uv (10 ^ 30) = true then feE CS ts (match uv with | .int n => n | _ => 0) o else some (.e0 CU)
/-- a def that hands back None, or raises -/
def Res (H : Hp) (Q : VK) (E : XK) : Option Err → Prop
  | none => ∀ H', Same H H' → Q .non H'
  | some e => Out H E e
theorem Res.mono {H H1 : Hp} {Q : VK} {E : XK} {o : Option Err} (s : Same H H1) (r : Res H Q E o) : Res H1 Q E o := by
  cases o with
  | none => exact fun H' s' => r H' (s.trans s')
  | some e => exact Out.mono s r
def spIsInt (K : PySem.W.Frag) : Sp := fun vs H Q _ => ∃ (v : V) (l : Int), vs = [v, .int l] ∧ IsDat K H v ∧ Q (.bl (isGe v l)) H
def spUsers (K : PySem.W.Frag) (CU : Addr) : Sp := fun vs H Q E => ∃ (v : V) (m : Int), vs = [v, .int m] ∧ IsDat K H v ∧ Res H Q E (if usersOk v m = true then none else some (.e0 CU))
def spResid (CF : Addr) : Sp := fun vs H Q _ => ∃ (x q : Addr) (n : Int) (ts : List (Str × Str)) (kvs : List (Key × V)), vs = [.ref x, .int n, .ref q] ∧ FAt CF H x ts ∧ TreeOk ts ∧ H q = some (.dK kvs) ∧ (∀ a ∈ ts.map Prod.fst, valV kvs (Sum.inr a) = some (.int (szOf kvs a))) ∧
  ∀ p H', Same H H' → H p = none → H' p = some (.dK (tblI ("" :: ts.map Prod.fst) (resid ts n (szOf kvs)))) → Q (.ref p) H'
def spFeas (K : PySem.W.Frag) (CF CS : Addr) : Sp := fun vs H Q E => ∃ (x : Addr) (n : Int) (sv : V) (ts : List (Str × Str)) (o : Option (List (Key × V))), vs = [.ref x, .int n, sv] ∧ FAt CF H x ts ∧ TreeOk ts ∧ SzV K H sv o ∧ Res H Q E (feE CS ts n o)
def spNSizes (K : PySem.W.Frag) (CF CU CS : Addr) : Sp := fun vs H Q E => ∃ (x : Addr) (uv sv : V) (ts : List (Str × Str)) (o : Option (List (Key × V))), vs = [.ref x, uv, sv] ∧ FAt CF H x ts ∧ TreeOk ts ∧ IsDat K H uv ∧ SzV K H sv o ∧ Res H Q E (szE CU CS ts uv o)
end FT


/-! xs.count(y), flat items -/
namespace L2
open PySem PySem.Spec PyProof.Rows
theorem countP_eqU {x : V} : ∀ {xs : List V} {us : List Value}, Vals xs us → xs.all flatV = true → us.countP (eqU x) = xs.countP fun y => eqV y x
  | _, _, .nil, _ => rfl
  | y :: xs, u :: us, .cons r t, f => by
    rw [List.all_cons, Bool.and_eq_true] at f
    rw [List.countP_cons, List.countP_cons, countP_eqU t f.2, eqU_of r f.1]
def rCntF (K : PySem.W.Frag) : V → List V → Hp → VK → Prop := fun x xs H Q => ∃ (a : Addr) (ys : List V) (y : V), x = .ref a ∧ xs = [y] ∧ SqL K H a ys ∧ flatV y = true ∧ ys.all flatV = true ∧ Q (.int ((ys.countP fun z => eqV z y : Nat) : Int)) H
variable {X : Cx}
theorem mt_countF : MtR X "list.count" (rCntF X.K) := by
  intro pins s σ H x xs v us Q I rx rxs ⟨a, ys, y, ex, exs, hs, fy, fys, q⟩
  subst ex
  subst exs
  cases rx
  match us, rxs with
  | [uy], .cons ry .nil =>
    obtain ⟨its, rv, ⟨⟨cls, dd, data, sl⟩, n, ho, hc, hdn, hd⟩, hlen⟩ := I.list hs
    simp only at hc hd
    subst hc hd
    refine call_meets PySem.F.slot_list_count ⟨_, ho, rfl⟩ PySem.F.entry_list_count (PySem.F.args_list_count_2 _ _)
      (SeqAt.list_countAt a its.toArray n dd sl uy (eqU y)) ⟨ho, fun u hu => mem_eqAt ry fy rv fys u (by simpa using hu), ?_⟩
    refine ⟨.int ((ys.countP fun z => eqV z y : Nat) : Int), H, I.tok _, ⟨s.toks, ?_⟩, q⟩
    show Value.int ((its.toArray.toList.countP (eqU y) : Nat) : Int) s.toks = Value.int ((ys.countP fun z => eqV z y : Nat) : Int) s.toks
    rw [show its.toArray.toList = its from rfl, countP_eqU rv fys]
end L2


/-! Own: repr over the layer. repr asks what calls of repr are under way (A.guards), and the layer's contracts do not tell it: a contract FnG that tells it too, its rule for a def's body, its call, the end. -/
namespace L2
open PySem PySem.Spec PyProof.Rows
/-- no repr is under way -/
abbrev Clr (A : Around) : Prop := A.guards = some []
theorem Clr.deeper {A : Around} {env : Env} (h : Clr A) : Clr (A.deeper env) := by
  have h' : A.guards = some [] := h
  show (A.deeper env).guards = some []
  first
    | exact h'
    | (simp [Around.deeper, h', pushGuards, Code.guards, Code.isGuard])
structure FnG (P : Program) (w : World) (K : PySem.W.Frag) (mg : Str → Option Value) (base : Heap) (CX : CXT) (k : Nat) (f : Addr) (fd : FuncData) (ps : List Str) (sp : Sp) : Prop where
  len : ∀ vs H Q E, sp vs H Q E → vs.length = ps.length
  run : ∀ (A : Around) (outer : List Env) (s : Shared) (H : Hp) (args : Args) (us : List Value) (vs : List V) (Q : VK) (E : XK), Clr A → Room k A → Env0 P w K mg base A outer s H → BindsTo s fd args (ps.zip us) → Vals vs us → sp vs H Q E →
    codeAny (model P w) A (.call (.ref f) args) (CR CX outer P w H s Q E) s
theorem FnOk.g {P : Program} {w : World} {K : PySem.W.Frag} {mg : Str → Option Value} {base : Heap} {CX : CXT} {k : Nat} {f : Addr} {fd : FuncData} {ps : List Str} {sp : Sp} (F : FnOk P w K mg base CX k f fd ps sp) : FnG P w K mg base CX k f fd ps sp :=
  ⟨F.len, fun A outer s H args us vs Q E _ => F.run A outer s H args us vs Q E⟩
section
variable {P : Program} {w : World} {K : PySem.W.Frag} {mg : Str → Option Value} {base : Heap}
/-- a def by its body, where nothing is raised out of it -/
theorem Fun.okG {x qual : Str} {st : Stmt} {f : Addr} {fd : FuncData} {N ps : List Str} {k : Nat} {sp : Sp} (F : Fun K x qual st f fd) (S : FnScope N ps (defScope st)) (len : ∀ vs H Q E, sp vs H Q E → vs.length = ps.length)
    (body : ∀ (cdv : Value) (A : Around) (outer : List Env) (s : Shared) (H : Hp) (vs : List V) (Q : VK) (E : XK), Clr A → Room k (A.deeper (envOfC qual (defScope st) s.heap.objs.size f cdv)) → sp vs H Q E →
      ∃ t, PSs (cxOf CX0 P w K mg base N qual (defScope st) f cdv A outer s H E).nox (defBody st) t ∧ t { nx := fun _ H' => Q .non H', rt := Q } (start N vs) H) : FnG P w K mg base CX0 (k + 1) f fd ps sp := by
  obtain ⟨oc, od, kV, doc, pm, an, cdv, ct, osl, rfl, lk, code⟩ := F.ex
  refine ⟨len, fun A outer s H args us vs Q E clr room e0 binds rel want => ?_⟩
  have nps := len _ _ _ _ want
  have KX : K.In s.heap := e0.mod.kin.keeps fun b o e => (e0.bs b o e).1
  have lim : s.heap.NoLimit := e0.mod.nolimit.keeps fun b o e => (e0.bs b o e).1
  refine codeAny_call_function room.depth (KX _ _ lk) rfl S.co S.gen rfl (PySem.W.codeRec_of KX code) (binds _ _ _ _ (wpAny_newFunctionEnv_cells S.kind (fun y hy => ?_) fun env he s1 x => ?_))
  · obtain ⟨n, v⟩ := y
    exact (S.par n (List.of_mem_zip hy).1).elim .inl fun q => .inr ⟨q, PySem.W.cellsFrom_some _ _ _ (.inl q)⟩
  · subst he
    obtain ⟨t, term, q⟩ := body cdv A outer s H vs Q E clr (room.deeper _) want
    have I : Inv (cxOf CX0 P w K mg base N qual (defScope st) f cdv A outer s H E) [] (start N vs) H s1 := inv_start S room.hd e0 nps rel x
    refine ⟨lim.keeps x.toInCall.keep, codeAny_func (wpAny_mono (term.nox.run [] s1 (start N vs) H _ I q) (fun fl s' z => ?_) fun _ _ z => z)⟩
    match fl, z with
    | .ret u, ⟨v, _, H', J, rv, q⟩ => exact ⟨v, H', J.os, J.bare, J.base, J.hok, rv, q⟩
    | .next, ⟨_, H', J, q⟩ => exact ⟨.non, H', J.os, J.bare, J.base, J.hok, rfl, q⟩
    | .brk, ⟨_, _, _, q⟩ => exact q.elim
    | .cont, ⟨_, _, _, q⟩ => exact q.elim
end
section
variable {X : Cx} {CX : CXT} {k : Nat} {f : Addr} {fd : FuncData} {ps : List Str} {sp : Sp} {dvs : List V} {ds : List Value} {E : XK} {x : Str} {p pos : Pos} {e : Expr} {es : List Expr} {t : TA}
/-- f(e, ..), f of such a contract -/
theorem pe_callG (F : FnG X.prog X.w X.K X.mg X.base CX k f fd ps sp) (clr : Clr X.A) (hr : Room k X.A) (hg : Gl X x) (hm : X.mg x = some (.ref f)) (hk : PySem.W.keepIn X.K (.ref f) = true) (hb : Binds X.K fd ps ds) (hd : Vals dvs ds) (hx : Passes CX X E)
    (ha : PA X (e :: es) t) (dbg : (x == ("__debug__" : Str)) = false := by decide) (one : starEach (e :: es) X.env = (false, eval e X.env) :: starEach es X.env := by rfl) (plain : (backTo pos (starEach es X.env)).any (·.1) = false := by rfl) :
    PE X (.Call (.Name x p) (e :: es) [] pos) (tCall sp dvs E t) := by
  refine ⟨fun pins s σ H Q I h => wpAny_Call_Name_kw (ld_glob I hg hm ?_ dbg)⟩
  refine PySem.W.callWith_K (h₀ := X.base) I.ok.mod.kin hk (thn (ha.run pos pins s σ H _ I h) fun us s1 ⟨vs, H1, J, rel, want⟩ => ⟨J.kIn, ?_⟩) one plain
  have r2 : Vals (vs ++ dvs) (us ++ ds) := rel.append hd
  have len : (us ++ ds).length = ps.length := r2.length.symm.trans (F.len _ _ _ _ want)
  refine wpAny_call (codeAny_mono (F.run X.A X.stack s1 H1 ⟨us, []⟩ (us ++ ds) (vs ++ dvs) Q E clr hr J.env0 (hb s1 us J.kIn len) r2 want) fun r s' z => ?_)
  match r, z with
  | .error er, z => exact hx pins σ H1 s1 er s' J z
  | .ok (.ret u), z => exact J.after z
  | .ok .next, z => exact z.elim
  | .ok .brk, z => exact z.elim
  | .ok .cont, z => exact z.elim
/-! ### repr -/
/-- what is shown: data without dicts, or the empty dict -/
def Shw (K : PySem.W.Frag) (H : Hp) (x : V) (d : PyData) : Prop := (Dp K H x d ∧ d.hasDict = false) ∨ ∃ a, x = .ref a ∧ H a = some (.dK []) ∧ d = .dict []
def rRepr (K : PySem.W.Frag) : List V → Hp → VK → Prop := fun xs H Q => ∃ (x : V) (d : PyData), xs = [x] ∧ Shw K H x d ∧ d.showable = true ∧ d.depth ≤ 60 ∧ d.shown.length ≤ sizeLine ∧ Q (.str d.shown) H
theorem Shw.reads {pins : List (Addr × Obj)} {σ : St} {H : Hp} {s : Shared} {x : V} {u : Value} {d : PyData} (h : Shw X.K H x d) (I : Inv X pins σ H s) (r : RelV x u) : ∃ as, Reads s.heap u d as ∧ (d.hasDict = true → sysModules ∉ as) := by
  rcases h with ⟨h, nd⟩ | ⟨a, rfl, e, rfl⟩
  · obtain ⟨as, q⟩ := Dp.reads I d x u h r
    exact ⟨as, q, PyData.noDict_hsm nd⟩
  · obtain rfl : u = Value.ref a := r
    obtain ⟨_, ns, vs, kv, o, es, ep, h1, h2, h3, h4⟩ := (show ObjOk X.prog X.w H s.heap a (.dK []) from I.hok a _ e)
    cases kv
    have hes : es.toList = [] := by
      obtain ⟨_, h5, _⟩ := h4
      revert h5
      generalize es.toList = l
      intro h5
      cases h5
      rfl
    refine ⟨a :: [] ++ [], .dict h1 h2.1 h3 (by rw [hes]; exact .nil) (by rw [hes]; exact .nil), fun _ hm => ?_⟩
    have hm' : sysModules = a := by simpa using hm
    rw [hm'] at ns
    simp at ns
theorem call_repr (clr : Clr X.A) (hu : X.A.units + 64 < cLine) : CallR X (.builtin "repr") (rRepr X.K) := by
  intro pins s σ H xs us Q I r h
  obtain ⟨x, d, rfl, sh, ok, dep, few, q⟩ := h
  obtain ⟨u, rfl, ru⟩ := vals1 r
  obtain ⟨as, rd, sm⟩ := sh.reads I ru
  have fin : ∀ h' (t : Tok) tk, (∀ b o, s.heap.get? b = some o → h'.get? b = some o) → EP X pins σ Q (.str d.shown t) { s with heap := h', toks := tk } := fun h' t tk kp => ⟨.str d.shown, H, I.kept kp, ⟨t, rfl⟩, q⟩
  cases u with
  | ref a => exact repr_of_reads' rd ok sm clr (by omega) (fun _ _ z => z) fin few
  | none => cases rd; exact PySem.P.repr_of_none (fin _ _ _ fun _ _ z => z)
  | bool b => cases rd; exact PySem.P.repr_of_bool (fin _ _ _ fun _ _ z => z)
  | int i t => cases rd; exact PySem.P.repr_of_int (by simpa [PyData.showable] using ok) (fin _ _ _ fun _ _ z => z)
  | str y t => cases rd; exact PySem.P.repr_of_str (fin _ _ _ fun _ _ z => z) few
  | _ => cases rd
end
end L2


/-! Own: the end of a law's row from a contract FnG (the library's walk_of asks FnOk). -/
namespace L2
open PySem PySem.Spec PyProof.Rows
section
variable {P : Program} {w : World} {K : PySem.W.Frag} {mg mb : Str → Option Value} {k : Nat} {fa a : Addr} {fd : FuncData} {x : Str} {sp : Sp} {s : Shared} {vs : List Value} {ns : List Int}
/-- the abstract heap at the law's entry: the script alone, locked; or nothing, where the script is the module's own -/
abbrev Entry (K : PySem.W.Frag) (a : Addr) (H : Hp) : Prop := (∀ b, H b ≠ none → b = a) ∧ (H a ≠ none → K.lookup a = none)
end
end L2


/-! Own: defs that make lambdas (their code object known), and the end of a law's row from a contract FnG with tables of code objects. -/
namespace L2
open PySem PySem.Spec PyProof.Rows LamX
/-- as Fun, the code object's place told -/
structure FunC (K : PySem.W.Frag) (x qual : Str) (st : Stmt) (f : Addr) (fd : FuncData) (c : Addr) : Prop where
  ex : ∃ (oc : Value) (od : Option Addr) (kV doc pm : Value) (an : Option Addr) (ct : Value) (osl : Array (Option Value)),
    fd = PySem.W.fnOf x qual (defArgs st) (defBody st) (defScope st) .none kV doc pm an (.ref c) ct ∧ K.lookup f = some ⟨oc, od, .func fd, osl⟩ ∧ PySem.W.codeIn K (.ref c) qual = true
  kp : PySem.W.keepIn K (.ref f) = true
theorem FunC.fun {K : PySem.W.Frag} {x qual : Str} {st : Stmt} {f c : Addr} {fd : FuncData} (F : FunC K x qual st f fd c) : Fun K x qual st f fd :=
  let ⟨oc, od, kV, doc, pm, an, ct, osl, e1, e2, e3⟩ := F.ex
  ⟨⟨oc, od, kV, doc, pm, an, .ref c, ct, osl, e1, e2, e3⟩, F.kp⟩
theorem funC_mk {K : PySem.W.Frag} {x qual : Str} {st : Stmt} {f c : Addr} {oc : Value} {od an : Option Addr} {osl : Array (Option Value)} {kV doc pm ct : Value} (l : K.lookup f = some ⟨oc, od, .func (PySem.W.fnOf x qual (defArgs st) (defBody st) (defScope st) .none kV doc pm an (.ref c) ct), osl⟩)
    (e : PySem.W.codeIn K (.ref c) qual = true) (k : PySem.W.keepIn K (.ref f) = true) : FunC K x qual st f (PySem.W.fnOf x qual (defArgs st) (defBody st) (defScope st) .none kV doc pm an (.ref c) ct) c := ⟨⟨oc, od, kV, doc, pm, an, ct, osl, rfl, l, e⟩, k⟩
section
variable {P : Program} {w : World} {K : PySem.W.Frag} {mg : Str → Option Value} {base : Heap}
theorem FunC.ok {x qual : Str} {st : Stmt} {f c : Addr} {fd : FuncData} {N ps : List Str} {k : Nat} {sp : Sp} (F : FunC K x qual st f fd c) (S : FnScope N ps (defScope st)) (len : ∀ vs H Q E, sp vs H Q E → vs.length = ps.length)
    (body : ∀ (A : Around) (outer : List Env) (s : Shared) (H : Hp) (vs : List V) (Q : VK) (E : XK), Room k (A.deeper (envOfC qual (defScope st) s.heap.objs.size f (.ref c))) → sp vs H Q E →
      ∃ t, PSs (cxOf CX0 P w K mg base N qual (defScope st) f (.ref c) A outer s H E).nox (defBody st) t ∧ t { nx := fun _ H' => Q .non H', rt := Q } (start N vs) H) : FnOk P w K mg base CX0 (k + 1) f fd ps sp := by
  obtain ⟨oc, od, kV, doc, pm, an, ct, osl, rfl, lk, code⟩ := F.ex
  refine fn_of lk code S len fun A outer s H vs Q E room want => ?_
  obtain ⟨t, h, q⟩ := body A outer s H vs Q E room want
  exact ⟨t, h.nox, q⟩
theorem FunC.okG {x qual : Str} {st : Stmt} {f c : Addr} {fd : FuncData} {N ps : List Str} {k : Nat} {sp : Sp} (F : FunC K x qual st f fd c) (S : FnScope N ps (defScope st)) (len : ∀ vs H Q E, sp vs H Q E → vs.length = ps.length)
    (body : ∀ (A : Around) (outer : List Env) (s : Shared) (H : Hp) (vs : List V) (Q : VK) (E : XK), Clr A → Room k (A.deeper (envOfC qual (defScope st) s.heap.objs.size f (.ref c))) → sp vs H Q E →
      ∃ t, PSs (cxOf CX0 P w K mg base N qual (defScope st) f (.ref c) A outer s H E).nox (defBody st) t ∧ t { nx := fun _ H' => Q .non H', rt := Q } (start N vs) H) : FnG P w K mg base CX0 (k + 1) f fd ps sp := by
  obtain ⟨oc, od, kV, doc, pm, an, ct, osl, rfl, lk, code⟩ := F.ex
  refine ⟨len, fun A outer s H args us vs Q E clr room e0 binds rel want => ?_⟩
  have nps := len _ _ _ _ want
  have KX : K.In s.heap := e0.mod.kin.keeps fun b o e => (e0.bs b o e).1
  have lim : s.heap.NoLimit := e0.mod.nolimit.keeps fun b o e => (e0.bs b o e).1
  refine codeAny_call_function room.depth (KX _ _ lk) rfl S.co S.gen rfl (PySem.W.codeRec_of KX code) (binds _ _ _ _ (wpAny_newFunctionEnv_cells S.kind (fun y hy => ?_) fun env he s1 x => ?_))
  · obtain ⟨n, v⟩ := y
    exact (S.par n (List.of_mem_zip hy).1).elim .inl fun q => .inr ⟨q, PySem.W.cellsFrom_some _ _ _ (.inl q)⟩
  · subst he
    obtain ⟨t, term, q⟩ := body A outer s H vs Q E clr (room.deeper _) want
    have I : Inv (cxOf CX0 P w K mg base N qual (defScope st) f (.ref c) A outer s H E) [] (start N vs) H s1 := inv_start S room.hd e0 nps rel x
    refine ⟨lim.keeps x.toInCall.keep, codeAny_func (wpAny_mono (term.nox.run [] s1 (start N vs) H _ I q) (fun fl s' z => ?_) fun _ _ z => z)⟩
    match fl, z with
    | .ret u, ⟨v, _, H', J, rv, q⟩ => exact ⟨v, H', J.os, J.bare, J.base, J.hok, rv, q⟩
    | .next, ⟨_, H', J, q⟩ => exact ⟨.non, H', J.os, J.bare, J.base, J.hok, rfl, q⟩
    | .brk, ⟨_, _, _, q⟩ => exact q.elim
    | .cont, ⟨_, _, _, q⟩ => exact q.elim
end
section
variable {P : Program} {w : World} {K : PySem.W.Frag} {mg mb : Str → Option Value} {k : Nat} {fa a : Addr} {fd : FuncData} {x : Str} {sp : Sp} {s : Shared} {vs : List Value} {ns : List Int} {cs : List (Addr × Addr)}
/-- the code objects and their tables: empty, not of the written part -/
abbrev TabsIn (K : PySem.W.Frag) (h : Heap) (cs : List (Addr × Addr)) : Prop := ∀ p ∈ cs, PySem.W.CodeHd h p.1 p.2 ∧ h.get? p.2 = some (PySem.W.tabObj #[]) ∧ K.lookup p.2 = none
/-- the abstract heap at the law's entry: the tables, and the script, locked, or where it is the module's own the tables alone -/
structure EntT (K : PySem.W.Frag) (cs : List (Addr × Addr)) (a : Addr) (vs : List Value) (ns : List Int) (H : Hp) : Prop where
  tab : ∀ p ∈ cs, H p.2 = some (.tbl #[])
  dom : ∀ b u, H b = some u → (b = a ∧ u = .frz { cls := .type "list", data := .seq vs.toArray } (.lst (ns.map V.int))) ∨ ∃ p ∈ cs, b = p.2
  own : H a ≠ none → K.lookup a = none
theorem entT_run (KX : K.In s.heap) (hns : s.heap.Ns mainGlobals mg) (hb : s.heap.Ns builtinsNs mb) (hbb : ∀ y : Str, y ≠ "__name__" → mb y = bootBuiltins y) (lim : s.heap.NoLimit) (gens : s.gens = #[]) (ti : TabsIn K s.heap cs)
    (bmain : ∃ (bm : Addr) (ob : Obj), mg "__builtins__" = some (.ref bm) ∧ bm ≠ builtinsNs ∧ s.heap.get? bm = some ob ∧ ob.cls = .type "module" ∧ ob.dict = some builtinsNs ∧ ob.data = .plain)
    (oa : s.heap.get? a = some { cls := .type "list", data := .seq vs.toArray }) (rv : Vals (ns.map V.int) vs) (few : ns.length ≤ sizeLine) (room : Room k callerA)
    (F : ∀ base : Heap, K.In base → base.Ns mainGlobals mg → (∀ p ∈ cs, TabB base mg p.1 p.2) → FnG P w K mg base CX0 k fa fd [x] sp)
    (bind : ∀ (s : Shared) (u : Value), BindsTo s fd ⟨[u], []⟩ [(x, u)]) {H : Hp} (en : EntT K cs a vs ns H) (want : sp [.ref a] H (fun v _ => v = .bl true) fun _ _ _ => False) :
    codeAny (model P w) callerA (.call (.ref fa) ⟨[.ref a], []⟩) (fun r s' => r = .ok (.ret (.bool true)) ∧ OldK s.heap s'.heap ∧ s'.os = s.os ∧ AllBare s'.gens) s := by
  -- what is tracked: a list or a table
  have kinds : ∀ {b : Addr} {o : Obj}, s.heap.get? b = some o → H b ≠ none → o = { cls := .type "list", data := .seq vs.toArray } ∨ o = PySem.W.tabObj #[] := fun {b o} q n => by
    cases r : H b with
    | none => exact absurd r n
    | some u =>
      rcases en.dom b u r with ⟨rfl, _⟩ | ⟨p, hp, rfl⟩
      · rw [oa] at q
        exact .inl (Option.some.inj q).symm
      · rw [(ti p hp).2.1] at q
        exact .inr (Option.some.inj q).symm
  have loose : ∀ {b : Addr} {o : Obj}, s.heap.get? b = some o → (∀ vs n, o.data ≠ .seq vs n) → (o.data = .fields #[] → False) → H b = none := fun {b o} q h1 h2 => by
    refine Decidable.byContradiction fun n => ?_
    rcases kinds q n with e | e
    · exact h1 _ _ (by rw [e])
    · exact h2 (by rw [e])
  have seen : ∀ {b : Addr} {o : Obj}, s.heap.get? b = some o → H b = none → (hidT s.heap H).get? b = some o := fun q n => hidT_get q n
  have dict : ∀ {b : Addr} {o : Obj} {es : Array DictEntry} {ep : Nat}, s.heap.get? b = some o → o.data = .dict es ep → (hidT s.heap H).get? b = some o := fun q d => seen q (loose q (fun vs n z => nomatch d.symm.trans z) fun z => nomatch d.symm.trans z)
  have nsT : ∀ {b : Addr} {m : Str → Option Value}, s.heap.Ns b m → (hidT s.heap H).Ns b m := fun ⟨o, es, ep, q, d, r⟩ => ⟨o, es, ep, dict q d, d, r⟩
  have KT : K.In (hidT s.heap H) := fun b o q => seen (KX b o q) (Decidable.byContradiction fun n => by
    cases r : H b with
    | none => exact n r
    | some u =>
      rcases en.dom b u r with ⟨rfl, _⟩ | ⟨p, hp, rfl⟩
      · rw [en.own n] at q
        cases q
      · rw [(ti p hp).2.2] at q
        cases q)
  have isTab : ∀ b u, H b = some u → ∀ q, u = .tbl q → s.heap.get? b = some (PySem.W.tabObj #[]) ∧ q = #[] := fun b u r q e => by
    rcases en.dom b u r with ⟨_, z⟩ | ⟨p, hp, rfl⟩
    · rw [e] at z
      cases z
    · refine ⟨(ti p hp).2.1, ?_⟩
      have z := en.tab p hp
      rw [r, e] at z
      cases z
      rfl
  have ok : HOk P w H s.heap := fun b u r => by
    rcases en.dom b u r with ⟨rfl, rfl⟩ | ⟨p, hp, rfl⟩
    · exact ⟨oa, by rw [List.length_map]; exact few, vs, _, rv, oa⟩
    · rw [en.tab p hp] at r
      cases r
      exact (ti p hp).2.1
  have TB : ∀ p ∈ cs, TabB (hidT s.heap H) mg p.1 p.2 := fun p hp => by
    obtain ⟨C, tp, _⟩ := ti p hp
    refine ⟨?_, ?_, fun z => ?_⟩
    · obtain ⟨o, us, file, tf, flags, tg, inF, text, tt, e1, r1, r2, r3, r⟩ := C
      refine ⟨o, us, file, tf, flags, tg, inF, text, tt, seen e1 (loose e1 (fun vs n z => nomatch r2.symm.trans z) fun z => ?_), r1, r2, r3, r⟩
      have e := r2.symm.trans z
      cases e
      simp at r3
    · obtain ⟨bm, ob, b1, b2, b3, b4, b5, b6⟩ := bmain
      refine ⟨bm, ob, b1, b2, fun q => ?_, fun q => ?_, seen b3 (loose b3 (fun vs n z => nomatch b6.symm.trans z) fun z => nomatch b6.symm.trans z), b4, b5, b6⟩
      · obtain ⟨o, es, ep, e, hd, _⟩ := hns
        rw [q, e] at b3
        cases b3
        cases hd.symm.trans b6
      · rw [q, tp] at b3
        cases b3
        cases b6
    · obtain ⟨o, es, ep, e, hd, _⟩ := hns
      rw [z, tp] at e
      cases e
      cases hd
  have e0 : Env0 P w K mg (hidT s.heap H) callerA [] s H :=
    ⟨rfl, ⟨KT, nsT hns, ⟨mb, nsT hb, hbb⟩, let ⟨m, z1, z2⟩ := lim; ⟨m, nsT z1, z2⟩⟩, fun b o q => of_hidT q, Nat.le_of_eq (hidT_size _ _), trivial, fun b z => absurd (show b ∈ ([] : List Addr) from z) (by simp), ok, .of_eq gens⟩
  refine codeAny_mono ((F _ KT (nsT hns) TB).run callerA [] s H ⟨[.ref a], []⟩ [.ref a] [.ref a] _ _ rfl room e0 (bind s (.ref a)) (.cons rfl .nil) want) fun r s' z => ?_
  match r, z with
  | .error _, z => exact z.elim
  | .ok .next, z => exact z.elim
  | .ok .brk, z => exact z.elim
  | .ok .cont, z => exact z.elim
  | .ok (.ret u), ⟨v, H', os, bare, un, ok', rv', q⟩ =>
    obtain rfl : v = .bl true := q
    obtain rfl : u = Value.bool true := rv'
    -- an object stays, or is a table that has grown
    have way : ∀ b o, s.heap.get? b = some o → s'.heap.get? b = some o ∨ ∃ p ∈ cs, b = p.2 ∧ ∃ more : Array Value, s'.heap.get? b = some (PySem.W.tabObj more) := fun b o q => by
      cases r : H b with
      | none => exact .inl (un.keep b o q r (fun z => absurd (show b ∈ ([] : List Addr) from z) (by simp)) (by simp))
      | some u =>
        rcases en.dom b u r with ⟨rfl, rfl⟩ | ⟨p, hp, rfl⟩
        · have q1 := (ok b _ r).1
          rw [q] at q1
          cases q1
          exact .inl (ok' b _ (un.frzs b _ _ r)).1
        · obtain ⟨more, z⟩ := un.tbls p.2 #[] (en.tab p hp)
          exact .inr ⟨p, hp, rfl, _, ok' p.2 _ z⟩
    refine ⟨rfl, ⟨fun b o q => ?_, fun b o q => ?_⟩, os, bare⟩
    · rcases way b o q with z | ⟨p, hp, rfl, more, z⟩
      · exact .inl z
      · obtain ⟨C, tp, _⟩ := ti p hp
        rw [tp] at q
        cases q
        exact .inr (.inl ⟨(C.tab tp).isCodeTable, rfl, #[], more, rfl, by rw [Array.empty_append]; exact z⟩)
    · rcases way b o q with z | ⟨_, _, _, more, z⟩
      · exact ⟨o, z⟩
      · exact ⟨_, z⟩
end
/-- the law's promise with its tables -/
def LawTG (l : PySem.W.OpenLaw) (w : World) (K : PySem.W.Frag) (k n : Nat) (x : Str) (mg : Str → Option Value) (fa : Addr) (h : Heap) : Prop :=
  ∃ (fd : FuncData) (cs : List (Addr × Addr)) (sp : Sp), TabsIn K h cs ∧ (∀ (s : Shared) (u : Value), BindsTo s fd ⟨[u], []⟩ [(x, u)]) ∧
    (∀ (H : Hp) (a : Addr) (ns : List Int), ns.length ≤ n → (∀ p ∈ cs, H p.2 = some (.tbl #[])) → SqL K H a (ns.map V.int) → sp [.ref a] H (fun v _ => v = .bl true) fun _ _ _ => False) ∧
    ∀ base : Heap, K.In base → base.Ns mainGlobals mg → (∀ p ∈ cs, TabB base mg p.1 p.2) → FnG l.prog w K mg base CX0 k fa fd [x] sp
/-- what the head tells of a def's table -/
abbrev TabsOf (q : Program) (K : PySem.W.Frag) (h : Heap) : Prop := ∀ (y : Str) (c P : Addr), ((recsOf q).find? (fun e => e.name == y)).isSome = true → PySem.W.tabIn K y = some (c, P) → PySem.W.CodeHd h c P ∧ h.get? P = some (PySem.W.tabObj #[])
/-- the goal behind the head, from such a promise -/
theorem walk_tabG {l : PySem.W.OpenLaw} {n k : Nat} {q : Program} {loose : List Str} {XP : (Str → Option Value) → Heap → Prop} {YP : World → Heap → Prop} {d : DefRec} {K : Params → PySem.W.Frag} {x : Str}
    (most : l.most = some n) (few : n ≤ sizeLine) (nodf : d.params.defaults = []) (room : Room k callerA) (hY : ∀ (w : World) (h : Heap), YP w h → (K w.params).In h)
    (F : ∀ (w : World) (mg : Str → Option Value) (fa : Addr) (h : Heap), (K w.params).In h → h.Ns mainGlobals mg → mg d.name = some (.ref fa) → TabsOf q (K w.params) h → XP mg h → LawTG l w (K w.params) k n x mg fa h) :
    PySem.W.WalkO q loose XP YP l.row.toRowW d [] (fun f vs => PySem.call f vs) :=
  Att.attach_call most nodf fun w _ s mg mb fa _ _ _ _ a vs ns G Y _ _ _ hmg hobj hints hlen hg => by
    have KX := hY w _ Y
    obtain ⟨fd, cs, sp, ti, bind, hsp, hF⟩ := F w mg fa _ KX G.T.g hmg (fun y c P hr ht => let ⟨d', hd⟩ := Option.isSome_iff_exists.mp hr; PySem.W.tab_of G.T KX hd ht) G.X
    have rv := vals_ints hints
    have len := hints.length
    have tne : ∀ p ∈ cs, p.2 ≠ a := fun p hp z => by
      have e := (ti p hp).2.1
      rw [z, hobj] at e
      cases e
    cases own : (K w.params).lookup a with
    | some o =>
      have e := KX a o own
      rw [hobj] at e
      cases e
      obtain ⟨H, eH⟩ : ∃ H : Hp, H = fun b => if b ∈ cs.map (·.2) then some (.tbl #[]) else none := ⟨_, rfl⟩
      have inT : ∀ p ∈ cs, H p.2 = some (.tbl #[]) := fun p hp => by
        rw [eH]
        exact if_pos (List.mem_map.mpr ⟨p, hp, rfl⟩)
      have outT : ∀ b, b ∉ cs.map (·.2) → H b = none := fun b n => by
        rw [eH]
        exact if_neg n
      have na : a ∉ cs.map (·.2) := fun m => by
        obtain ⟨p, hp, e⟩ := List.mem_map.mp m
        exact tne p hp e
      refine entT_run KX G.T.g G.T.b G.T.builtins G.T.nolimit hg ti G.T.bmain hobj rv (Nat.le_trans hlen few) room hF bind (H := H) ⟨inT, fun b u r => .inr ?_, fun z => absurd (outT a na) z⟩
        (hsp H a ns hlen inT (.inr ⟨_, vs.toArray, _, own, rfl, rfl, rfl, by rw [List.size_toArray, len]; exact Nat.le_trans hlen few, by simpa using rv⟩))
      refine Decidable.byContradiction fun n => ?_
      rw [outT b fun m => n (let ⟨p, hp, e⟩ := List.mem_map.mp m; ⟨p, hp, e.symm⟩)] at r
      cases r
    | none =>
      obtain ⟨H, eH⟩ : ∃ H : Hp, H = fun b => if b = a then some (.frz { cls := .type "list", data := .seq vs.toArray } (.lst (ns.map V.int))) else if b ∈ cs.map (·.2) then some (.tbl #[]) else none := ⟨_, rfl⟩
      have atA : H a = some (.frz { cls := .type "list", data := .seq vs.toArray } (.lst (ns.map V.int))) := by rw [eH]; exact if_pos rfl
      have inT : ∀ p ∈ cs, H p.2 = some (.tbl #[]) := fun p hp => by
        rw [eH]
        exact (if_neg (tne p hp)).trans (if_pos (List.mem_map.mpr ⟨p, hp, rfl⟩))
      refine entT_run KX G.T.g G.T.b G.T.builtins G.T.nolimit hg ti G.T.bmain hobj rv (Nat.le_trans hlen few) room hF bind (H := H) ⟨inT, fun b u r => ?_, fun _ => own⟩ (hsp H a ns hlen inT (.inl (.inr ⟨_, atA⟩)))
      by_cases n : b = a
      · subst n
        rw [atA] at r
        exact .inl ⟨rfl, (Option.some.inj r).symm⟩
      · refine .inr (Decidable.byContradiction fun m => ?_)
        rw [eH] at r
        have r' := (if_neg n).symm.trans r
        rw [if_neg fun z => m (let ⟨p, hp, e⟩ := List.mem_map.mp z; ⟨p, hp, e.symm⟩)] at r'
        cases r'
end L2


/-! Own: a lambda handed to a def that calls it in a try: what is raised is wished for at the caller's very slots (the library's rule asks it for all slots). -/
namespace L2
open PySem PySem.Spec PyProof.Rows LamX
section
variable {X : Cx} {pins : List (Addr × Obj)} {σ : St} {H : Hp} {s : Shared}
theorem pe_actS {CXg : CXT} {Eg : XK} {Ng : List Str} {qg : Str} {sg : Scope} {g f c' : Addr} {cdg pm ctv : Value} {params : Arguments} {body : Expr} {scope : Scope} {k i : Nat} {a : Str} {pn : List (Addr × Obj)} {xe : Value → Shared → Prop} {W : WX} {tb : XK → TE} {p1 p2 : Pos}
    (I : Inv X pins σ H s) (L : LamS X.env.scope scope) (here : s.heap.get? f = some (PySem.W.kla_obj "<lambda>" (X.env.qual ++ "<lambda>") params body scope (cloFrom X.env.cells scope.names []) pm c' ctv)) (fno : H f = none) (ffr : f ∉ frs X.stack)
    (bd : bindArgs (PySem.W.kla_fn "<lambda>" (X.env.qual ++ "<lambda>") params body scope (cloFrom X.env.cells scope.names []) pm (.ref c') ctv) ⟨[], []⟩ = pure []) (tk : Takes ((cxOf CXg X.prog X.w X.K X.mg X.base Ng qg sg g cdg X.A X.stack s H Eg).tr pn xe) W)
    (room : Room (k + 1) (X.A.deeper (envOfC qg sg s.heap.objs.size g cdg))) (walk : ∀ (A : Around) (outer : List Env) (s : Shared) (H : Hp) (E : XK), Room k (A.deeper (lamEnv X scope s.heap.objs.size f c')) → PE (lamCx X A outer s H E scope f c') body (tb E))
    (hN : Ng[i]? = some a) (hv : Vis sg a) (hd : (a == ("__debug__" : Str)) = false := by decide) (hcd : (a == ("__classdict__" : Str)) = false := by decide) :
    PE ((cxOf CXg X.prog X.w X.K X.mg X.base Ng qg sg g cdg X.A X.stack s H Eg).tr pn xe) (.Call (.Name a p1) [] [] p2)
      (fun τ HZ Q => ∃ (Ech : XK) (Qn : VK), (∀ cls d H', Ech cls d H' → W cls d τ H') ∧ (∀ v H', Qn v H' → Q v H') ∧ τ[i]? = some (some (.ref f)) ∧ HZ c' = some (CodeO c' (X.env.qual ++ "<lambda>")) ∧ tb Ech σ HZ Qn) := by
  constructor
  intro pz sz τ HZ Q IZ ⟨Ech, Qn, imp, impQ, slot, code, want⟩
  refine wpAny_Call_Name_kw (thn ((pe_var (pos := p1) (i := i) hN hv hd hcd).run pz sz τ HZ (fun v H1 => v = .ref f ∧ H1 = HZ) IZ ⟨.ref f, slot, rfl, rfl⟩) fun u s1 ⟨v, H1, I1, r1, ev, eH⟩ => ?_)
  subst ev
  subst eH
  cases (show u = Value.ref f from r1)
  have still : s1.heap.get? f = some (PySem.W.kla_obj "<lambda>" (X.env.qual ++ "<lambda>") params body scope (cloFrom X.env.cells scope.names []) pm c' ctv) := I1.base.keep f _ here fno ffr (by simp [cxOf, Cx.tr])
  have grown : Un (frs X.stack) [] H H1 s.heap s1.heap := I1.base
  obtain ⟨⟨oc, ws, t, e1, e2, e3⟩, _, _⟩ := I1.hok c' _ code
  refine PySem.W.callWith_F0 ⟨_, _, _, _, still⟩ (wpAny_call (codeAny_mono (R := CR (L2.CX X.prog X.w) (envOfC qg sg s.heap.objs.size g cdg :: X.stack) X.prog X.w H1 s1 Qn Ech) ?_ fun r s' z => ?_))
  · show codeAny _ _ (.call (.ref f) ⟨[], []⟩) _ s1
    refine PySem.W.kla_callFunE room.depth still rfl L.co L.gen rfl ⟨c', oc, ws, t, rfl, e1, e2, e3⟩ ?_
    rw [bd]
    refine wpAny_pure (wpAny_newFunctionEnv (fun y hy => (L.own y hy).2) (fun y hy => absurd hy (by simp)) (fun h₁ ns sb => ⟨I1.nolimit.fresh _ sb, ?_⟩) L.kind)
    have kp : ∀ b o, s1.heap.get? b = some o → h₁.get? b = some o := fun b o e => sb.extBut b o (Nat.ne_of_lt (Heap.lt_size e)) (Heap.get?_push_of_some _ e)
    have J : Inv (lamCx X (X.A.deeper (envOfC qg sg s.heap.objs.size g cdg)) (envOfC qg sg s.heap.objs.size g cdg :: X.stack) s1 H1 Ech scope f c') [] σ H1 { s1 with heap := h₁, toks := s1.toks + ([] : List (Str × Value)).length } := lam_start2 I L I1.env0 room.hd grown ns kp
    exact PySem.W.kla_codeExpr (wpAny_mono ((walk _ _ s1 H1 _ (room.deeper _)).run [] _ _ H1 Qn J want) (fun v s' ⟨w, H', J', rv, q⟩ => ⟨w, H', J'.os, J'.bare, J'.base, J'.hok, rv, q⟩) fun _ _ z => z)
  · match r, z with
    | .error e, z => exact tk e s' (XE.of_call I1 (fun cls d H' h => imp cls d H' h) z)
    | .ok (.ret u), z =>
      obtain ⟨v, H2, J2, rv, q⟩ := I1.after z
      exact ⟨v, H2, J2, rv, impQ v H2 q⟩
    | .ok .next, z => exact z.elim
    | .ok .brk, z => exact z.elim
    | .ok .cont, z => exact z.elim
end
/-- the def that calls what it got, in its slot 0 -/
def GivesS (X : Cx) (Ng : List Str) (x : Str) (sg : Scope) (g : Addr) (cdg : Value) (bg : List Stmt) (a : Str) (q : Str) (TT : (XK → Hp → VK → Prop) → Hp → VK → Prop) : Prop :=
  ∀ (f c' : Addr) (s : Shared) (H : Hp) (Q : VK) (tl : XK → Hp → VK → Prop),
    (∀ (W : WX) (pn : List (Addr × Obj)) (xe : Value → Shared → Prop) (p1 p2 : Pos), Takes ((cxOf C8.CX0 X.prog X.w X.K X.mg X.base Ng x sg g cdg X.A X.stack s H C8.E0).tr pn xe) W →
      PE ((cxOf C8.CX0 X.prog X.w X.K X.mg X.base Ng x sg g cdg X.A X.stack s H C8.E0).tr pn xe) (.Call (.Name a p1) [] [] p2) (fun τ HZ Q => ∃ (Ech : XK) (Qn : VK), (∀ cls d H', Ech cls d H' → W cls d τ H') ∧ (∀ v H', Qn v H' → Q v H') ∧ τ[0]? = some (some (.ref f)) ∧ HZ c' = some (CodeO c' q) ∧ tl Ech HZ Qn)) →
    H c' = some (CodeO c' q) → TT tl H Q → ∃ t, PSs (cxOf C8.CX0 X.prog X.w X.K X.mg X.base Ng x sg g cdg X.A X.stack s H C8.E0).nox bg t ∧ t { nx := fun _ H' => Q .non H', rt := Q } (L2.start Ng [.ref f]) H
/-- x(lambda: body), x such a def -/
theorem pe_lamS {X : Cx} {T : List (Addr × Str)} {TT : (XK → Hp → VK → Prop) → Hp → VK → Prop} {x a : Str} {g c P : Addr} {k : Nat} {st : Stmt} {fd : FuncData} {Ng : List Str} {params : Arguments} {body : Expr} {scope : Scope} {t : XK → TE} {p lpos pos : Pos} (hg : Gl X x) (hm : X.mg x = some (.ref g))
    (F : Fun X.K x x st g fd) (hb : Binds X.K fd [a] []) (Sg : FnScope Ng [a] (defScope st)) (hNg : Ng[0]? = some a) (hva : Vis (defScope st) a) (gives : ∀ cdg, GivesS X Ng x (defScope st) g cdg (defBody st) a (X.env.qual ++ "<lambda>") TT)
    (TB : TabB X.base X.mg c P) (code : X.env.code = .ref c) (mT : (P, X.env.qual ++ "<lambda>") ∈ T) (uT : ∀ p ∈ T, p.1 = P → p.2 = X.env.qual ++ "<lambda>") (room : Room (k + 2) X.A) (L : LamS X.env.scope scope) (dfl : defaultsOf params X.env = ([], []))
    (bd : ∀ (q : Str) (cl : List (Str × Addr)) (pm cv ctv : Value), bindArgs (PySem.W.kla_fn "<lambda>" q params body scope cl pm cv ctv) ⟨[], []⟩ = pure [])
    (walk : ∀ (A : Around) (outer : List Env) (s : Shared) (H : Hp) (E : XK) (f c' : Addr), Room k (A.deeper (lamEnv X scope s.heap.objs.size f c')) → PE (lamCx X A outer s H E scope f c') body (t E))
    (hdb : (x == ("__debug__" : Str)) = false := by decide) (hd : (a == ("__debug__" : Str)) = false := by decide) (hcd : (a == ("__classdict__" : Str)) = false := by decide) : PE X (.Call (.Name x p) [.Lambda params body scope lpos] [] pos) (tLam T TT t) := by
  constructor
  intro pins s σ H Q I ⟨hT, want⟩
  refine wpAny_Call_Name_kw (ld_glob I hg hm ?_ hdb)
  refine PySem.W.callWith_K (h₀ := X.base) I.ok.mod.kin F.kp (pos := pos) ?_ (by rfl) (by rfl)
  show wpAny _ _ (spliced ((false, eval (.Lambda params body scope lpos) X.env) :: backTo pos (starEach [] X.env))) _ _ s
  refine Calls.spliced_cons (lam_make2 I TB code mT uT hT dfl (L.has I.ok) fun f c' pm' ctv H1 s' I1 eN T1 of fn fr co => Calls.spliced_nil ⟨I1.kIn, wpAny_call (codeAny_mono (R := CR C8.CX0 X.stack X.prog X.w H1 s' Q C8.E0) ?_ fun r s2 z => ?_)⟩)
  · obtain ⟨oc, od, kV, doc, pm, an, cdv, ct, osl, rfl, lk, cin⟩ := F.ex
    refine run_ofS (N := Ng) (ps := [a]) (us := [.ref f]) (vs := [.ref f]) lk cin Sg room I1.env0 (hb s' [.ref f] I1.kIn rfl) (.cons rfl .nil) rfl fun room' => ?_
    obtain ⟨t', term, q⟩ := gives cdv f c' s' H1 Q (fun E H' Q' => t E σ H' Q') (fun W pn xe p1 p2 tk => pe_actS (i := 0) I1 L of fn fr (bd _ _ _ _ _) tk room' (fun A outer s H E hr2 => walk A outer s H E f c' hr2) hNg hva hd hcd) co (want H1 eN T1)
    exact ⟨t', term.nox, q⟩
  · match r, z with
    | .error e, z => exact (show False from z).elim
    | .ok (.ret u), z => exact I1.after z
    | .ok .next, z => exact z.elim
    | .ok .brk, z => exact z.elim
    | .ok .cont, z => exact z.elim
end L2


/-! isinstance of an exception of an own class, by a tuple of classes -/
namespace L2
open PySem PySem.Spec PyProof.Rows
section
variable {X : Cx}
def rIsXT (K : PySem.W.Frag) : List V → Hp → VK → Prop := fun xs H Q => ∃ (a C : Addr) (fs : List (Str × V)) (tp : Addr) (cs : List V) (ws : List Value) (b : Bool), xs = [.ref a, .ref tp] ∧ H tp = some (.tup cs) ∧ Paired ClsV cs ws ∧ XCls K C ∧ XV H a C fs ∧ PySem.W.kitAny K (.ref C) ws = some b ∧ Q (.bl b) H
end
end L2


/-! _law_told of k02: what it makes of a lambda -/
namespace FT
open PySem L2 TL ClX LamX NdefX
def cnF (i : Nat) : Str := (["InvalidText", "InvalidForest", "UnknownName", "InvalidSizes"] : List Str).getD i ""
def wdF (i : Nat) : Str := (["text", "forest", "unknown"] : List Str).getD i ""
def flF (i : Nat) : Str := (["line", "name", "name"] : List Str).getD i ""
/-- the attribute that is told -/
def FldF (H : Hp) (d : Option Addr) (v : V) (f : Str) : Prop := ∃ dd, d = some dd ∧ H dd = some (.xd [(f, v)])
def TToldF (C : Nat → Addr) : (XK → Hp → VK → Prop) → Hp → VK → Prop := fun tl H Q =>
  tl (fun cls d H' => ∃ i v, i < 3 ∧ cls = .ref (C i) ∧ FldF H' d v (flF i) ∧ ∀ p H'', Same H' H'' → H' p = none → H'' p = some (.tup [.str (wdF i), v]) → Q (.ref p) H'') H
    fun v H' => Q v H'
structure Cl4F (K : PySem.W.Frag) (mg : Str → Option Value) (R : Addr) (C : Nat → Addr) : Prop where
  gR : mg "RolloutError" = some (.ref R)
  g : ∀ i, i < 4 → mg (cnF i) = some (.ref (C i))
  x : ∀ i, i < 3 → XCls K (C i)
  kit : ∀ i j, i < 3 → j < 4 → PySem.W.kitOne K (.ref (C i)) (.ref (C j)) = some (decide (i = j))
  kitV : ∀ i, i < 3 → PySem.W.kitOne K (.ref (C i)) (.type "ValueError") = some true
  te : ∀ i, i < 3 → PySem.W.exmOne K (.ref (C i)) (.ref R) = some true
  no : ∀ i, i < 3 → PySem.W.findIn K (.ref (C i)) (flF i) = some none
theorem XV_monoF {H H' : Hp} {a C : Addr} {fs : List (Str × V)} (s : Same H H') (x : XV H a C fs) : XV H' a C fs := by
  rcases x with ⟨x, e⟩ | ⟨dx, x, y⟩
  · exact .inl ⟨x.elim (fun q => .inl (s _ _ q)) (fun q => .inr (s _ _ q)), e⟩
  · exact .inr ⟨dx, x.elim (fun q => .inl (s _ _ q)) (fun q => .inr (s _ _ q)), y.elim (fun q => .inl (s _ _ q)) (fun q => .inr (s _ _ q))⟩
def marks3 (i : Nat) : List V := (List.range 3).map fun j => .bl (decide (i = j))
theorem upTo3 {Pr : Nat → Prop} (h0 : Pr 0) (h1 : Pr 1) (h2 : Pr 2) : ∀ i, i < 3 → Pr i := by
  intro i hi
  match i, hi with
  | 0, _ => exact h0
  | 1, _ => exact h1
  | 2, _ => exact h2
theorem marks3_flat (i : Nat) : (marks3 i).all flatV = true := rfl
theorem marks3_count : ∀ i, i < 3 → (marks3 i).countP (fun z => eqV z (.bl true)) = 1 := upTo3 rfl rfl rfl
theorem marks3_get (i : Nat) : ∀ m, m < 3 → (marks3 i)[m]? = some (.bl (decide (i = m))) := upTo3 rfl rfl rfl
abbrev NTf : List Str := ["_law_work", "_law_error", "_law_value", "e", "_law_marks"]
theorem scTf : FnScope NTf ["_law_work"] (defScope s__law_told) := ⟨rfl, rfl, rfl, by decide +kernel, rfl, by decide +kernel, by decide +kernel⟩
theorem isi_rdF {K : PySem.W.Frag} {σ : St} {H : Hp} {a Ci D : Addr} {fs : List (Str × V)} {b : Bool} {Q : VK} (h0 : σ[1]? = some (some (.ref a))) (X : XCls K Ci) (xv : XV H a Ci fs) (kit : PySem.W.kitOne K (.ref Ci) (.ref D) = some b) (q : Q (.bl b) H) :
    tCB (rIsX K) (tCons (tVar 1) (tCons (tC (.ref D)) tNil)) σ H Q := ⟨_, h0, a, Ci, fs, .ref D, _, b, rfl, .own _, X, xv, kit, q⟩
theorem toldF_gives {X : Cx} {g R : Addr} {C : Nat → Addr} {cdg : Value} {q : Str} (N : Nm X.mg) (L : Cl4F X.K X.mg R C) : GivesS X NTf "_law_told" (defScope s__law_told) g cdg (defBody s__law_told) "_law_work" q (TToldF C) := by
  intro f c' s H Q tl act hc h
  refine ⟨_, pss_cons (ps_set (i := 1) scTf.nd rfl (.inl rfl) pe_non)
    (pss_cons (ps_try_keep (X := (cxOf C8.CX0 X.prog X.w X.K X.mg X.base NTf "_law_told" (defScope s__law_told) g cdg X.A X.stack s H C8.E0).nox) (c := .ref R) (i := 3)
      rfl rfl rfl scTf.nd rfl rfl ⟨rfl, by decide, .inl L.gR⟩ LamX.takes0 (fun W pn xe tk _ => pss_one (ps_set (i := 2) scTf.nd rfl (.inl rfl) (act W pn xe _ _ tk))) (fun a oe cls d pn hz hf => pss_one (ps_set (i := 1) scTf.nd rfl (.inl rfl) (pv 3))))
    (pss_cons (ps_if (pt_cmpR op_isN (pv 1) pe_non (nomark _)) (pss_one (ps_ret (pv 2))) pss_nil)
    (pss_cons (ps_set (i := 4) scTf.nd rfl (.inl rfl) (pe_lst (pa_cons (pe_callB call_isX (by rfl) N.isi (by decide +kernel) (pa_cons (pv 1) (pa_cons (pe_glob (v := .ref (C 0)) rfl (L.g 0 (by decide)) rfl) pa_nil))) (pa_cons (pe_callB call_isX (by rfl) N.isi (by decide +kernel) (pa_cons (pv 1) (pa_cons (pe_glob (v := .ref (C 1)) rfl (L.g 1 (by decide)) rfl) pa_nil)))
      (pa_cons (pe_callB call_isX (by rfl) N.isi (by decide +kernel) (pa_cons (pv 1) (pa_cons (pe_glob (v := .ref (C 2)) rfl (L.g 2 (by decide)) rfl) pa_nil))) pa_nil)))))
    (pss_cons (ps_if (PW.pt (pw_or (pt_cmpR op_ne (pe_bm PySem.F.plainAttrs_list PySem.F.slot_list_count PySem.F.type_list_count mt_countF (pv 4) (pa_cons pe_bl pa_nil)) pe_int (nomark _))
        (pw_or (pt_val (pe_callB call_isX (by rfl) N.isi (by decide +kernel) (pa_cons (pv 1) (pa_cons (pe_glob (v := .ref (C 3)) rfl (L.g 3 (by decide)) rfl) pa_nil))))
        (pw_or1 (pt_not (pt_val (pe_callB call_isX (by rfl) N.isi (by decide +kernel) (pa_cons (pv 1) (pa_cons (pe_bltn (v := .ty "ValueError") (u := .type "ValueError") (by rfl) N.vE (by decide +kernel) rfl) pa_nil))))))))) (pss_one (ps_ret (pe_tup (pa_cons pe_str (pa_cons pe_non pa_nil))))) pss_nil)
    (pss_cons (ps_if (pt_val (pe_ix ix_list (pv 4) pe_int (fun _ _ => rfl))) (pss_one (ps_ret (pe_tup (pa_cons pe_str (pa_cons (pe_xfld (pv 1)) pa_nil))))) pss_nil)
    (pss_one (ps_ret (pe_tup (pa_cons (pe_ix ix_list (pe_lst (pa_cons pe_str (pa_cons pe_str pa_nil))) (pe_callTy call_int1 (by rfl) N.int (by decide +kernel) (pa_cons (pe_ix ix_list (pv 4) pe_int (fun _ _ => rfl)) pa_nil)) (fun _ _ => rfl)) (pa_cons (pe_xfld (pv 1)) pa_nil)))))))))), ?_⟩
  have big : 1000 ≤ sizeLine := by decide
  refine ⟨_, _, fun cls d H' z => ?_, fun v H' z => ?_, rfl, hc, h⟩
  · obtain ⟨i, v, hi, rfl, hd, k⟩ := z
    refine ⟨true, C i, rfl, L.te i hi, fun _ a ha => ⟨_, rfl, ?_⟩, fun z => nomatch z⟩
    obtain ⟨H2, e2⟩ : ∃ X, X = upd H' a (exg a (C i) d) := ⟨_, rfl⟩
    have s2 : Same H' H2 := e2 ▸ same_new ha
    obtain ⟨dd, rfl, hdd⟩ := hd
    have xv : XV H2 a (C i) [(flF i, v)] := .inr ⟨dd, .inr (by rw [e2]; exact upd_same), .inr (s2 _ _ hdd)⟩
    have hfs : ([(flF i, v)] : List (Str × V)).lookup (flF i) = some v := by simp [List.lookup]
    subst e2
    have Xi := L.x i hi
    refine ⟨_, rfl, rfl, _, rfl, iteF ?_⟩
    refine isi_rdF rfl Xi xv (L.kit i 0 hi (by decide)) (isi_rdF rfl Xi xv (L.kit i 1 hi (by decide)) (isi_rdF rfl Xi xv (L.kit i 2 hi (by decide)) ⟨by show 3 ≤ sizeLine; omega, fun p1 n1 => ?_⟩))
    obtain ⟨H5, e5⟩ : ∃ X, X = upd (upd H' a (exg a (C i) (some dd))) p1 (.lst (marks3 i)) := ⟨_, rfl⟩
    have a5 : H5 p1 = some (.lst (marks3 i)) := by rw [e5]; exact upd_same
    have s25 : Same (upd H' a (exg a (C i) (some dd))) H5 := by
      rw [e5]
      exact same_new n1
    have e5 : upd (upd H' a (exg a (C i) (some dd))) p1 (.lst ([.bl (decide (i = 0)), .bl (decide (i = 1)), .bl (decide (i = 2))] : List V)) = H5 := e5.symm
    rw [e5]
    clear e5
    have xv5 := XV_monoF s25 xv
    have s05 : Same H' H5 := s2.trans s25
    refine ⟨_, rfl, .inl ⟨rfl, _, SqL.of a5⟩, p1, _, .bl true, rfl, rfl, SqL.of a5, marks3_flat i, rfl, rfl, _, rfl, ?_⟩
    rw [marks3_count i hi]
    refine iteF ?_
    refine isi_rdF rfl Xi xv5 (L.kit i 3 hi (by decide)) ⟨_, rfl, ?_⟩
    rw [decide_eq_false (show ¬ i = 3 by omega)]
    refine iteF ?_
    refine ⟨_, rfl, a, C i, _, .ty "ValueError", .type "ValueError", true, rfl, .ty _, Xi, xv5, L.kitV i hi, true, rfl, iteF ?_⟩
    have tell : ∀ r, H5 r = none → Q (.ref r) (upd H5 r (.tup [.str (wdF i), v])) := fun r nr => k r _ (s05.trans (same_new nr)) (s05.free nr) upd_same
    refine ⟨_, rfl, p1, marks3 i, 0, .bl (decide (i = 0)), rfl, rfl, SqL.of a5, atI_nat (j := 0) (marks3_get i 0 (by decide)), _, rfl, ?_⟩
    by_cases i0 : i = 0
    · subst i0
      exact iteT ⟨_, rfl, a, C 0, _, v, rfl, xv5, Xi, L.no 0 hi, hfs, by show 2 ≤ sizeLine; omega, tell⟩
    rw [decide_eq_false i0]
    refine iteF ?_
    refine ⟨by show 2 ≤ sizeLine; omega, fun pl npl => ?_⟩
    have s6 : Same H5 (upd H5 pl (.lst [.str "forest", .str "unknown"])) := same_new npl
    refine ⟨_, rfl, p1, marks3 i, 2, .bl (decide (i = 2)), rfl, rfl, SqL.of (s6 _ _ a5), atI_nat (j := 2) (marks3_get i 2 (by decide)), .inr ⟨_, rfl, ?_⟩⟩
    refine ⟨pl, _, _, .str (wdF i), rfl, rfl, SqL.of upd_same, ?_, ?_⟩
    · have : i = 1 ∨ i = 2 := by omega
      rcases this with rfl | rfl
      · exact atI_nat (j := 0) rfl
      · exact atI_nat (j := 1) rfl
    have fn : flF i = "name" := by
      have : i = 1 ∨ i = 2 := by omega
      rcases this with rfl | rfl <;> rfl
    have hno := L.no i hi
    rw [fn] at hno
    have hfs2 : List.lookup ("name" : Str) [(flF i, v)] = some v := by rw [fn]; simp [List.lookup]
    refine ⟨_, rfl, a, C i, _, v, rfl, XV_monoF s6 xv5, Xi, hno, hfs2, by show 2 ≤ sizeLine; omega, fun r nr => ?_⟩
    exact k r _ ((s05.trans s6).trans (same_new nr)) ((s05.trans s6).free nr) upd_same
  · exact ⟨_, rfl, rfl, _, rfl, iteT ⟨_, rfl, z⟩⟩
end FT


namespace FT
open PySem L2 TL ClX
theorem valV_mem {kvs : List (Key × V)} {k : Key} {v : V} (h : valV kvs k = some v) : (k, v) ∈ kvs := by
  unfold valV at h
  obtain ⟨p, hp, e⟩ := Option.map_eq_some_iff.mp h
  have m := List.mem_of_find?_eq_some hp
  have q : p.1 = k := of_decide_eq_true (List.find?_some (p := fun kv : Key × V => decide (kv.1 = k)) hp)
  obtain ⟨k', v'⟩ := p
  cases e
  cases (show k' = k from q)
  exact m
theorem feas_some (ts : List (Str × Str)) (n : Int) (kvs : List (Key × V)) : feas ts n (some kvs) = if kvs.length ≠ ts.length then some .non else if (ts.map Prod.fst).all (fun a => (valV kvs (Sum.inr a)).isSome) = false then some .non else
    match (ts.map Prod.fst).find? (badKey kvs) with
    | some a => some (.str a)
    | none => ((("" : Str) :: ts.map Prod.fst).find? fun p => decide (resid ts n (szOf kvs) p < 0)).map V.str := rfl
end FT


namespace FT
open PySem L2 TL ClX
def kvsOf (o : Option (List (Key × V))) : List (Key × V) := o.getD []
def numV (v : V) : Int := match v with
  | .int n => n
  | _ => 0
/-- what amounts raises -/
def amE (CU CS : Addr) (ts : List (Str × Str)) (uv : V) (o1 o2 : Option (List (Key × V))) : Option Err := (szE CU CS ts uv o1).or (feE CS ts (numV uv) o2)
def amt (o1 o2 : Option (List (Key × V))) (a : Str) : Int := szOf (kvsOf o2) a - szOf (kvsOf o1) a
def absI (z : Int) : Int := if z < 0 then -z else z
def spAmtOf (CF : Addr) : Sp := fun vs H Q _ => ∃ (x q1 q2 : Addr) (ts : List (Str × Str)) (k1 k2 : List (Key × V)), vs = [.ref x, .ref q1, .ref q2] ∧ FAt CF H x ts ∧ TreeOk ts ∧ H q1 = some (.dK k1) ∧ H q2 = some (.dK k2) ∧
  (∀ a ∈ ts.map Prod.fst, valV k1 (Sum.inr a) = some (.int (szOf k1 a))) ∧ (∀ a ∈ ts.map Prod.fst, valV k2 (Sum.inr a) = some (.int (szOf k2 a))) ∧
  ∀ p H', Same H H' → H p = none → H' p = some (.dK (tblI (ts.map Prod.fst) fun a => szOf k2 a - szOf k1 a)) → Q (.ref p) H'
def spAmounts (K : PySem.W.Frag) (CF CU CS : Addr) : Sp := fun vs H Q E => ∃ (x : Addr) (uv sv nv : V) (ts : List (Str × Str)) (o1 o2 : Option (List (Key × V))), vs = [.ref x, uv, sv, nv] ∧ FAt CF H x ts ∧ TreeOk ts ∧ IsDat K H uv ∧ SzV K H sv o1 ∧ SzV K H nv o2 ∧
  match amE CU CS ts uv o1 o2 with
  | none => ∀ p H', Same H H' → H p = none → H' p = some (.dK (tblI (ts.map Prod.fst) (amt o1 o2))) → Q (.ref p) H'
  | some e => Out H E e
def spLeast (K : PySem.W.Frag) (CF CU CS : Addr) : Sp := fun vs H Q E => ∃ (x : Addr) (uv sv nv : V) (ts : List (Str × Str)) (o1 o2 : Option (List (Key × V))), vs = [.ref x, uv, sv, nv] ∧ FAt CF H x ts ∧ TreeOk ts ∧ IsDat K H uv ∧ SzV K H sv o1 ∧ SzV K H nv o2 ∧
  match amE CU CS ts uv o1 o2 with
  | none => ∀ H', Same H H' → Q (.int ((ts.map Prod.fst).map fun a => absI (amt o1 o2 a)).sum) H'
  | some e => Out H E e
end FT


namespace FT
open PySem L2 TL ClX LiI
/-! ### crossings -/
def crs (g : Str → Int) (ts : List (Str × Str)) : List (Str × Str × Int) := ts.flatMap fun p => if 0 < g p.1 then [(p.2, p.1, g p.1)] else if g p.1 < 0 then [(p.1, p.2, - g p.1)] else []
def EdG (H : Hp) (rs : List Addr) (es : List (Str × Str × Int)) : Prop := Paired (fun (r : Addr) (e : Str × Str × Int) => H r = some (.tup [.str e.1, .str e.2.1, .int e.2.2])) rs es
theorem EdG.mono {H H' : Hp} (s : Same H H') : ∀ {rs : List Addr} {es : List (Str × Str × Int)}, EdG H rs es → EdG H' rs es
  | _, _, .nil => .nil
  | _, _, .cons h t => .cons (s _ _ h) (EdG.mono s t)
theorem EdG.push {H : Hp} {D : Addr} {xs : List V} {o : HO} (e : H D = some (.lst xs)) : ∀ {rs : List Addr} {es : List (Str × Str × Int)}, EdG H rs es → EdG (upd H D o) rs es
  | _, _, .nil => .nil
  | _, _, .cons h t => .cons (by rw [upd_ne (ne_of h e (by intro z; cases z))]; exact h) (EdG.push e t)
theorem EdG.snoc {H : Hp} {r : Addr} {e : Str × Str × Int} (h : H r = some (.tup [.str e.1, .str e.2.1, .int e.2.2])) : ∀ {rs : List Addr} {es : List (Str × Str × Int)}, EdG H rs es → EdG H (rs ++ [r]) (es ++ [e])
  | _, _, .nil => .cons h .nil
  | _, _, .cons q t => .cons q (EdG.snoc h t)
theorem EdG.len {H : Hp} : ∀ {rs : List Addr} {es : List (Str × Str × Int)}, EdG H rs es → rs.length = es.length
  | _, _, .nil => rfl
  | _, _, .cons _ t => congrArg (· + 1) (EdG.len t)
theorem EdG.at_ {H : Hp} {rs : List Addr} {es : List (Str × Str × Int)} (p : EdG H rs es) {i : Nat} {r : Addr} (h : rs[i]? = some r) : ∃ e, es[i]? = some e ∧ H r = some (.tup [.str e.1, .str e.2.1, .int e.2.2]) := LiI.paired_get p h
def spCross (CF : Addr) : Sp := fun vs H Q _ => ∃ (x q : Addr) (ts : List (Str × Str)) (g : Str → Int), vs = [.ref x, .ref q] ∧ FAt CF H x ts ∧ TreeOk ts ∧ H q = some (.dK (tblI (ts.map Prod.fst) g)) ∧
  ∀ p rs H', Same H H' → H p = none → H' p = some (.lst (rs.map V.ref)) → EdG H' rs (crs g ts) → Q (.ref p) H'
end FT


/-! plain: lists of users by place, how a change of sizes moves them, that the way back restores them. No program here. -/
namespace FT
open PySem L2 TL
/-! ### sums -/
/-! ### places, neighbours -/
def pls (ts : List (Str × Str)) : List Str := "" :: ts.map Prod.fst
theorem mem_kids {ts : List (Str × Str)} {k p : Str} : k ∈ kids ts p ↔ (k, p) ∈ ts := by
  unfold kids
  constructor
  · intro h
    obtain ⟨q, hq, e⟩ := List.mem_map.mp h
    obtain ⟨h1, h2⟩ := List.mem_filter.mp hq
    rw [← e, ← of_decide_eq_true h2]
    exact h1
  · exact fun h => List.mem_map.mpr ⟨_, List.mem_filter.mpr ⟨h, decide_eq_true rfl⟩, rfl⟩
theorem kid_par {ts : List (Str × Str)} (o : TreeOk ts) {k p : Str} : k ∈ kids ts p ↔ par ts k = some p := ⟨fun h => par_of o.nd (mem_kids.mp h), fun h => mem_kids.mpr (par_mem h)⟩
/-- the other ends of the edges of a place -/
def adj (ts : List (Str × Str)) (p : Str) : List Str := (if p = "" then [] else [(par ts p).getD ""]) ++ kids ts p
/-! ### how many users cross an edge -/
def lv (ts : List (Str × Str)) (c : Str → Int) (p o : Str) : Nat := if par ts o = some p ∧ 0 < c o then (c o).toNat else if par ts p = some o ∧ c p < 0 then (- c p).toNat else 0
/-! ### an order of the places that all moves follow -/
def sg (z : Int) : Int := if 0 < z then 1 else if z < 0 then -1 else 0
def phi (ts : List (Str × Str)) (c : Str → Int) (p : Str) : Int := ((pathOf ts p).map fun x => sg (c x)).sum
def lvl (ts : List (Str × Str)) (c : Str → Int) (p : Str) : Nat := (phi ts c p + 12).toNat
/-! ### a change moves the lists -/
/-- groups that come to a place, in the order in which they are put behind its list -/
def ins (ts : List (Str × Str)) (G : Str → Str → List Int) (p : Str) : List Int := ((adj ts p).reverse.map fun o => G o p).flatten
/-- groups that leave a place -/
def outs (ts : List (Str × Str)) (G : Str → Str → List Int) (p : Str) : List Int := ((adj ts p).reverse.map fun o => G p o).flatten
def Moved (ts : List (Str × Str)) (c : Str → Int) (L L' : Str → List Int) : Prop := ∃ G : Str → Str → List Int, (∀ p, Pl ts p → ∀ o ∈ adj ts p, (G p o).length = lv ts c p o) ∧ ∀ p, Pl ts p → L p ++ ins ts G p = L' p ++ outs ts G p
/-- the lengths are the residents -/
def Lens (ts : List (Str × Str)) (n : Int) (sz : Str → Int) (L : Str → List Int) : Prop := ∀ p, Pl ts p → ((L p).length : Int) = resid ts n sz p
end FT


/-! plain: sizes of lists; every user at one place; a user's way through the tree. -/
namespace FT
open PySem L2 TL
/-! ### sizes and lengths -/
def under (ts : List (Str × Str)) (a : Str) : List Str := (ts.map Prod.fst).filter fun b => decide (a ∈ pathOf ts b)
def lsz (ts : List (Str × Str)) (L : Str → List Int) (a : Str) : Int := ((under ts a).map fun b => ((L b).length : Int)).sum
/-- the paths' flags rank no higher -/
theorem path_rank {ts : List (Str × Str)} (o : TreeOk ts) {rk : Str → Nat} (r : Rk ts rk) : ∀ (n : Nat) (a : Str), Pl ts a → (a ≠ "" → rk a < n) → ∀ z ∈ pathOf ts a, rk z ≤ rk a := by
  intro n
  induction n with
  | zero =>
    intro a ha h z hz
    by_cases e : a = ""
    · subst e
      rw [path_root] at hz
      cases hz
    · exact absurd (h e) (Nat.not_lt_zero _)
  | succ n ih =>
    intro a ha h z hz
    by_cases e : a = ""
    · subst e
      rw [path_root] at hz
      cases hz
    · obtain ⟨p, ep, hp, _⟩ := o.step r (ha.resolve_left e)
      rw [path_step o (ha.resolve_left e) ep] at hz
      rcases List.mem_append.mp hz with hz | hz
      · have hh := h e
        rcases hp with e0 | ⟨hp, lt⟩
        · subst e0
          rw [path_root] at hz
          cases hz
        · have := ih p (.inr hp) (fun _ => by omega) z hz
          omega
      · rw [List.mem_singleton.mp hz]
        exact Nat.le_refl _
def inP (ts : List (Str × Str)) (a x : Str) : Int := if a ∈ pathOf ts x then 1 else 0
/-! ### every user at one place -/
def usr (n : Nat) : List Int := (List.range n).map fun k : Nat => (k : Int)
def Val (ts : List (Str × Str)) (n : Nat) (L : Str → List Int) : Prop := ((pls ts).flatMap L).Perm (usr n)
/-- the place of a user -/
def plOf (ts : List (Str × Str)) (L : Str → List Int) (u : Int) : Str := ((pls ts).find? fun p => decide (u ∈ L p)).getD ""
/-! ### a user's way -/
inductive Rc (ts : List (Str × Str)) (c : Str → Int) (p : Str) : Str → Prop where
  | refl : Rc ts c p p
  | step {q x : Str} : Rc ts c p q → 0 < lv ts c q x → Rc ts c p x
end FT


/-! lists of pairs of a text and a value; dict(..) of them. -/
namespace FT
open PySem L2 TL ClX
/-- pairs (a, g a) at the addresses rs -/
def PrG (g : Str → V) (H : Hp) (rs : List Addr) (l : List Str) : Prop := Paired (fun (r : Addr) (a : Str) => H r = some (.tup [.str a, g a])) rs l
theorem PrG.imp {g : Str → V} {H H' : Hp} (m : ∀ r (a : Str), H r = some (.tup [.str a, g a]) → H' r = some (.tup [.str a, g a])) : ∀ {rs : List Addr} {l : List Str}, PrG g H rs l → PrG g H' rs l
  | _, _, .nil => .nil
  | _, _, .cons h t => .cons (m _ _ h) (PrG.imp m t)
theorem PrG.mono {g : Str → V} {H H' : Hp} {rs : List Addr} {l : List Str} (s : Same H H') (p : PrG g H rs l) : PrG g H' rs l := p.imp fun r a e => s _ _ e
theorem PrG.push {g : Str → V} {H : Hp} {rs : List Addr} {l : List Str} {D : Addr} {xs : List V} {o : HO} (e : H D = some (.lst xs)) (p : PrG g H rs l) : PrG g (upd H D o) rs l := p.imp fun r a q => by
  rw [upd_ne (ne_of q e (by intro z; cases z))]
  exact q
theorem PrG.snoc {g : Str → V} {H : Hp} {r : Addr} {a : Str} (h : H r = some (.tup [.str a, g a])) : ∀ {rs : List Addr} {l : List Str}, PrG g H rs l → PrG g H (rs ++ [r]) (l ++ [a])
  | _, _, .nil => .cons h .nil
  | _, _, .cons q t => .cons q (PrG.snoc h t)
theorem PrG.len {g : Str → V} {H : Hp} : ∀ {rs : List Addr} {l : List Str}, PrG g H rs l → rs.length = l.length
  | _, _, .nil => rfl
  | _, _, .cons _ t => congrArg (· + 1) (PrG.len t)
theorem PrG.at_ {g : Str → V} {H : Hp} {rs : List Addr} {l : List Str} (p : PrG g H rs l) {i : Nat} {r : Addr} (h : rs[i]? = some r) : ∃ a, l[i]? = some a ∧ H r = some (.tup [.str a, g a]) := LiI.paired_get p h
/-- as dict(..) asks it -/
theorem PrG.kvs {K : PySem.W.Frag} {g : Str → V} {H : Hp} : ∀ {rs : List Addr} {l : List Str}, PrG g H rs l → Paired (fun (p : Addr) (kv : Key × V) => SqT K H p [kV kv.1, kv.2]) rs (kvT (l.map fun a => (a, g a)))
  | _, _, .nil => .nil
  | _, _, .cons h t => .cons (.inl (.inl h)) (PrG.kvs t)
theorem merge_app : ∀ (more : List (Str × V)) (acc : List (Str × V)), ((acc ++ more).map Prod.fst).Nodup → mergeK (kvT acc) (kvT more) = kvT (acc ++ more)
  | [], acc, _ => by rw [List.append_nil] <;> rfl
  | p :: more, acc, nd => by
    have e : acc ++ p :: more = (acc ++ [p]) ++ more := by rw [List.append_assoc] <;> rfl
    have fresh : p.1 ∉ acc.map Prod.fst := fun h => by
      rw [List.map_append] at nd
      obtain ⟨_, _, d⟩ := List.nodup_append.mp nd
      exact d _ h _ (List.mem_cons_self ..) rfl
    show mergeK (putK (kvT acc) (Sum.inr p.1) p.2) (kvT more) = _
    rw [kvT_put fresh, e]
    rw [e] at nd
    exact merge_app more _ nd
theorem merge_nd {l : List (Str × V)} (nd : (l.map Prod.fst).Nodup) : mergeK [] (kvT l) = kvT l := merge_app l [] nd
theorem map_fst (l : List Str) (g : Str → V) : (l.map fun a => (a, g a)).map Prod.fst = l := by rw [List.map_map]; exact List.map_id _
theorem put_old {t : List (Str × Str)} {f z z' : Str} (n : f ∉ t.map Prod.fst) : putK (prs (t ++ [(f, z)])) (Sum.inr f) (V.str z') = prs (t ++ [(f, z')]) := by
  have key : ∀ t : List (Str × Str), f ∉ t.map Prod.fst → ((t.map fun p => (p.1, V.str p.2)).map fun p => if p.1 = f then (p.1, V.str z') else p) = t.map fun p => (p.1, V.str p.2) := by
    intro t
    induction t with
    | nil => intro _; rfl
    | cons p t ih =>
      intro n
      rw [List.map_cons, List.mem_cons] at n
      rw [List.map_cons, List.map_cons, ih fun h => n (.inr h), if_neg (fun e => n (.inl e.symm))]
  unfold prs
  rw [kvT_putT]
  unfold putT
  rw [prs_fst, if_pos (by rw [List.map_append]; exact List.mem_append_right _ (List.mem_cons_self ..)), List.map_append, List.map_append, List.map_append, key t n]
  congr 2
  show [if f = f then (f, V.str z') else (f, V.str z)] = [(f, V.str z')]
  rw [if_pos rfl]
/-- the place of an item -/
theorem idx_at {l : List Str} {i : Nat} {a : Str} (nd : l.Nodup) (h : l[i]? = some a) : l.idxOf a = i := by
  have m : a ∈ l := List.mem_of_getElem? h
  have lt := List.idxOf_lt_length_of_mem m
  have e : l[l.idxOf a]? = some a := by rw [List.getElem?_eq_getElem lt, List.getElem_idxOf lt]
  exact (List.getElem?_inj lt nd).mp (e.trans h.symm)
/-- a tree from the order of its making -/
theorem tree_of {t : List (Str × Str)} (h1 : 1 ≤ t.length) (h2 : t.length ≤ 12) (nd : (t.map Prod.fst).Nodup) (nm : ∀ z ∈ t.map Prod.fst, NameL z) (up : ∀ (i : Nat) (p : Str × Str), t[i]? = some p → p.2 = "" ∨ p.2 ∈ (t.map Prod.fst).take i) : TreeOk t := by
  refine ⟨h1, h2, nd, nm, fun a => (t.map Prod.fst).idxOf a, fun p hp => ?_⟩
  obtain ⟨i, hi⟩ := List.mem_iff_getElem?.mp hp
  have il := (List.getElem?_eq_some_iff.mp hi).1
  have hk : (t.map Prod.fst)[i]? = some p.1 := by rw [List.getElem?_map, hi] <;> rfl
  refine ⟨by show (t.map Prod.fst).idxOf p.1 < _; rw [idx_at nd hk]; exact il, (up i p hi).imp id fun m => ⟨List.mem_of_mem_take m, ?_⟩⟩
  show (t.map Prod.fst).idxOf p.2 < (t.map Prod.fst).idxOf p.1
  rw [idx_at nd hk]
  obtain ⟨j, hj⟩ := List.mem_iff_getElem?.mp m
  have jl := (List.getElem?_eq_some_iff.mp hj).1
  rw [List.length_take] at jl
  rw [List.getElem?_take, if_pos (by omega)] at hj
  rw [idx_at nd hj]
  omega
end FT


/-! dicts from texts to any values; lists by place in the heap. -/
namespace FT
open PySem L2 TL ClX
def tblV (l : List Str) (g : Str → V) : List (Key × V) := kvT (l.map fun a => (a, g a))
theorem tblV_val {l : List Str} {g : Str → V} {a : Str} (h : a ∈ l) : valV (tblV l g) (Sum.inr a) = some (g a) := by
  unfold tblV
  rw [kvT_val]
  induction l with
  | nil => cases h
  | cons b l ih =>
    rw [List.map_cons, look_cons]
    by_cases e : b = a
    · subst e
      exact if_pos rfl
    · rw [if_neg e]
      exact ih ((List.mem_cons.mp h).resolve_left fun z => e z.symm)
/-- lists by place: the dict at q, the list of p at r p -/
def LsAt (H : Hp) (q : Addr) (l : List Str) (r : Str → Addr) (L : Str → List Int) : Prop := H q = some (.dK (tblV l fun p => .ref (r p))) ∧ ∀ p ∈ l, H (r p) = some (.lst ((L p).map V.int))
theorem LsAt.mono {H H' : Hp} {q : Addr} {l : List Str} {r : Str → Addr} {L : Str → List Int} (s : Same H H') (h : LsAt H q l r L) : LsAt H' q l r L := ⟨s _ _ h.1, fun p hp => s _ _ (h.2 p hp)⟩
theorem LsAt.congr {H : Hp} {q : Addr} {l : List Str} {r : Str → Addr} {L L' : Str → List Int} (h : LsAt H q l r L) (e : ∀ p ∈ l, L p = L' p) : LsAt H q l r L' := ⟨h.1, fun p hp => by rw [h.2 p hp, e p hp]⟩
theorem LsAt.get {H : Hp} {q : Addr} {l : List Str} {r : Str → Addr} {L : Str → List Int} (h : LsAt H q l r L) {p : Str} (hp : p ∈ l) : DGet H q (.str p) (some (.ref (r p))) := by
  have z := DGet.k (k := Sum.inr p) h.1
  rw [tblV_val hp] at z
  exact z
end FT


/-! sums -/
namespace FT
open PySem
theorem pair_lenZ {α β : Type} {F : α → β → Prop} : ∀ {xs : List α} {ys : List β}, Paired F xs ys → xs.length = ys.length
  | _, _, .nil => rfl
  | _, _, .cons _ t => congrArg (· + 1) (pair_lenZ t)
end FT


/-! a parent read from a forest's dict -/
namespace FT
open PySem L2 TL ClX
theorem Rd.same {H H' : Hp} {a : Addr} {u : HO} (s : Same H H') (h : Rd H a u) : Rd H' a u := h.imp (fun e => s _ _ e) fun ⟨o, e⟩ => ⟨o, s _ _ e⟩
theorem dget_prs {H : Hp} {q : Addr} {ts : List (Str × Str)} {a p : Str} (h : Rd H q (.dK (prs ts))) (e : par ts a = some p) : DGet H q (.str a) (some (.str p)) := .inl ⟨prs ts, Sum.inr a, h, rfl, by rw [val_prs, e] <;> rfl⟩
end FT


/-! path_in, need_place, Forest.under, edges_at -/
namespace FT
open PySem L2 TL ClX
def spPathIn : Sp := fun vs H Q _ => ∃ (q : Addr) (ts : List (Str × Str)) (a : Str), vs = [.ref q, .str a] ∧ Rd H q (.dK (prs ts)) ∧ TreeOk ts ∧ Pl ts a ∧ ∀ p H', Same H H' → H p = none → H' p = some (.tup ((pathOf ts a).map V.str)) → Q (.ref p) H'
def spNeedPl (CF : Addr) : Sp := fun vs H Q _ => ∃ (x : Addr) (ts : List (Str × Str)) (a : Str), vs = [.ref x, .str a] ∧ FAt CF H x ts ∧ TreeOk ts ∧ Pl ts a ∧ Q .non H
def spEdgesAt (CF : Addr) : Sp := fun vs H Q _ => ∃ (x : Addr) (ts : List (Str × Str)) (a : Str), vs = [.ref x, .str a] ∧ FAt CF H x ts ∧ TreeOk ts ∧ Pl ts a ∧ ∀ p H', Same H H' → H p = none → H' p = some (.lst ((adj ts a).map V.str)) → Q (.ref p) H'
def pathLen (ts : List (Str × Str)) (σ : St) : Nat := match σ[1]? with
  | some (some (V.str a)) => (pathOf ts a).length
  | _ => 0
section
variable {P : Program} {w : World} {K : PySem.W.Frag} {mg : Str → Option Value} {base : Heap}
abbrev NPi : List Str := ["above", "place", "path"]
abbrev NNp : List Str := ["forest", "place"]
end
end FT


/-! methods and properties, as a whole -/
namespace FT
open PySem L2 TL ClX
/-- a method of a class, as a whole -/
structure Mt (P : Program) (w : World) (K : PySem.W.Frag) (mg : Str → Option Value) (base : Heap) (CX : CXT) (k : Nat) (C : Addr) (m : Str) (ps : List Str) (sp : Sp) (f : Addr) (fd : FuncData) : Prop where
  mt : Meth K C m f
  fn : FnOk P w K mg base CX k f fd ps sp
  bn : Binds K fd ps []
/-- a property, at any level -/
structure PrN (P : Program) (w : World) (K : PySem.W.Frag) (mg : Str → Option Value) (base : Heap) (k : Nat) (C : Addr) (x : Str) (sp : Sp) (p g : Addr) (fd : FuncData) : Prop where
  pr : PropOf K C x p g
  fn : FnOk P w K mg base CX0 k g fd ["self"] sp
  bn : Binds K fd ["self"] []
end FT


/-! Assignment: made of valid places; its places -/
namespace FT
open PySem L2 TL ClX
/-- the class Assignment -/
structure Ac (K : PySem.W.Frag) (mg : Str → Option Value) (CA : Addr) (mc : Value) : Prop where
  gA : mg "Assignment" = some (.ref CA)
  rd : CRead K CA mc
  most : ∃ u, CVal K CA mc "MOST" (.int 60) u
  cl : Cls K CA
  nF : NoAttr K CA "own_forest"
  nP : NoAttr K CA "own_places"
/-- an assignment at y: its forest, its places -/
def AAt (CA : Addr) (H : Hp) (y x : Addr) (zs : List Str) : Prop := ∃ dy p, H y = some (.ins CA dy [("own_forest", .ref x), ("own_places", .ref p)]) ∧ H p = some (.lst (zs.map V.str))
theorem AAt.mono {CA y x : Addr} {H H' : Hp} {zs : List Str} (s : Same H H') (h : AAt CA H y x zs) : AAt CA H' y x zs := let ⟨dy, p, e1, e2⟩ := h; ⟨dy, p, s _ _ e1, s _ _ e2⟩
def spAInit (CF CA : Addr) : Sp := fun vs H Q _ => ∃ (y x l dy : Addr) (ts : List (Str × Str)) (zs : List Str), vs = [.ref y, .ref x, .ref l] ∧ H y = some (.ins CA dy []) ∧ FAt CF H x ts ∧ TreeOk ts ∧ H l = some (.lst (zs.map V.str)) ∧ 1 ≤ zs.length ∧ zs.length ≤ 60 ∧ (∀ z ∈ zs, Pl ts z) ∧
  ∀ H', AAt CA H' y x zs → (∀ b o, b ≠ y → H b = some o → H' b = some o) → Q .non H'
def spAPlaces (CA : Addr) : Sp := fun vs H Q _ => ∃ (y x : Addr) (zs : List Str), vs = [.ref y] ∧ AAt CA H y x zs ∧ ∀ p, H p = none → Q (.ref p) (upd H p (.lst (zs.map V.str)))
section
variable {P : Program} {w : World} {K : PySem.W.Frag} {mg : Str → Option Value} {base : Heap}
end
end FT


/-! Assignment: forest, total, sizes, users_of, at -/
namespace FT
open PySem L2 TL ClX LiI
/-- the numbers below n with a mark -/
def selU (n : Nat) (c : Nat → Bool) : List Int := ((List.range n).filter c).map fun i : Nat => (i : Int)
def atC (zs : List Str) (p : Str) (i : Nat) : Bool := decide (zs[i]? = some p)
def hasC (ts : List (Str × Str)) (zs : List Str) (a : Str) (i : Nat) : Bool := match zs[i]? with
  | some z => decide (a ∈ pathOf ts z)
  | none => false
/-- the users at a place; those that have a flag; how many -/
def atU (zs : List Str) (p : Str) : List Int := selU zs.length (atC zs p)
def hasU (ts : List (Str × Str)) (zs : List Str) (a : Str) : List Int := selU zs.length (hasC ts zs a)
def szZ (ts : List (Str × Str)) (zs : List Str) (a : Str) : Int := ((zs.filter fun z => decide (a ∈ pathOf ts z)).length : Int)
def spAForest (CA : Addr) : Sp := fun vs H Q _ => ∃ (y x : Addr) (zs : List Str), vs = [.ref y] ∧ AAt CA H y x zs ∧ Q (.ref x) H
def spATotal (CA : Addr) : Sp := fun vs H Q _ => ∃ (y x : Addr) (zs : List Str), vs = [.ref y] ∧ AAt CA H y x zs ∧ Q (.int (zs.length : Int)) H
def spSizesOf (CF : Addr) : Sp := fun vs H Q _ => ∃ (x l : Addr) (ts : List (Str × Str)) (zs : List Str), vs = [.ref x, .ref l] ∧ FAt CF H x ts ∧ TreeOk ts ∧ H l = some (.lst (zs.map V.str)) ∧ (∀ z ∈ zs, Pl ts z) ∧
  ∀ (p : Addr) (H' : Hp), Same H H' → H p = none → H' p = some (.dK (tblI (ts.map Prod.fst) (szZ ts zs))) → Q (.ref p) H'
def spASizes (CF CA : Addr) : Sp := fun vs H Q _ => ∃ (y x : Addr) (ts : List (Str × Str)) (zs : List Str), vs = [.ref y] ∧ AAt CA H y x zs ∧ FAt CF H x ts ∧ TreeOk ts ∧ (∀ z ∈ zs, Pl ts z) ∧
  ∀ (p : Addr) (H' : Hp), Same H H' → H p = none → H' p = some (.dK (tblI (ts.map Prod.fst) (szZ ts zs))) → Q (.ref p) H'
def spAAt (CF CA : Addr) : Sp := fun vs H Q _ => ∃ (y x : Addr) (ts : List (Str × Str)) (zs : List Str) (a : Str), vs = [.ref y, .str a] ∧ AAt CA H y x zs ∧ FAt CF H x ts ∧ TreeOk ts ∧ zs.length ≤ 1000 ∧ Pl ts a ∧
  ∀ (p : Addr) (H' : Hp), Same H H' → H p = none → H' p = some (.lst ((atU zs a).map V.int)) → Q (.ref p) H'
def spAUsers (CF CA : Addr) : Sp := fun vs H Q _ => ∃ (y x : Addr) (ts : List (Str × Str)) (zs : List Str) (a : Str), vs = [.ref y, .str a] ∧ AAt CA H y x zs ∧ FAt CF H x ts ∧ TreeOk ts ∧ (∀ z ∈ zs, Pl ts z) ∧ zs.length ≤ 1000 ∧ a ∈ ts.map Prod.fst ∧
  ∀ (p : Addr) (H' : Hp), Same H H' → H p = none → H' p = some (.lst ((hasU ts zs a).map V.int)) → Q (.ref p) H'
def spNeedFl (CF : Addr) : Sp := fun vs H Q _ => ∃ (x : Addr) (ts : List (Str × Str)) (a : Str), vs = [.ref x, .str a] ∧ FAt CF H x ts ∧ TreeOk ts ∧ a ∈ ts.map Prod.fst ∧ Q .non H
section
variable {P : Program} {w : World} {K : PySem.W.Frag} {mg : Str → Option Value} {base : Heap}
abbrev NSo : List Str := ["forest", "places", "name", "found", "place"]
end
end FT


/-! Assignment.at -/
namespace FT
open PySem L2 TL ClX LiI
section
variable {P : Program} {w : World} {K : PySem.W.Frag} {mg : Str → Option Value} {base : Heap}
abbrev NAt : List Str := ["self", "place", "user", "other"]
end
end FT


/-! need_flag, need_place, Assignment.users_of, at: with any value, either answer -/
namespace FT
open PySem L2 TL ClX LiI
def flagV (ts : List (Str × Str)) (v : V) : Bool := match v with
  | .str z => decide (z ∈ ts.map Prod.fst)
  | _ => false
def placeV (ts : List (Str × Str)) (v : V) : Bool := match v with
  | .str z => decide (z = "" ∨ z ∈ ts.map Prod.fst)
  | _ => false
def strV (v : V) : Str := match v with
  | .str z => z
  | _ => ""
def nmE (CN : Addr) (ok : Bool) (v : V) : Option Err := if ok = true then none else some (.e1 CN "name" v)
theorem nmE_t {CN : Addr} {b : Bool} {v : V} (h : b = true) : nmE CN b v = none := if_pos h
theorem nmE_f {CN : Addr} {b : Bool} {v : V} (h : b = false) : nmE CN b v = some (.e1 CN "name" v) := by
  subst h
  rfl
def spNeedFlE (K : PySem.W.Frag) (CF CN : Addr) : Sp := fun vs H Q E => ∃ (x : Addr) (ts : List (Str × Str)) (v : V), vs = [.ref x, v] ∧ FAt CF H x ts ∧ TreeOk ts ∧ IsDat K H v ∧ Res H Q E (nmE CN (flagV ts v) v)
def spNeedPlE (K : PySem.W.Frag) (CF CN : Addr) : Sp := fun vs H Q E => ∃ (x : Addr) (ts : List (Str × Str)) (v : V), vs = [.ref x, v] ∧ FAt CF H x ts ∧ TreeOk ts ∧ IsDat K H v ∧ Res H Q E (nmE CN (placeV ts v) v)
def spAUsersE (K : PySem.W.Frag) (CF CA CN : Addr) : Sp := fun vs H Q E => ∃ (y x : Addr) (ts : List (Str × Str)) (zs : List Str) (v : V), vs = [.ref y, v] ∧ AAt CA H y x zs ∧ FAt CF H x ts ∧ TreeOk ts ∧ (∀ z ∈ zs, Pl ts z) ∧ zs.length ≤ 1000 ∧ IsDat K H v ∧
  match nmE CN (flagV ts v) v with
  | none => ∀ (p : Addr) (H' : Hp), Same H H' → H p = none → H' p = some (.lst ((hasU ts zs (strV v)).map V.int)) → Q (.ref p) H'
  | some e => Out H E e
def spAAtE (K : PySem.W.Frag) (CF CA CN : Addr) : Sp := fun vs H Q E => ∃ (y x : Addr) (ts : List (Str × Str)) (zs : List Str) (v : V), vs = [.ref y, v] ∧ AAt CA H y x zs ∧ FAt CF H x ts ∧ TreeOk ts ∧ zs.length ≤ 1000 ∧ IsDat K H v ∧
  match nmE CN (placeV ts v) v with
  | none => ∀ (p : Addr) (H' : Hp), Same H H' → H p = none → H' p = some (.lst ((atU zs (strV v)).map V.int)) → Q (.ref p) H'
  | some e => Out H E e
theorem Dat.str_of {K : PySem.W.Frag} {H : Hp} {v : V} (d : Dat K H v "str") : ∃ z, v = .str z := by
  generalize e : "str" = T at d
  cases d with
  | str z => exact ⟨z, rfl⟩
  | _ => exact absurd e (by decide)
theorem Dat.str_no {K : PySem.W.Frag} {H : Hp} {v : V} {T : String} (d : Dat K H v T) (n : ¬ T = "str") (z : Str) : v ≠ .str z := fun e => by
  subst e
  cases d with
  | str => exact n rfl
section
variable {P : Program} {w : World} {K : PySem.W.Frag} {mg : Str → Option Value} {base : Heap}
abbrev NFlE : List Str := ["forest", "name"]
abbrev NNpE : List Str := ["forest", "place"]
theorem scNpE : FnScope NNpE ["forest", "place"] (defScope s_need_place) := ⟨rfl, rfl, rfl, by decide +kernel, rfl, by decide +kernel, by decide +kernel⟩
theorem ok_needPlE {f CF CN IN : Addr} {mc : Value} {fd dN : FuncData} (F : Fun K "need_place" "need_place" s_need_place f fd) (T : Nm mg) (O : FoC K CF) (Z : Fc K mg CF mc) (S : Er1 P w K mg base "UnknownName" "name" CN IN dN) : FnOk P w K mg base (L2.CX P w) 3 f fd ["forest", "place"] (spNeedPlE K CF CN) := by
  obtain ⟨ur, cr⟩ := Z.root
  refine F.okX scNpE (fun vs H Q E h => ?_) (fun cdv A outer s H vs Q E hr h => ?_)
  · obtain ⟨x, ts, v, rfl, _⟩ := h
    rfl
  · obtain ⟨x, ts, v, rfl, fa, o, ⟨T0, dv⟩, k⟩ := h
    have hu := hu_of hr
    have hr2 : Room 2 _ := hr.mono (by decide)
    refine ⟨_, pss_one (ps_if (PW.pt (pw_or (pt_not (pt_val (pe_callB call_isi (by rfl) T.isi (by decide +kernel) (pa_cons (pv 1) (pa_cons (pe_bltn (v := .ty "str") (u := .type "str") (by rfl) T.str (by decide +kernel) rfl) pa_nil)))))
          (pw_or1 (PW.pt (pw_and (pt_cmpR op_ne (pv 1) (pe_cval (pe_glob (v := .ref CF) (by rfl) Z.gF rfl)) (nomark _)) (pw_and1 (pt_cmp (pc_dnotin hu (pv 1) (pe_fld (pv 0) rfl))))))))) (pss_one (ps_err1 S rfl (takes_of rfl rfl rfl rfl) hr2 rfl (pv 1))) pss_nil), ?_⟩
    obtain ⟨dx, dq, hx, hd⟩ := id fa
    refine ⟨_, rfl, v, _, _, _, _, rfl, .ty _, dv.ty, dv.str_, _, rfl, ?_⟩
    by_cases eT : T0 = "str"
    · subst eT
      obtain ⟨a, rfl⟩ := dv.str_of
      rw [decide_eq_true rfl]
      refine iteF ?_
      refine ⟨_, rfl, CF, mc, _, ur, rfl, Z.rd, cr, rfl, _, rfl, ?_⟩
      by_cases e : a = ""
      · rw [decide_eq_true (show V.str a = V.str "" by rw [e])]
        rw [nmE_t (b := placeV ts (.str a)) (decide_eq_true (.inl e))] at k
        refine iteF ?_
        exact iteF (k H Same.refl)
      · rw [decide_eq_false (show ¬ V.str a = V.str "" from fun z => e (V.str.inj z))]
        show if true = true then _ else _
        rw [if_pos rfl]
        by_cases ma : a ∈ ts.map Prod.fst
        · obtain ⟨pa, hp⟩ := par_some o.nd ma
          rw [nmE_t (b := placeV ts (.str a)) (decide_eq_true (.inr ma))] at k
          refine ⟨_, rfl, _, rfl, x, CF, dx, _, .ref dq, rfl, hx, O.cl, O.nA, rfl, dq, _, rfl, dget_prs (.inl hd) hp, _, rfl, ?_⟩
          exact iteF (k H Same.refl)
        · rw [nmE_f (b := placeV ts (.str a)) (decide_eq_false (by rintro (h | h); exact e h; exact ma h))] at k
          have z := DGet.k (k := Sum.inr a) hd
          rw [val_prs, par_none ma] at z
          refine ⟨_, rfl, _, rfl, x, CF, dx, _, .ref dq, rfl, hx, O.cl, O.nA, rfl, dq, _, rfl, z, _, rfl, ?_⟩
          exact iteT ⟨_, rfl, out1 k Same.refl⟩
    · rw [decide_eq_false eT]
      have e0 : nmE CN (placeV ts v) v = some (.e1 CN "name" v) := by
        cases v with
        | str z => exact absurd rfl (dv.str_no eT z)
        | _ => rfl
      rw [e0] at k
      show if true = true then _ else _
      rw [if_pos rfl]
      exact iteT ⟨_, rfl, out1 k Same.refl⟩
end
end FT


/-! children, path, under, distance: with a value that is no place -/
namespace FT
open PySem L2 TL ClX LiI
def spNoPl (K : PySem.W.Frag) (CF CN : Addr) : Sp := fun vs H Q E => ∃ (x : Addr) (ts : List (Str × Str)) (v : V), vs = [.ref x, v] ∧ FAt CF H x ts ∧ TreeOk ts ∧ IsDat K H v ∧ placeV ts v = false ∧ Out H E (.e1 CN "name" v)
def spNoPl2 (K : PySem.W.Frag) (CF CN : Addr) : Sp := fun vs H Q E => ∃ (x : Addr) (ts : List (Str × Str)) (v u : V), vs = [.ref x, v, u] ∧ FAt CF H x ts ∧ TreeOk ts ∧ IsDat K H v ∧ IsDat K H u ∧
  ((placeV ts v = false ∧ Out H E (.e1 CN "name" v)) ∨ (placeV ts v = true ∧ placeV ts u = false ∧ Out H E (.e1 CN "name" u)))
section
variable {P : Program} {w : World} {K : PySem.W.Frag} {mg : Str → Option Value} {base : Heap}
theorem scN1 : FnScope ["self", "place", "name"] ["self", "place"] (defScope s_Forest_children) := ⟨rfl, rfl, rfl, by decide +kernel, rfl, by decide +kernel, by decide +kernel⟩
theorem scN2 : FnScope ["self", "place"] ["self", "place"] (defScope s_Forest_path) := ⟨rfl, rfl, rfl, by decide +kernel, rfl, by decide +kernel, by decide +kernel⟩
theorem scN3 : FnScope ["self", "place", "name"] ["self", "place"] (defScope s_Forest_under) := ⟨rfl, rfl, rfl, by decide +kernel, rfl, by decide +kernel, by decide +kernel⟩
theorem scN4 : FnScope ["self", "one", "other"] ["self", "one", "other"] (defScope s_Forest_distance) := ⟨rfl, rfl, rfl, by decide +kernel, rfl, by decide +kernel, by decide +kernel⟩
theorem ok_noKids {f fN CF CN : Addr} {fd fdN : FuncData} (F : Fun K "children" "Forest.children" s_Forest_children f fd) (DN : Dn P w K mg base (L2.CX P w) 3 "need_place" ["forest", "place"] (spNeedPlE K CF CN) fN fdN) : FnOk P w K mg base (L2.CX P w) 4 f fd ["self", "place"] (spNoPl K CF CN) := by
  refine F.okX scN1 (fun vs H Q E h => ?_) (fun cdv A outer s H vs Q E hr h => ?_)
  · obtain ⟨x, ts, v, rfl, _⟩ := h
    rfl
  · obtain ⟨x, ts, v, rfl, fa, o, dv, np, k⟩ := h
    refine ⟨_, pss_cons (ps_expr (pe_call DN.ok hr rfl DN.mgn DN.kp DN.bn .nil (passes_call (takes_of rfl rfl rfl rfl) (fun _ _ _ _ h => h)) (pa_cons (pv 0) (pa_cons (pv 1) pa_nil)))) pss_never, ?_⟩
    refine ⟨_, rfl, _, rfl, x, ts, v, rfl, fa, o, dv, ?_⟩
    rw [nmE_f np]
    exact k
theorem ok_noPath {f fN CF CN : Addr} {fd fdN : FuncData} (F : Fun K "path" "Forest.path" s_Forest_path f fd) (DN : Dn P w K mg base (L2.CX P w) 3 "need_place" ["forest", "place"] (spNeedPlE K CF CN) fN fdN) : FnOk P w K mg base (L2.CX P w) 4 f fd ["self", "place"] (spNoPl K CF CN) := by
  refine F.okX scN2 (fun vs H Q E h => ?_) (fun cdv A outer s H vs Q E hr h => ?_)
  · obtain ⟨x, ts, v, rfl, _⟩ := h
    rfl
  · obtain ⟨x, ts, v, rfl, fa, o, dv, np, k⟩ := h
    refine ⟨_, pss_cons (ps_expr (pe_call DN.ok hr rfl DN.mgn DN.kp DN.bn .nil (passes_call (takes_of rfl rfl rfl rfl) (fun _ _ _ _ h => h)) (pa_cons (pv 0) (pa_cons (pv 1) pa_nil)))) pss_never, ?_⟩
    refine ⟨_, rfl, _, rfl, x, ts, v, rfl, fa, o, dv, ?_⟩
    rw [nmE_f np]
    exact k
theorem ok_noUnder {f fN CF CN : Addr} {fd fdN : FuncData} (F : Fun K "under" "Forest.under" s_Forest_under f fd) (DN : Dn P w K mg base (L2.CX P w) 3 "need_place" ["forest", "place"] (spNeedPlE K CF CN) fN fdN) : FnOk P w K mg base (L2.CX P w) 4 f fd ["self", "place"] (spNoPl K CF CN) := by
  refine F.okX scN3 (fun vs H Q E h => ?_) (fun cdv A outer s H vs Q E hr h => ?_)
  · obtain ⟨x, ts, v, rfl, _⟩ := h
    rfl
  · obtain ⟨x, ts, v, rfl, fa, o, dv, np, k⟩ := h
    refine ⟨_, pss_cons (ps_expr (pe_call DN.ok hr rfl DN.mgn DN.kp DN.bn .nil (passes_call (takes_of rfl rfl rfl rfl) (fun _ _ _ _ h => h)) (pa_cons (pv 0) (pa_cons (pv 1) pa_nil)))) pss_never, ?_⟩
    refine ⟨_, rfl, _, rfl, x, ts, v, rfl, fa, o, dv, ?_⟩
    rw [nmE_f np]
    exact k
theorem ok_noDist {f fN CF CN : Addr} {fd fdN : FuncData} (F : Fun K "distance" "Forest.distance" s_Forest_distance f fd) (DN : Dn P w K mg base (L2.CX P w) 3 "need_place" ["forest", "place"] (spNeedPlE K CF CN) fN fdN) : FnOk P w K mg base (L2.CX P w) 4 f fd ["self", "one", "other"] (spNoPl2 K CF CN) := by
  refine F.okX scN4 (fun vs H Q E h => ?_) (fun cdv A outer s H vs Q E hr h => ?_)
  · obtain ⟨x, ts, v, u, rfl, _⟩ := h
    rfl
  · obtain ⟨x, ts, v, u, rfl, fa, o, dv, du, k⟩ := h
    refine ⟨_, pss_cons (ps_expr (pe_call DN.ok hr rfl DN.mgn DN.kp DN.bn .nil (passes_call (takes_of rfl rfl rfl rfl) (fun _ _ _ _ h => h)) (pa_cons (pv 0) (pa_cons (pv 1) pa_nil))))
      (pss_cons (ps_expr (pe_call DN.ok hr rfl DN.mgn DN.kp DN.bn .nil (passes_call (takes_of rfl rfl rfl rfl) (fun _ _ _ _ h => h)) (pa_cons (pv 0) (pa_cons (pv 2) pa_nil)))) pss_never), ?_⟩
    refine ⟨_, rfl, _, rfl, x, ts, v, rfl, fa, o, dv, ?_⟩
    rcases k with ⟨np, k⟩ | ⟨yp, np, k⟩
    · rw [nmE_f np]
      exact k
    · rw [nmE_t yp]
      intro H1 s1
      refine ⟨_, rfl, _, rfl, x, ts, u, rfl, fa.mono s1, o, du.mono s1, ?_⟩
      rw [nmE_f np]
      exact k.mono s1
end
end FT


/-! Own: repr of a dict whose values are data without dicts. -/
namespace L2
open PySem PySem.Spec PyProof.Rows
def kD : Key → PyData
  | .inl i => .int i
  | .inr x => .str x
/-- an entry: the key, the value, the value as data -/
abbrev EntD := Key × V × PyData
abbrev dcD (es : List EntD) : PyData := .dict (es.map fun e => (kD e.1, e.2.2))
def rReprD (K : PySem.W.Frag) : List V → Hp → VK → Prop := fun xs H Q => ∃ (a : Addr) (es : List EntD), xs = [.ref a] ∧ H a = some (.dK (es.map fun e => (e.1, e.2.1))) ∧ (∀ e ∈ es, Dp K H e.2.1 e.2.2 ∧ e.2.2.hasDict = false) ∧
  (dcD es).showable = true ∧ (dcD es).depth ≤ 60 ∧ (dcD es).shown.length ≤ sizeLine ∧ Q (.str (dcD es).shown) H
section
variable {X : Cx} {pins : List (Addr × Obj)} {σ : St} {H : Hp} {s : Shared}
end
end L2


/-! Own: repr of data with dicts anywhere (lists of dicts, dicts of lists) -/
namespace L2
open PySem PySem.Spec PyProof.Rows
mutual
/-- data, dicts among it -/
inductive DR (K : PySem.W.Frag) (H : Hp) : V → PyData → Prop
  | dat {x : V} {d : PyData} : Dp K H x d → d.hasDict = false → DR K H x d
  | dict {a : Addr} {es : List EntD} : H a = some (.dK (es.map fun e => (e.1, e.2.1))) → DRE K H es → DR K H (.ref a) (dcD es)
  | list {a : Addr} {xs : List V} {ds : List PyData} : SqL K H a xs → DRA K H xs ds → DR K H (.ref a) (.list ds)
  | tup {a : Addr} {xs : List V} {ds : List PyData} : SqT K H a xs → DRA K H xs ds → DR K H (.ref a) (.tuple ds)
inductive DRA (K : PySem.W.Frag) (H : Hp) : List V → List PyData → Prop
  | nil : DRA K H [] []
  | cons {x : V} {d : PyData} {xs : List V} {ds : List PyData} : DR K H x d → DRA K H xs ds → DRA K H (x :: xs) (d :: ds)
inductive DRE (K : PySem.W.Frag) (H : Hp) : List EntD → Prop
  | nil : DRE K H []
  | cons {k : Key} {v : V} {d : PyData} {es : List EntD} : DR K H v d → DRE K H es → DRE K H ((k, v, d) :: es)
end
section
variable {X : Cx} {pins : List (Addr × Obj)} {σ : St} {H : Hp} {s : Shared}
theorem keys_rd : ∀ {es : List EntD} {ds : List DictEntry} {vs : List (Key × Value)}, Pairs (mixKind X.prog X.w) ds vs → KV (es.map fun e => (e.1, e.2.1)) vs → (∃ as, ReadsAll s.heap (ds.map (·.key)) ((es.map fun e => (kD e.1, e.2.2)).map (·.1)) as) ∧ PyData.hasDictAll ((es.map fun e => (kD e.1, e.2.2)).map (·.1)) = false
  | [], ds, vs, p, kv => by
    cases kv
    cases p
    exact ⟨⟨_, .nil⟩, rfl⟩
  | e :: es, ds, vs, p, kv => by
    cases kv with
    | cons hq kv =>
      cases p with
      | cons pk pv p =>
        obtain ⟨⟨as, r1⟩, n1⟩ := keys_rd p kv
        obtain ⟨k, v, d⟩ := e
        obtain ⟨e1, _⟩ := hq
        have e1 : k = _ := e1
        subst e1
        rcases keyIs_shape pk with ⟨i, t, ek, ev⟩ | ⟨x, t, ek, ev⟩
        · refine ⟨?_, ?_⟩
          · rw [List.map_cons, ev]
            exact ⟨_, .cons (by show Reads _ _ (kD _) _; rw [ek]; exact .int i t) r1⟩
          · show (PyData.hasDict (kD _) || PyData.hasDictAll _) = false
            rw [n1, ek] <;> rfl
        · refine ⟨?_, ?_⟩
          · rw [List.map_cons, ev]
            exact ⟨_, .cons (by show Reads _ _ (kD _) _; rw [ek]; exact .str x t) r1⟩
          · show (PyData.hasDict (kD _) || PyData.hasDictAll _) = false
            rw [n1, ek] <;> rfl
mutual
theorem DR.rk (I : Inv X pins σ H s) : ∀ {x : V} {d : PyData}, DR X.K H x d → ∀ {u : Value}, RelV x u → d.showable = true → d.shown.length ≤ sizeLine →
    ∃ as bs, Reads s.heap u d as ∧ ReadAtMost s.heap d.depth bs ∧ ReprK X.prog X.w bs s.heap d.depth u d.shown
  | _, d, .dat h nd, u, r, ok, few => by
    obtain ⟨as, q⟩ := Dp.reads I d _ u h r
    obtain ⟨bs, h1, h2⟩ := ReprK.of_reads (prog := X.prog) (w := X.w) q ok (PyData.noDict_hsm nd) few
    exact ⟨as, bs, q, h1, h2⟩
  | _, _, .dict (a := a) (es := es) ha he, u, r, ok, few => by
    obtain rfl : u = Value.ref a := r
    obtain ⟨_, ns, vs, kv, o, ds, ep, h1, h2, h3, _, h4, _⟩ := (show ObjOk X.prog X.w H s.heap a (.dK (es.map fun e => (e.1, e.2.1))) from I.hok a _ ha)
    have few' : (dictText (PyData.shownKv (es.map fun e => (kD e.1, e.2.2)))).length ≤ sizeLine := by simpa only [PyData.shown] using few
    obtain ⟨ok1, ok2⟩ := PyData.showableKv_split (es.map fun e => (kD e.1, e.2.2)) (by simpa [PyData.showable] using ok)
    obtain ⟨⟨as, r1⟩, n1⟩ := keys_rd (s := s) h4 kv
    obtain ⟨b1, m1, k1⟩ := ReprAllK.of_readsAll (prog := X.prog) (w := X.w) r1 ok1 (fun z => by rw [n1] at z; cases z) fun t ht => let ⟨p, hp, hl⟩ := PyData.shownKv_key_le _ t ht; Nat.le_trans hl (Nat.le_trans (dictText_mem_le hp) few')
    obtain ⟨cs, b2, r2, m2, k2⟩ := DRE.rk I he h4 kv ok2 fun t ht => let ⟨p, hp, hl⟩ := PyData.shownKv_val_le _ t ht; Nat.le_trans hl (Nat.le_trans (dictText_mem_le hp) few')
    have rd : Reads s.heap (.ref a) (dcD es) _ := .dict h1 h2.1 h3 r1 r2
    have hb : ReadAtMost s.heap (PyData.depthKv (es.map fun e => (kD e.1, e.2.2))) (b1 ++ b2) := (m1.mono (PyData.depthAll_keys_le _)).append (m2.mono (PyData.depthAll_vals_le _))
    have hna : a ∉ b1 ++ b2 := not_mem_of_deeper rd (by simp only [PyData.depth]; omega) hb
    refine ⟨_, a :: (b1 ++ b2), rd, ReadAtMost.cons rd (by simp only [PyData.depth]; omega) hb, ?_⟩
    simp only [PyData.depth, PyData.shown, PyData.shownKv_eq]
    exact ReprK.dict h1 h2.1 h3 ns hna (ReprEntriesK.of_two ds.toList _ _ (k1.more_le (fun b hb => List.mem_append_left _ hb) (PyData.depthAll_keys_le _)) (k2.more_le (fun b hb => List.mem_append_right _ hb) (PyData.depthAll_vals_le _)))
  | _, _, .list (a := a) (xs := xs) (ds := ds) hx h, u, r, ok, few => by
    obtain rfl : u = Value.ref a := r
    obtain ⟨its, rv, pl, hz⟩ := I.list hx
    obtain ⟨o, n, ho, hc, hd, hdat⟩ := pl
    have few' : (listText (PyData.shownAll ds)).length ≤ sizeLine := by simpa only [PyData.shown] using few
    obtain ⟨as, bs, r1, m1, k1⟩ := DRA.rk I h rv (by simpa [PyData.showable] using ok) fun t ht => Nat.le_trans (listText_mem_le ht) few'
    have rd : Reads s.heap (.ref a) (.list ds) _ := .list ho hc hdat (by simpa using r1)
    have hna : a ∉ bs := not_mem_of_deeper rd (by simp only [PyData.depth]; omega) m1
    refine ⟨_, a :: bs, rd, ReadAtMost.cons rd (by simp only [PyData.depth]; omega) m1, ?_⟩
    simp only [PyData.depth, PyData.shown]
    cases its with
    | nil =>
      cases r1
      simp only [PyData.shownAll, listText_nil]
      exact ReprK.listEmpty ho hc hdat
    | cons x l => exact ReprK.list ho hc hdat hna (by simpa using k1.length_eq) (fun i y e => k1.item i y (by simpa using e))
  | _, _, .tup (a := a) (xs := xs) (ds := ds) hx h, u, r, ok, few => by
    obtain rfl : u = Value.ref a := r
    obtain ⟨its, rv, ⟨o, ho, hc, n, hdat⟩, hz⟩ := I.tuple hx
    have few' : (tupleText (PyData.shownAll ds)).length ≤ sizeLine := by simpa only [PyData.shown] using few
    obtain ⟨as, bs, r1, m1, k1⟩ := DRA.rk I h rv (by simpa [PyData.showable] using ok) fun t ht => Nat.le_trans (tupleText_mem_le ht) few'
    have rd : Reads s.heap (.ref a) (.tuple ds) _ := .tuple ho hc hdat (by simpa using r1)
    have hna : a ∉ bs := not_mem_of_deeper rd (by simp only [PyData.depth]; omega) m1
    refine ⟨_, a :: bs, rd, ReadAtMost.cons rd (by simp only [PyData.depth]; omega) m1, ?_⟩
    simp only [PyData.depth, PyData.shown]
    exact ReprK.tuple ho hc hdat hna (by simpa using k1)
theorem DRA.rk (I : Inv X pins σ H s) : ∀ {xs : List V} {ds : List PyData}, DRA X.K H xs ds → ∀ {us : List Value}, Vals xs us → PyData.showableAll ds = true → (∀ t ∈ PyData.shownAll ds, t.length ≤ sizeLine) →
    ∃ as bs, ReadsAll s.heap us ds as ∧ ReadAtMost s.heap (PyData.depthAll ds) bs ∧ ReprAllK X.prog X.w bs s.heap (PyData.depthAll ds) us (PyData.shownAll ds)
  | _, _, .nil, _, .nil, _, _ => ⟨[], [], .nil, (fun _ h => nomatch h), by simp only [PyData.shownAll]; exact .nil⟩
  | _, _, .cons (d := d) (ds := ds) h hs, _, .cons r rs, ok, few => by
    have ok' : d.showable = true ∧ PyData.showableAll ds = true := by simpa [PyData.showableAll] using ok
    obtain ⟨a1, b1, r1, m1, k1⟩ := DR.rk I h r ok'.1 (few _ (by simp only [PyData.shownAll]; exact List.mem_cons_self ..))
    obtain ⟨a2, b2, r2, m2, k2⟩ := DRA.rk I hs rs ok'.2 (fun t ht => few t (by simp only [PyData.shownAll]; exact List.mem_cons_of_mem _ ht))
    refine ⟨_, b1 ++ b2, .cons r1 r2, ?_, ?_⟩
    · intro b hm
      simp only [PyData.depthAll]
      rcases List.mem_append.mp hm with hm | hm
      · obtain ⟨d', as', r', hd'⟩ := m1 b hm
        exact ⟨d', as', r', Nat.le_trans hd' (Nat.le_max_left _ _)⟩
      · obtain ⟨d', as', r', hd'⟩ := m2 b hm
        exact ⟨d', as', r', Nat.le_trans hd' (Nat.le_max_right _ _)⟩
    · simp only [PyData.depthAll, PyData.shownAll]
      exact .cons ((k1.more fun b hb => List.mem_append_left _ hb).level_le (Nat.le_max_left _ _)) (k2.more_le (fun b hb => List.mem_append_right _ hb) (Nat.le_max_right _ _))
theorem DRE.rk (I : Inv X pins σ H s) : ∀ {es : List EntD}, DRE X.K H es → ∀ {ds : List DictEntry} {vs : List (Key × Value)}, Pairs (mixKind X.prog X.w) ds vs → KV (es.map fun e => (e.1, e.2.1)) vs → PyData.showableAll ((es.map fun e => (kD e.1, e.2.2)).map (·.2)) = true → (∀ t ∈ PyData.shownAll ((es.map fun e => (kD e.1, e.2.2)).map (·.2)), t.length ≤ sizeLine) →
    ∃ as bs, ReadsAll s.heap (ds.map (·.val)) ((es.map fun e => (kD e.1, e.2.2)).map (·.2)) as ∧ ReadAtMost s.heap (PyData.depthAll ((es.map fun e => (kD e.1, e.2.2)).map (·.2))) bs ∧ ReprAllK X.prog X.w bs s.heap (PyData.depthAll ((es.map fun e => (kD e.1, e.2.2)).map (·.2))) (ds.map (·.val)) (PyData.shownAll ((es.map fun e => (kD e.1, e.2.2)).map (·.2)))
  | _, .nil, ds, vs, p, kv, _, _ => by
    cases kv
    cases p
    exact ⟨[], [], .nil, (fun _ h => nomatch h), by simp only [List.map_nil, PyData.shownAll]; exact .nil⟩
  | _, .cons (d := d) (es := es) h hs, ds, vs, p, kv, ok, few => by
    cases kv with
    | cons hq kv =>
      cases p with
      | cons pk pv p =>
        obtain ⟨e1, rv⟩ := hq
        rw [← pv] at rv
        have ok' : d.showable = true ∧ PyData.showableAll ((es.map fun e => (kD e.1, e.2.2)).map (·.2)) = true := by simpa [PyData.showableAll] using ok
        obtain ⟨a1, b1, r1, m1, k1⟩ := DR.rk I h rv ok'.1 (few _ (by simp only [List.map_cons, PyData.shownAll]; exact List.mem_cons_self ..))
        obtain ⟨a2, b2, r2, m2, k2⟩ := DRE.rk I hs p kv ok'.2 (fun t ht => few t (by simp only [List.map_cons, PyData.shownAll]; exact List.mem_cons_of_mem _ ht))
        refine ⟨_, b1 ++ b2, .cons r1 r2, ?_, ?_⟩
        · intro b hm
          simp only [List.map_cons, PyData.depthAll]
          rcases List.mem_append.mp hm with hm | hm
          · obtain ⟨d', as', r', hd'⟩ := m1 b hm
            exact ⟨d', as', r', Nat.le_trans hd' (Nat.le_max_left _ _)⟩
          · obtain ⟨d', as', r', hd'⟩ := m2 b hm
            exact ⟨d', as', r', Nat.le_trans hd' (Nat.le_max_right _ _)⟩
        · simp only [List.map_cons, PyData.depthAll, PyData.shownAll]
          exact .cons ((k1.more fun b hb => List.mem_append_left _ hb).level_le (Nat.le_max_left _ _)) (k2.more_le (fun b hb => List.mem_append_right _ hb) (Nat.le_max_right _ _))
end
def rReprR (K : PySem.W.Frag) : List V → Hp → VK → Prop := fun xs H Q => ∃ (x : V) (d : PyData), xs = [x] ∧ DR K H x d ∧ d.showable = true ∧ d.depth ≤ 60 ∧ d.shown.length ≤ sizeLine ∧ Q (.str d.shown) H
theorem call_reprR (clr : Clr X.A) (hu : X.A.units + 64 < cLine) : CallR X (.builtin "repr") (rReprR X.K) := by
  intro pins s σ H xs us Q I r h
  obtain ⟨x, d, rfl, sh, ok, dep, few, q⟩ := h
  cases sh with
  | dat h nd => exact call_repr clr hu pins s σ H _ us Q I r ⟨x, d, rfl, .inl ⟨h, nd⟩, ok, dep, few, q⟩
  | dict ha he =>
    rename_i a es
    obtain ⟨u, rfl, ru⟩ := vals1 r
    obtain rfl : u = Value.ref a := ru
    obtain ⟨_, ns, vs, kv, o, ds, ep, h1, h2, h3, _, h4, _⟩ := (show ObjOk X.prog X.w H s.heap a (.dK (es.map fun e => (e.1, e.2.1))) from I.hok a _ ha)
    have few' : (dictText (PyData.shownKv (es.map fun e => (kD e.1, e.2.2)))).length ≤ sizeLine := by simpa only [PyData.shown] using few
    obtain ⟨ok1, ok2⟩ := PyData.showableKv_split (es.map fun e => (kD e.1, e.2.2)) (by simpa [PyData.showable] using ok)
    obtain ⟨⟨as, r1⟩, n1⟩ := keys_rd (s := s) h4 kv
    obtain ⟨b1, m1, k1⟩ := ReprAllK.of_readsAll (prog := X.prog) (w := X.w) r1 ok1 (fun z => by rw [n1] at z; cases z) fun t ht => let ⟨p, hp, hl⟩ := PyData.shownKv_key_le _ t ht; Nat.le_trans hl (Nat.le_trans (dictText_mem_le hp) few')
    obtain ⟨cs, b2, r2, m2, k2⟩ := DRE.rk I he h4 kv ok2 fun t ht => let ⟨p, hp, hl⟩ := PyData.shownKv_val_le _ t ht; Nat.le_trans hl (Nat.le_trans (dictText_mem_le hp) few')
    have rd : Reads s.heap (.ref a) (dcD es) _ := .dict h1 h2.1 h3 r1 r2
    have hb : ReadAtMost s.heap (PyData.depthKv (es.map fun e => (kD e.1, e.2.2))) (b1 ++ b2) := (m1.mono (PyData.depthAll_keys_le _)).append (m2.mono (PyData.depthAll_vals_le _))
    have hna : a ∉ b1 ++ b2 := not_mem_of_deeper rd (by simp only [PyData.depth]; omega) hb
    have dep' : PyData.depthKv (es.map fun e => (kD e.1, e.2.2)) + 1 ≤ 60 := by simpa only [PyData.depth] using dep
    refine call_repr_slot (by omega) ⟨o, h1, h2.1⟩ PySem.F.slot_dict_repr (call_dict_reprK h1 h2.1 h3 ns hna (ReprEntriesK.of_two ds.toList _ _ (k1.more_le (fun b hb => List.mem_append_left _ hb) (PyData.depthAll_keys_le _)) (k2.more_le (fun b hb => List.mem_append_right _ hb) (PyData.depthAll_vals_le _)))
      (g := []) clr (fun b _ => Clear.nil b) (by show X.A.units + 1 + _ < cLine; omega) (fun _ _ z => z) (fun h' t tk kp => ⟨_, _, rfl, ?_⟩) (by rw [← PyData.shownKv_eq]; exact few'))
    refine ⟨.str (dcD es).shown, H, I.kept kp, ?_, q⟩
    exact ⟨t, by rw [show (dcD es).shown = dictText (PyData.shownKv (es.map fun e => (kD e.1, e.2.2))) by simp only [PyData.shown], PyData.shownKv_eq]⟩
  | list hx h =>
    rename_i a xs ds
    have r0 := r
    obtain ⟨u, rfl, ru⟩ := vals1 r
    obtain rfl : u = Value.ref a := ru
    obtain ⟨its, rv, pl, hz⟩ := I.list hx
    obtain ⟨o, n, ho, hc, hd, hdat⟩ := pl
    have few' : (listText (PyData.shownAll ds)).length ≤ sizeLine := by simpa only [PyData.shown] using few
    obtain ⟨as, bs, r1, m1, k1⟩ := DRA.rk I h rv (by simpa [PyData.showable] using ok) fun t ht => Nat.le_trans (listText_mem_le ht) few'
    have rd : Reads s.heap (.ref a) (.list ds) _ := .list ho hc hdat (by simpa using r1)
    have hna : a ∉ bs := not_mem_of_deeper rd (by simp only [PyData.depth]; omega) m1
    have dep' : PyData.depthAll ds + 1 ≤ 60 := by simpa only [PyData.depth] using dep
    cases its with
    | nil =>
      cases rv
      cases h
      exact call_repr clr hu pins s σ H _ _ Q I r0 ⟨.ref a, .list [], rfl, .inl ⟨.lst hx .nil, rfl⟩, ok, dep, few, q⟩
    | cons y l =>
      refine call_repr_slot (by omega) ⟨o, ho, hc⟩ PySem.F.slot_list_repr.toG (call_list_reprK ho hc hdat hna (by simpa using k1.length_eq) (fun i y e => k1.item i y (by simpa using e)) (g := []) clr (fun b _ => Clear.nil b) (by show X.A.units + 1 + _ < cLine; omega) (fun _ _ z => z) (fun h' t tk kp => ⟨_, _, rfl, ?_⟩) few')
      exact ⟨.str (PyData.list ds).shown, H, I.kept kp, ⟨t, by simp only [PyData.shown]⟩, q⟩
  | tup hx h =>
    rename_i a xs ds
    obtain ⟨u, rfl, ru⟩ := vals1 r
    obtain rfl : u = Value.ref a := ru
    obtain ⟨its, rv, ⟨o, ho, hc, n, hdat⟩, hz⟩ := I.tuple hx
    have few' : (tupleText (PyData.shownAll ds)).length ≤ sizeLine := by simpa only [PyData.shown] using few
    obtain ⟨as, bs, r1, m1, k1⟩ := DRA.rk I h rv (by simpa [PyData.showable] using ok) fun t ht => Nat.le_trans (tupleText_mem_le ht) few'
    have rd : Reads s.heap (.ref a) (.tuple ds) _ := .tuple ho hc hdat (by simpa using r1)
    have hna : a ∉ bs := not_mem_of_deeper rd (by simp only [PyData.depth]; omega) m1
    have dep' : PyData.depthAll ds + 1 ≤ 60 := by simpa only [PyData.depth] using dep
    refine call_repr_slot (by omega) ⟨o, ho, hc⟩ PySem.F.slot_tuple_repr (call_tuple_reprK ho hc hdat hna (by simpa using k1) (g := []) clr (fun b _ => Clear.nil b) (by show X.A.units + 1 + _ < cLine; omega) (fun _ _ z => z) (fun h' t tk kp => ⟨_, _, rfl, ?_⟩) few')
    exact ⟨.str (PyData.tuple ds).shown, H, I.kept kp, ⟨t, by simp only [PyData.shown]⟩, q⟩
end
end L2


/-! feasible sizes, dealt out name by name (plain maths) -/
namespace FT
open PySem L2 TL ClX
/-! ### sizes that are drawn -/
theorem szOf_tbl {l : List Str} {sz : Str → Int} {a : Str} (h : a ∈ l) : szOf (tblI l sz) a = sz a := by
  unfold szOf
  rw [tblI_val h]
theorem kids_sub {t : List (Str × Str)} {p a : Str} (h : a ∈ kids t p) : a ∈ t.map Prod.fst := by
  obtain ⟨q, hq, rfl⟩ := List.mem_map.mp h
  exact List.mem_map.mpr ⟨q, (List.mem_filter.mp hq).1, rfl⟩
theorem resid_congr {t : List (Str × Str)} {n : Int} {sz sz' : Str → Int} {p : Str} (h : ∀ a ∈ t.map Prod.fst, sz a = sz' a) (hp : p = "" ∨ sz p = sz' p) : resid t n sz p = resid t n sz' p := by
  unfold resid
  rw [List.map_congr_left fun a ha => h a (kids_sub ha)]
  by_cases e : p = ""
  · rw [if_pos e, if_pos e]
  · rw [if_neg e, if_neg e, hp.resolve_left e]
/-- feasible sizes for n users -/
structure Fea (t : List (Str × Str)) (n : Int) (sz : Str → Int) : Prop where
  nn : ∀ a ∈ t.map Prod.fst, 0 ≤ sz a
  res : ∀ p ∈ (("" : Str) :: t.map Prod.fst), 0 ≤ resid t n sz p
theorem Fea.perm {t u : List (Str × Str)} {n : Int} {sz : Str → Int} (p : t.Perm u) (f : Fea t n sz) : Fea u n sz :=
  ⟨fun a ha => f.nn a ((p.map _).mem_iff.mpr ha), fun q hq => by rw [← resid_perm p]; exact f.res q ((List.mem_cons.mp hq).elim (fun e => e ▸ List.mem_cons_self ..) fun m => List.mem_cons_of_mem _ ((p.map Prod.fst).mem_iff.mpr m))⟩
theorem Fea.ok {CS : Addr} {ts : List (Str × Str)} {n : Int} {sz : Str → Int} {l : List Str} (f : Fea ts n sz) (p : l.Perm (ts.map Prod.fst)) : feE CS ts n (some (tblI l sz)) = none := by
  have e1 : ∀ a ∈ ts.map Prod.fst, valV (tblI l sz) (Sum.inr a) = some (.int (sz a)) := fun a ha => tblI_val (p.mem_iff.mpr ha)
  have ll := p.length_eq
  rw [List.length_map] at ll
  unfold feE
  rw [feas_some, if_neg (by rw [tblI_len]; exact fun z => z ll), if_neg]
  · have e2 : (ts.map Prod.fst).find? (badKey (tblI l sz)) = none := List.find?_eq_none.mpr fun a ha z => by
      unfold badKey at z
      rw [e1 a ha] at z
      have z' : (!decide ((0 : Int) ≤ sz a)) = true := z
      rw [decide_eq_true (f.nn a ha)] at z'
      cases z'
    rw [e2]
    have e3 : ((("" : Str) :: ts.map Prod.fst).find? fun p => decide (resid ts n (szOf (tblI l sz)) p < 0)) = none := List.find?_eq_none.mpr fun q hq z => by
      have z' := of_decide_eq_true z
      rw [resid_congr (sz' := sz) (fun a ha => szOf_tbl (p.mem_iff.mpr ha)) ((List.mem_cons.mp hq).imp id fun h => szOf_tbl (p.mem_iff.mpr h))] at z'
      have := f.res q hq
      omega
    show Option.map _ (Option.map V.str (List.find? _ _)) = none
    rw [e3] <;> rfl
  · intro z
    have : ((ts.map Prod.fst).all fun a => (valV (tblI l sz) (Sum.inr a)).isSome) = true := List.all_eq_true.mpr fun a ha => by rw [e1 a ha] <;> rfl
    rw [this] at z
    cases z
/-- what has been dealt out -/
structure Dealt (t : List (Str × Str)) (n : Int) (l : List Str) (t' : List (Str × Str)) (sz : Str → Int) : Prop where
  keys : t'.map Prod.fst = l
  sub : ∀ p ∈ t', p ∈ t
  par_ : ∀ p ∈ t', p.2 = "" ∨ p.2 ∈ l
  nn : ∀ a ∈ l, 0 ≤ sz a
  res : ∀ p ∈ (("" : Str) :: l), 0 ≤ resid t' n sz p
  top_ : ∀ p ∈ (("" : Str) :: l), resid t' n sz p ≤ n
theorem Dealt.nil {t : List (Str × Str)} {n : Int} {sz : Str → Int} (n0 : 0 ≤ n) : Dealt t n [] [] sz := by
  refine ⟨rfl, fun p h => (by cases h), fun p h => (by cases h), fun a h => (by cases h), fun p h => ?_, fun p h => ?_⟩
  · rw [List.mem_singleton.mp h]
    show 0 ≤ n - 0
    omega
  · rw [List.mem_singleton.mp h]
    show n - 0 ≤ n
    omega
theorem Dealt.step {t t' : List (Str × Str)} {n : Int} {l : List Str} {sz : Str → Int} (d : Dealt t n l t' sz) {a pa : Str} {z : Int} (na : a ∉ l) (ne : a ≠ "") (mt : (a, pa) ∈ t) (mp : pa = "" ∨ pa ∈ l) (z0 : 0 ≤ z) (z1 : z ≤ resid t' n sz pa) :
    Dealt t n (l ++ [a]) (t' ++ [(a, pa)]) (fun x => if x = a then z else sz x) ∧
    (∀ p ∈ (("" : Str) :: (l ++ [a])), resid (t' ++ [(a, pa)]) n (fun x => if x = a then z else sz x) p = if p = pa then resid t' n sz pa - z else if p = a then z else resid t' n sz p) := by
  have kid : kids t' a = [] := by
    unfold kids
    rw [List.filter_eq_nil_iff.mpr fun q hq z => ?_] <;> try rfl
    have e := of_decide_eq_true z
    rcases d.par_ q hq with h | h
    · exact ne (e.symm.trans h)
    · exact na (by rw [← e]; exact h)
  have pne : pa ≠ a := fun e => mp.elim (fun h => ne (e.symm.trans h)) fun h => na (by rw [← e]; exact h)
  have old : ∀ p, p ≠ a → resid t' n (fun x => if x = a then z else sz x) p = resid t' n sz p := fun p hp =>
    resid_congr (fun x hx => if_neg fun e => na (by rw [← e, ← d.keys]; exact hx)) (.inr (if_neg hp))
  have eq : ∀ p ∈ (("" : Str) :: (l ++ [a])), resid (t' ++ [(a, pa)]) n (fun x => if x = a then z else sz x) p = if p = pa then resid t' n sz pa - z else if p = a then z else resid t' n sz p := fun p _ => by
    rw [resid_snoc]
    by_cases h1 : p = pa
    · rw [if_pos h1.symm, if_pos h1, old p (by rw [h1]; exact pne), h1]
      show _ - (if a = a then z else sz a) = _
      rw [if_pos rfl]
    · rw [if_neg (fun e => h1 e.symm), if_neg h1]
      by_cases h2 : p = a
      · rw [if_pos h2, h2]
        unfold resid
        rw [kid, if_neg ne]
        show (if a = a then z else sz a) - 0 = z
        rw [if_pos rfl]
        omega
      · rw [if_neg h2, old p h2]
  refine ⟨⟨by rw [List.map_append, d.keys] <;> rfl, fun p hp => ?_, fun p hp => ?_, fun x hx => ?_, fun p hp => ?_, fun p hp => ?_⟩, eq⟩
  · rcases List.mem_append.mp hp with h | h
    · exact d.sub p h
    · rw [List.mem_singleton.mp h]
      exact mt
  · rcases List.mem_append.mp hp with h | h
    · exact (d.par_ p h).imp id fun m => List.mem_append_left _ m
    · rw [List.mem_singleton.mp h]
      exact mp.imp id fun m => List.mem_append_left _ m
  · show 0 ≤ if x = a then z else sz x
    by_cases e : x = a
    · rw [if_pos e]
      exact z0
    · rw [if_neg e]
      exact d.nn x ((List.mem_append.mp hx).resolve_right fun m => e (List.mem_singleton.mp m))
  · rw [eq p hp]
    by_cases h1 : p = pa
    · rw [if_pos h1]
      omega
    · rw [if_neg h1]
      by_cases h2 : p = a
      · rw [if_pos h2]
        exact z0
      · rw [if_neg h2]
        refine d.res p ((List.mem_cons.mp hp).elim (fun e => e ▸ List.mem_cons_self ..) fun m => List.mem_cons_of_mem _ ?_)
        exact (List.mem_append.mp m).resolve_right fun m => h2 (List.mem_singleton.mp m)
  · rw [eq p hp]
    have tp := d.top_ pa (List.mem_cons.mpr mp)
    by_cases h1 : p = pa
    · rw [if_pos h1]
      omega
    · rw [if_neg h1]
      by_cases h2 : p = a
      · rw [if_pos h2]
        omega
      · rw [if_neg h2]
        refine d.top_ p ((List.mem_cons.mp hp).elim (fun e => e ▸ List.mem_cons_self ..) fun m => List.mem_cons_of_mem _ ?_)
        exact (List.mem_append.mp m).resolve_right fun m => h2 (List.mem_singleton.mp m)
end FT


/-! amounts and errors of tables (plain part of FtAm) -/
namespace FT
open PySem L2 TL ClX LamX NdefX LiI
end FT


/-! lists of texts as data, for == and !=. -/
namespace FT
open PySem L2 TL
theorem dps_strs {K : PySem.W.Frag} {H : Hp} : ∀ ts : List Str, DpAll K H (ts.map V.str) (ts.map PyData.str)
  | [] => .nil
  | t :: ts => .cons (.str t) (dps_strs ts)
theorem strs_lay : ∀ {ts : List Str}, (∀ t ∈ ts, PyData.strOk t = true) → PyData.canLayAll0 (ts.map PyData.str) = true ∧ PyData.depthAll (ts.map PyData.str) ≤ 0
  | [], _ => ⟨rfl, Nat.le_refl _⟩
  | t :: ts, h => by
    obtain ⟨h1, h2⟩ := strs_lay (ts := ts) fun b hb => h b (List.mem_cons_of_mem _ hb)
    constructor
    · show (PyData.strOk t && PyData.canLayAll0 (ts.map PyData.str)) = true
      rw [h t (List.mem_cons_self ..), h1] <;> rfl
    · show max 0 (PyData.depthAll (ts.map PyData.str)) ≤ 0
      omega
theorem strs_shaped {ts : List Str} (h : ∀ t ∈ ts, PyData.strOk t = true) : SeqAt.shaped (.list (ts.map PyData.str)) = true := by
  obtain ⟨h1, h2⟩ := strs_lay h
  unfold SeqAt.shaped
  have c : (PyData.list (ts.map PyData.str)).canLay0 = true := h1
  rw [c]
  have d : (PyData.list (ts.map PyData.str)).depth ≤ 64 := by
    show PyData.depthAll (ts.map PyData.str) + 1 ≤ 64
    omega
  rw [decide_eq_true d] <;> rfl
end FT


/-! the drawing state of four items; take, pick, order, names. -/
namespace FT
open PySem L2 TL ClX
/-- the drawing state: at d the list [cells, next, mixed, number], the cells at c -/
def DrawAt (H : Hp) (d c : Addr) : Prop := ∃ (nx mx ct : Int) (cells : List Int), H d = some (.lst [.ref c, .int nx, .int mx, .int ct]) ∧ H c = some (.lst (cells.map V.int)) ∧ cells ≠ [] ∧ cells.length ≤ 63 ∧ (∀ z ∈ cells, 0 ≤ z) ∧ 0 ≤ nx ∧ 0 ≤ mx ∧ mx < 2147483647 ∧ 0 ≤ ct
/-- all that was tracked, but d and c, is as it was -/
def Keep (d c : Addr) (H H' : Hp) : Prop := ∀ b o, b ≠ d → b ≠ c → H b = some o → H' b = some o
theorem Keep.refl {d c : Addr} {H : Hp} : Keep d c H H := fun _ _ _ _ e => e
theorem Keep.trans {d c : Addr} {H H1 H2 : Hp} (a : Keep d c H H1) (b : Keep d c H1 H2) : Keep d c H H2 := fun x o h h' e => b x o h h' (a x o h h' e)
theorem Keep.of_same {d c : Addr} {H H' : Hp} (s : Same H H') : Keep d c H H' := fun b o _ _ e => s b o e
theorem DrawAt.mono {H H' : Hp} {d c : Addr} (s : Same H H') (x : DrawAt H d c) : DrawAt H' d c := by
  obtain ⟨nx, mx, ct, cells, h1, h2, r⟩ := x
  exact ⟨nx, mx, ct, cells, s _ _ h1, s _ _ h2, r⟩
theorem DrawAt.apart {H : Hp} {d c p : Addr} (x : DrawAt H d c) (n : H p = none) : p ≠ d ∧ p ≠ c := by
  obtain ⟨nx, mx, ct, cells, h1, h2, r⟩ := x
  exact ⟨(ne_of_none h1 n).symm, (ne_of_none h2 n).symm⟩
theorem ints_ne {ns : List Int} {c : Addr} {r : List V} : ns.map V.int ≠ V.ref c :: r := by
  cases ns with
  | nil => intro h; cases h
  | cons a t => intro h; cases h
theorem DrawAt.ne {H : Hp} {d c : Addr} (x : DrawAt H d c) : c ≠ d := by
  obtain ⟨_, _, _, _, h1, h2, _⟩ := x
  exact ne_of h2 h1 fun z => ints_ne (HO.lst.inj z)
def spBegin (K : PySem.W.Frag) : Sp := fun vs H Q _ => ∃ (a : Addr) (ns : List Int), vs = [.ref a] ∧ SqL K H a (ns.map V.int) ∧ ns.length ≤ 63 ∧
  ∀ (H' : Hp) (d c : Addr), Same H H' → H d = none → H c = none → DrawAt H' d c → Q (.ref d) H'
def spDraw : Sp := fun vs H Q _ => ∃ (d c : Addr) (n : Int), vs = [.ref d, .int n] ∧ DrawAt H d c ∧ 0 < n ∧ n.natAbs < 2 ^ 300 ∧
  ∀ (k : Int) (H' : Hp), 0 ≤ k → k < n → DrawAt H' d c → Keep d c H H' → Q (.int k) H'
/-- an item of a list, a sign of a text -/
def Items (K : PySem.W.Frag) (H : Hp) (d c : Addr) (v : V) (n : Nat) (P : Nat → V → Prop) : Prop :=
  (∃ (l : Addr) (xs : List V), v = .ref l ∧ l ≠ d ∧ l ≠ c ∧ H l = some (.lst xs) ∧ xs.length = n ∧ ∀ i x, xs[i]? = some x → P i x) ∨
  (∃ z : Str, v = .str z ∧ z.length = n ∧ ∀ i s, z.cps.toList[i]? = some s → P i (.str ⟨#[s]⟩))
def spPick (K : PySem.W.Frag) : Sp := fun vs H Q _ => ∃ (d c : Addr) (v : V) (n : Nat) (P : Nat → V → Prop), vs = [.ref d, v] ∧ DrawAt H d c ∧ Items K H d c v n P ∧ 0 < n ∧ n < 1000 ∧
  ∀ (i : Nat) (x : V) (H' : Hp), P i x → DrawAt H' d c → Keep d c H H' → Q x H'
/-- the list of the magnitudes -/
def mags (ms : List Int) : List Int := ms.map fun i => if i < 0 then -i else i
theorem mags_nn (ms : List Int) : ∀ z ∈ mags ms, 0 ≤ z := fun z h => by
  obtain ⟨i, _, rfl⟩ := List.mem_map.mp h
  split <;> omega
theorem at_mod {cells : List Int} {nx : Int} (ne : cells ≠ []) : ∃ (j : Nat) (z : Int), nx % ((cells.map V.int).length : Int) = (j : Int) ∧ j < cells.length ∧ cells[j]? = some z ∧ z ∈ cells := by
  have l0 : 0 < cells.length := List.length_pos_iff.mpr ne
  rw [List.length_map]
  have h1 : 0 ≤ nx % (cells.length : Int) := Int.emod_nonneg _ (by omega)
  have h2 : nx % (cells.length : Int) < (cells.length : Int) := Int.emod_lt_of_pos _ (by omega)
  refine ⟨(nx % (cells.length : Int)).toNat, cells[(nx % (cells.length : Int)).toNat]'(by omega), by omega, by omega, by simp, List.getElem_mem _⟩
section
variable {P : Program} {w : World} {K : PySem.W.Frag} {mg : Str → Option Value} {base : Heap}
theorem scBegin : FnScope ["_law_script", "_law_cell"] ["_law_script"] (defScope s__law_begin) := ⟨rfl, rfl, rfl, by decide +kernel, rfl, by decide +kernel, by decide +kernel⟩
theorem ok_begin {f : Addr} {fd : FuncData} (F : Fun K "_law_begin" "_law_begin" s__law_begin f fd) (T : Nm mg) : FnOk P w K mg base CX0 1 f fd ["_law_script"] (spBegin K) := by
  refine F.ok scBegin (fun vs H Q E h => ?_) (fun cdv A outer s H vs Q E hr h => ?_)
  · obtain ⟨a, ns, rfl, _⟩ := h
    rfl
  · obtain ⟨a, ns, rfl, hS, hlen, k⟩ := h
    refine ⟨_, pss_one (ps_ret (pe_lst (pa_cons (pe_orT (pe_lc (own := [("_law_cell", 1)]) (g := gName 1) (tt := tYes) rfl scBegin.nd (pi_list (pe_slice sl_list (pv 0) po_none (po_some pe_int))) (blkOk_by (N := ["_law_script", "_law_cell"]) (sc := defScope s__law_begin) (by decide +kernel))
      (fun _ _ _ _ _ => pg_name (i := 1) scBegin.nd rfl (Or.inl rfl)) (fun _ _ _ _ _ => pts_nil) (fun _ _ _ _ _ => pe_callB call_abs (by rfl) T.abs (by decide +kernel) (pa_cons (pv 1) pa_nil))) (pe_one (pe_lst (pa_cons pe_int pa_nil))))
      (pa_cons pe_int (pa_cons pe_int (pa_cons pe_int pa_nil)))))), ?_⟩
    obtain ⟨ms, em, lm⟩ := cut_ints ns none (some 63)
    refine ⟨_, rfl, _, rfl, a, _, rfl, hS, fun p np => ?_⟩
    rw [em]
    have s1 : Same H (upd H p (.lst (ms.map V.int))) := same_new np
    refine ⟨p, rfl, ⟨_, SqL.of upd_same⟩, fun D nD => lc_list (xs := ms.map V.int) (fun i H' => Same (upd H p (.lst (ms.map V.int))) H' ∧ H' D = some (.lst ((mags (ms.take i)).map V.int))) ?_ ?_ ?_ ?_⟩
    · exact ⟨same_new nD, by rw [upd_same, List.take_zero] <;> rfl⟩
    · exact fun i H' _ q => Same.sql q.1 (SqL.of upd_same)
    · intro i x H' hx ⟨q1, q2⟩
      obtain ⟨z, hz, rfl⟩ : ∃ z, ms[i]? = some z ∧ x = V.int z := by
        rw [List.getElem?_map] at hx
        obtain ⟨z, hz, rfl⟩ := Option.map_eq_some_iff.mp hx
        exact ⟨z, hz, rfl⟩
      refine ⟨rfl, ?_⟩
      refine ⟨_, rfl, z, rfl, _, q2, ?_, ?_⟩
      · rw [List.length_map]
        unfold mags
        rw [List.length_map, List.length_take]
        exact Nat.lt_of_le_of_lt (Nat.min_le_right _ _) (Nat.lt_of_le_of_lt (Nat.le_trans lm hlen) (by decide))
      · refine ⟨fun b o e => ?_, ?_⟩
        · rw [upd_ne (ne_of_none e nD)]
          exact q1 b o e
        · rw [upd_same, take_more hz]
          unfold mags
          rw [List.map_append, List.map_append] <;> rfl
    · intro H' ⟨q1, q2⟩
      rw [List.length_map, List.take_length] at q2
      have sH : Same H H' := Same.trans s1 q1
      refine ⟨_, .inl ⟨_, SqL.of q2, rfl⟩, ?_⟩
      have hD : H D = none := Same.free s1 nD
      refine ite2 (fun nz => ?_) (fun nz => ?_)
      · refine ⟨by show 4 ≤ sizeLine; decide, fun d nd => ?_⟩
        have ncd : D ≠ d := ne_of_none q2 nd
        refine k _ d D (Same.trans sH (same_new nd)) (Same.free sH nd) hD ⟨0, 1, 0, mags ms, upd_same, by rw [upd_ne ncd]; exact q2, fun z => ?_, ?_, mags_nn ms, by omega, by omega, by omega, by omega⟩
        · rw [z] at nz
          cases nz
        · unfold mags
          rw [List.length_map]
          exact Nat.le_trans lm hlen
      · refine ⟨by show 1 ≤ sizeLine; decide, fun c nc => ?_⟩
        refine ⟨by show 4 ≤ sizeLine; decide, fun d nd => ?_⟩
        have ncd : c ≠ d := ne_of_none upd_same nd
        have nd' : H' d = none := by
          rw [upd_ne (Ne.symm ncd)] at nd
          exact nd
        exact k _ d c (Same.trans sH (Same.trans (same_new nc) (same_new nd))) (Same.free sH nd') (Same.free sH nc) ⟨0, 1, 0, [7], upd_same, by rw [upd_ne ncd, upd_same] <;> rfl, by simp, by decide, by simp, by omega, by omega, by omega, by omega⟩
theorem scDraw : FnScope ["_law_draw", "_law_size", "_law_cells", "_law_at", "_law_cell"] ["_law_draw", "_law_size"] (defScope s__law_take) := ⟨rfl, rfl, rfl, by decide +kernel, rfl, by decide +kernel, by decide +kernel⟩
theorem ok_draw {f : Addr} {fd : FuncData} (F : Fun K "_law_take" "_law_take" s__law_take f fd) (T : Nm mg) : FnOk P w K mg base CX0 1 f fd ["_law_draw", "_law_size"] spDraw := by
  refine F.ok scDraw (fun vs H Q E h => ?_) (fun cdv A outer s H vs Q E hr h => ?_)
  · obtain ⟨d, c, n, rfl, _⟩ := h
    rfl
  · obtain ⟨d, c, n, rfl, hD, n0, n1, k⟩ := h
    have ncd := hD.ne
    obtain ⟨nx, mx, ct, cells, hd, hc, ne, len, nn, a0, m0, m1, c0⟩ := hD
    refine ⟨_, pss_cons (ps_set (i := 2) scDraw.nd rfl (.inl rfl) (pe_ix ix_list (pv 0) pe_int (fun _ _ => rfl)))
      (pss_cons (ps_set (i := 3) scDraw.nd rfl (.inl rfl) (pe_op op_mod (pe_ix ix_list (pv 0) pe_int (fun _ _ => rfl)) (pe_callB call_len_seq (by rfl) T.len PySem.boot_len (pa_cons (pv 2) pa_nil))))
      (pss_cons (ps_set (i := 4) scDraw.nd rfl (.inl rfl) (pe_ix ix_list (pv 2) (pv 3) (fun _ _ => rfl)))
      (pss_cons (ps_if (pt_cmpR op_ge (pv 4) (pe_op op_pow pe_int pe_int) (nomark _))
        (pss_cons (ps_asg (pe_op op_fdivW (pv 4) (pv 1)) (pg_sub (pv 2) (pv 3) set_list)) (pss_one (ps_ret (pe_op op_mod (pv 4) (pv 1))))) pss_nil)
      (pss_cons (ps_asg (pe_op op_add (pe_ix ix_list (pv 0) pe_int (fun _ _ => rfl)) pe_int) (pg_sub (pv 0) pe_int set_list))
      (pss_cons (ps_asg (pe_op op_add (pe_ix ix_list (pv 0) pe_int (fun _ _ => rfl)) pe_int) (pg_sub (pv 0) pe_int set_list))
      (pss_cons (ps_asg (pe_op op_mod (pe_op op_add (pe_op op_add (pe_op op_add (pe_op op_mul (pe_ix ix_list (pv 0) pe_int (fun _ _ => rfl)) pe_int) (pv 4)) (pe_op op_mul pe_int (pe_ix ix_list (pv 0) pe_int (fun _ _ => rfl)))) pe_int) pe_int) (pg_sub (pv 0) pe_int set_list))
      (pss_one (ps_ret (pe_op op_mod (pe_op op_fdiv (pe_op op_mod (pe_op op_mul (pe_ix ix_list (pv 0) pe_int (fun _ _ => rfl)) (pe_ix ix_list (pv 0) pe_int (fun _ _ => rfl))) pe_int) pe_int) (pv 1)))))))))), ?_⟩
    obtain ⟨j, z, ej, jl, hz, zm⟩ := at_mod (nx := nx) ne
    have z0 := nn z zm
    have l0 : (0 : Int) < ((cells.map V.int).length : Int) := by
      have := List.length_pos_iff.mpr ne
      rw [List.length_map]
      omega
    refine ⟨_, rfl, d, _, 0, .ref c, rfl, rfl, SqL.of hd, rfl, ?_⟩
    refine ⟨_, rfl, d, _, 1, .int nx, rfl, rfl, SqL.of hd, rfl, _, rfl, c, _, rfl, .inl (SqL.of hc), _, _, rfl, rfl, l0, ?_⟩
    refine ⟨_, rfl, _, rfl, c, _, _, .int z, rfl, rfl, SqL.of hc, by rw [ej]; exact atI_nat (map_at hz), ?_⟩
    refine ⟨_, rfl, 10, 18, rfl, rfl, ⟨by decide, by decide, by decide⟩, _, _, rfl, rfl, _, rfl, ?_⟩
    refine ite2 (fun _ => ?_) (fun _ => ?_)
    · refine ⟨_, rfl, _, rfl, _, _, rfl, rfl, wide_div n0 n1 (by decide) (by decide), _, rfl, _, rfl, c, _, _, j, rfl, rfl, hc, by rw [ej]; exact ixN_nat (by rw [List.length_map]; exact jl), ?_⟩
      rw [show (cells.map V.int).set j (.int (z / n)) = (cells.set j (z / n)).map V.int by rw [List.map_set]]
      refine ⟨_, rfl, _, rfl, _, _, rfl, rfl, n0, ?_⟩
      refine k _ _ (Int.emod_nonneg _ (by omega)) (Int.emod_lt_of_pos _ n0) ⟨nx, mx, ct, _, by rw [upd_ne ncd.symm]; exact hd, upd_same, ?_, by rw [List.length_set]; exact len, ?_, a0, m0, m1, c0⟩ (fun b o _ h2 e => by rw [upd_ne h2]; exact e)
      · intro e
        have := congrArg List.length e
        rw [List.length_set] at this
        exact ne (List.length_eq_zero_iff.mp this)
      · intro y hy
        rcases List.mem_or_eq_of_mem_set hy with h | h
        · exact nn y h
        · rw [h]
          exact Int.ediv_nonneg z0 (by omega)
    · refine ⟨_, rfl, d, _, 1, .int nx, rfl, rfl, SqL.of hd, rfl, _, _, rfl, rfl, _, rfl, d, _, 1, 1, rfl, rfl, hd, rfl, ?_⟩
      refine ⟨_, rfl, d, _, 3, .int ct, rfl, rfl, SqL.of upd_same, rfl, _, _, rfl, rfl, _, rfl, d, _, 3, 3, rfl, rfl, upd_same, rfl, ?_⟩
      rw [upd_upd]
      refine ⟨_, rfl, d, _, 2, .int mx, rfl, rfl, SqL.of upd_same, rfl, _, _, rfl, rfl, .inl ⟨by omega, by omega⟩, _, rfl, _, _, rfl, rfl, _, rfl, d, _, 3, .int (ct + 1), rfl, rfl, SqL.of upd_same, rfl, _, _, rfl, rfl, .inl ⟨by decide, by decide⟩,
        _, _, rfl, rfl, _, _, rfl, rfl, _, _, rfl, rfl, (by show (0 : Int) < 2147483647; decide), _, rfl, d, _, 2, 2, rfl, rfl, upd_same, rfl, ?_⟩
      rw [upd_upd]
      obtain ⟨m, em⟩ : ∃ m, m = (mx * 48271 + z + 7919 * (ct + 1) + 12345) % 2147483647 := ⟨_, rfl⟩
      have h0 : 0 ≤ m := by rw [em]; exact Int.emod_nonneg _ (by decide)
      have h1 : m < 2147483647 := by rw [em]; exact Int.emod_lt_of_pos _ (by decide)
      refine ⟨_, rfl, d, _, 2, .int m, rfl, rfl, SqL.of upd_same, by rw [em] <;> rfl, _, rfl, d, _, 2, .int m, rfl, rfl, SqL.of upd_same, by rw [em] <;> rfl, _, _, rfl, rfl, .inl ⟨by omega, by omega⟩, _, _, rfl, rfl, (by show (0 : Int) < 2147483629; decide), _, _, rfl, rfl, ⟨by decide, by decide⟩,
        _, rfl, _, _, rfl, rfl, n0, ?_⟩
      exact k _ _ (Int.emod_nonneg _ (by omega)) (Int.emod_lt_of_pos _ n0) ⟨nx + 1, m, ct + 1, cells, by rw [upd_same, em] <;> rfl, by rw [upd_ne ncd]; exact hc, ne, len, nn, by omega, h0, h1, by omega⟩ (fun b o h2 _ e => by rw [upd_ne h2]; exact e)
theorem scPick : FnScope ["_law_draw", "_law_some"] ["_law_draw", "_law_some"] (defScope s__law_pick) := ⟨rfl, rfl, rfl, by decide +kernel, rfl, by decide +kernel, by decide +kernel⟩
theorem ok_pick {f fT : Addr} {fd fdT : FuncData} (F : Fun K "_law_pick" "_law_pick" s__law_pick f fd) (T : Nm mg) (FT : Fun K "_law_take" "_law_take" s__law_take fT fdT) (bT : Binds K fdT ["_law_draw", "_law_size"] []) (gT : mg "_law_take" = some (.ref fT)) :
    FnOk P w K mg base CX0 2 f fd ["_law_draw", "_law_some"] (spPick K) := by
  have GT : FnOk P w K mg base CX0 1 fT fdT ["_law_draw", "_law_size"] spDraw := ok_draw FT T
  refine F.ok scPick (fun vs H Q E h => ?_) (fun cdv A outer s H vs Q E hr h => ?_)
  · obtain ⟨d, c, v, n, P, rfl, _⟩ := h
    rfl
  · obtain ⟨d, c, v, n, Pr, rfl, hD, it, x0, x1, k⟩ := h
    have hr1 : Room 1 _ := hr.mono (by decide)
    refine ⟨_, pss_one (ps_ret (pe_ix ix_seq (pv 1) (pe_call GT hr1 rfl gT FT.kp bT .nil pass0 (pa_cons (pv 0) (pa_cons (pe_callB call_len (by rfl) T.len PySem.boot_len (pa_cons (pv 1) pa_nil)) pa_nil))) (fun _ _ => rfl))), ?_⟩
    have small : ∀ n : Nat, n < 1000 → ((n : Int)).natAbs < 2 ^ 300 := fun n hn => by
      rw [Int.natAbs_natCast]
      exact Nat.lt_trans hn (by decide)
    rcases it with ⟨l, xs, rfl, nd, nc, hl, en, hp⟩ | ⟨z, rfl, en, hp⟩
    · refine ⟨_, rfl, _, rfl, _, rfl, _, xs.length, rfl, .inl ⟨xs, SqL.of hl, rfl⟩, d, c, _, rfl, hD, by omega, small _ (by omega), fun i H' i0 i1 hD' off => ?_⟩
      have hi : i.toNat < xs.length := by omega
      have e : xs[i.toNat]? = some xs[i.toNat] := List.getElem?_eq_getElem hi
      have e2 := atI_nat e
      rw [show ((i.toNat : Nat) : Int) = i by omega] at e2
      exact .inl ⟨l, xs, i, xs[i.toNat], rfl, rfl, SqL.of (off l _ nd nc hl), e2, k i.toNat _ H' (hp _ _ e) hD' off⟩
    · have zl : z.length ≤ sizeLine := Nat.le_trans (by omega : z.length ≤ 1000) (by decide)
      refine ⟨_, rfl, _, rfl, _, rfl, _, z.length, rfl, ⟨zl, rfl⟩, d, c, _, rfl, hD, by omega, small _ (by omega), fun i H' i0 i1 hD' off => ?_⟩
      have hi : i.toNat < z.cps.toList.length := by
        have : z.length = z.cps.toList.length := by simp [Str.length]
        omega
      have e : z.cps.toList[i.toNat]? = some z.cps.toList[i.toNat] := List.getElem?_eq_getElem hi
      have e2 := atI_nat e
      rw [show ((i.toNat : Nat) : Int) = i by omega] at e2
      exact .inr (.inr ⟨z, i, _, rfl, rfl, zl, e2, k i.toNat _ H' (hp _ _ e) hD' off⟩)
end

/-- list(x): x a list of texts, or a dict of texts -/
def Texts (K : PySem.W.Frag) (H : Hp) (a : Addr) (ts : List Str) : Prop := SqL K H a (ts.map V.str) ∨ ∃ kvs, Rd H a (.dK kvs) ∧ kvs.map (·.1) = ts.map Sum.inr
theorem call_texts {X : Cx} (hcalm : X.calm = true) : CallR X (.type "list") (fun xs H Q => ∃ (a : Addr) (ts : List Str), xs = [.ref a] ∧ Texts X.K H a ts ∧ ∀ p, H p = none → Q (.ref p) (upd H p (.lst (ts.map V.str)))) := by
  intro pins s σ H xs us Q I r h
  obtain ⟨a, ts, rfl, t, q⟩ := h
  rcases t with t | ⟨kvs, t, e⟩
  · exact call_list_of pins s σ H _ us Q I r ⟨a, _, rfl, .inl t, q⟩
  · refine call_listD hcalm pins s σ H _ us Q I r ⟨a, kvs, rfl, t, fun p np => ?_⟩
    have ek : (kvs.map fun kv => kV kv.1) = ts.map V.str := by
      have z := congrArg (List.map kV) e
      rw [List.map_map, List.map_map] at z
      exact z
    rw [ek]
    exact q p np
theorem DrawAt.off {H : Hp} {d c p : Addr} {o : HO} (x : DrawAt H d c) (n1 : p ≠ d) (n2 : p ≠ c) : DrawAt (upd H p o) d c := by
  obtain ⟨nx, mx, ct, cells, h1, h2, r⟩ := x
  exact ⟨nx, mx, ct, cells, by rw [upd_ne n1.symm]; exact h1, by rw [upd_ne n2.symm]; exact h2, r⟩
def spOrder (K : PySem.W.Frag) : Sp := fun vs H Q _ => ∃ (d c a : Addr) (ts : List Str), vs = [.ref d, .ref a] ∧ DrawAt H d c ∧ Texts K H a ts ∧ ts.length < 900 ∧ (∀ t ∈ ts, PyData.strOk t = true) ∧
  ∀ (p : Addr) (ys : List Str) (H' : Hp), ys.Perm ts → H p = none → H' p = some (.lst (ys.map V.str)) → DrawAt H' d c → Keep d c H H' → Q (.ref p) H'
section
variable {P : Program} {w : World} {K : PySem.W.Frag} {mg : Str → Option Value} {base : Heap}
theorem scOrder : FnScope ["_law_draw", "_law_some", "_law_rest", "_law_found"] ["_law_draw", "_law_some"] (defScope s__law_order) := ⟨rfl, rfl, rfl, by decide +kernel, rfl, by decide +kernel, by decide +kernel⟩
theorem ok_order {f fT : Addr} {fd fdT : FuncData} (F : Fun K "_law_order" "_law_order" s__law_order f fd) (T : Nm mg) (FT : Fun K "_law_take" "_law_take" s__law_take fT fdT) (bT : Binds K fdT ["_law_draw", "_law_size"] []) (gT : mg "_law_take" = some (.ref fT)) :
    FnOk P w K mg base CX0 2 f fd ["_law_draw", "_law_some"] (spOrder K) := by
  have GT : FnOk P w K mg base CX0 1 fT fdT ["_law_draw", "_law_size"] spDraw := ok_draw FT T
  refine F.ok scOrder (fun vs H Q E h => ?_) (fun cdv A outer s H vs Q E hr h => ?_)
  · obtain ⟨d, c, a, ts, rfl, _⟩ := h
    rfl
  · obtain ⟨d, c, a, ts, rfl, hD, ht, few, sok, k⟩ := h
    have hr1 : Room 1 _ := hr.mono (by decide)
    refine ⟨_, pss_cons (ps_par (i := 2) (j := 3) rfl scOrder.nd rfl rfl (by decide) rfl rfl (pa_cons (pe_callTy (call_texts rfl) (by rfl) T.lst (by decide +kernel) (pa_cons (pv 1) pa_nil)) (pa_cons (pe_lst pa_nil) pa_nil)) (by rfl))
      (pss_cons (ps_while PassesOwn.never (pt_cmpR (op_neD hr.units) (pv 2) (pe_lst pa_nil) (nomark _))
        (pss_one (ps_expr (pe_bm PySem.F.plainAttrs_list PySem.F.slot_list_append PySem.F.type_list_append mt_append (pv 3) (pa_cons (pe_bm PySem.F.plainAttrs_list PySem.F.slot_list_pop PySem.F.type_list_pop mt_popAt (pv 2) (pa_cons (pe_call GT hr1 rfl gT FT.kp bT .nil pass0 (pa_cons (pv 0) (pa_cons (pe_callB call_len_seq (by rfl) T.len PySem.boot_len (pa_cons (pv 2) pa_nil)) pa_nil))) pa_nil)) pa_nil)))))
      (pss_one (ps_ret (pv 3)))), ?_⟩
    refine ⟨_, rfl, a, ts, rfl, ht, fun r nr => ⟨by show 0 ≤ sizeLine; omega, fun q nq => ⟨_, _, rfl, ?_⟩⟩⟩
    have rq : r ≠ q := ne_of_none upd_same nq
    have rd := hD.apart nr
    have qd := (hD.mono (same_new nr)).apart nq
    refine while_by (fun σ H' => σ = [some (.ref d), some (.ref a), some (.ref r), some (.ref q)] ∧ DrawAt H' d c ∧ Keep d c H H' ∧ ∃ rest found : List Str, H' r = some (.lst (rest.map V.str)) ∧ H' q = some (.lst (found.map V.str)) ∧ (found ++ rest).Perm ts) (fun _ H' => many H' r)
      ⟨rfl, (hD.mono (same_new nr)).mono (same_new nq), Keep.of_same ((same_new nr).trans (same_new nq)), ts, [], by rw [upd_ne rq, upd_same], upd_same, .refl _⟩ ?_ ?_
    · rintro σ H1 ⟨rfl, d1, k1, rest, found, er, eq, pm⟩
      have lens := pm.length_eq
      rw [List.length_append] at lens
      refine ⟨_, rfl, by show 0 ≤ sizeLine; omega, fun e ne => ⟨_, _, .lst (SqL.of (by rw [upd_ne (ne_of_none er ne)]; exact er)) (dps_strs rest), .lst (SqL.of upd_same) .nil, ?_, rfl, ?_⟩⟩
      · exact strs_shaped fun t m => sok t (pm.mem_iff.mp (List.mem_append_right _ m))
      · have s1 := same_new (o := .lst []) ne
        obtain ⟨H2, e2⟩ : ∃ X, X = upd H1 e (.lst []) := ⟨_, rfl⟩
        rw [← e2] at s1 ⊢
        have d2 := d1.mono s1
        refine ⟨_, rfl, ?_⟩
        refine ite2 (fun t => ?_) (fun t => ?_)
        · cases rest with
          | nil => cases t
          | cons y rest =>
            have er2 := s1 _ _ er
            have eq2 := s1 _ _ eq
            refine ⟨_, rfl, .inl ⟨rfl, _, SqL.of eq2⟩, _, rfl, .inl ⟨rfl, _, SqL.of er2⟩, _, rfl, _, rfl, r, _, rfl, .inl (SqL.of er2), d, c, _, rfl, d2, ?_, ?_, fun i H3 i0 i1 d3 k3 => ?_⟩
            · rw [List.length_map, List.length_cons]
              omega
            · rw [List.length_map, List.length_cons, Int.natAbs_natCast]
              rw [List.length_cons] at lens
              exact Nat.lt_trans (by omega : rest.length + 1 < 1000) (by decide)
            · rw [List.length_map] at i1
              have er3 := k3 r _ rd.1 rd.2 er2
              have eq3 := k3 q _ qd.1 qd.2 eq2
              have hi : i.toNat < (y :: rest).length := by omega
              have e0 : ((y :: rest).map V.str)[i.toNat]? = some (V.str (y :: rest)[i.toNat]) := by rw [List.getElem?_map, List.getElem?_eq_getElem hi] <;> rfl
              obtain ⟨sx, _, _, _⟩ := ixN_seq (ixN_nat (n := ((y :: rest).map V.str).length) (j := i.toNat) (by rw [List.length_map]; exact hi))
              rw [show ((i.toNat : Nat) : Int) = i by omega] at sx
              rw [List.length_cons] at lens i1
              refine ⟨r, _, i, i.toNat, _, rfl, rfl, er3, by omega, by omega, sx, e0, ?_⟩
              refine ⟨q, _, _, rfl, rfl, by rw [upd_ne rq.symm]; exact eq3, ?_, ?_⟩
              · rw [List.length_map]
                exact Nat.lt_of_lt_of_le (by omega : found.length < 1000) (by decide)
              · have er4 : (upd (upd H3 r (.lst (((y :: rest).map V.str).eraseIdx i.toNat))) q (.lst (found.map V.str ++ [V.str (y :: rest)[i.toNat]]))) r = some (.lst (((y :: rest).eraseIdx i.toNat).map V.str)) := by
                  rw [upd_ne rq, upd_same, map_erase]
                have pe : ((y :: rest)[i.toNat] :: (y :: rest).eraseIdx i.toNat).Perm (y :: rest) := erase_perm _ _ hi
                refine ⟨⟨rfl, (d3.off rd.1 rd.2).off qd.1 qd.2, fun b o b1 b2 eb => ?_, _, found ++ [(y :: rest)[i.toNat]], er4, by rw [upd_same, List.map_append] <;> rfl, ?_⟩, ?_⟩
                · have n1 : b ≠ r := ne_of_none eb nr
                  have n2 : b ≠ q := ne_of_none (same_new nr b o eb) nq
                  rw [upd_ne n2, upd_ne n1]
                  exact k3 b o b1 b2 (s1 b o (k1 b o b1 b2 eb))
                · rw [List.append_assoc]
                  exact ((List.Perm.refl found).append pe).trans pm
                · show many _ r < many H1 r
                  rw [many_at er4, many_at er, List.length_map, List.length_map, List.length_eraseIdx, if_pos hi, List.length_cons]
                  omega
        · cases rest with
          | cons y rest => exact absurd rfl t
          | nil =>
            have k2 : Keep d c H H2 := k1.trans (Keep.of_same s1)
            rw [List.append_nil] at pm
            have nq0 : H q = none := by
              cases z : H q with
              | none => rfl
              | some o =>
                rw [same_new nr q o z] at nq
                cases nq
            exact ⟨_, rfl, k q found H2 pm nq0 (s1 _ _ eq) d2 k2⟩
    · exact fun σ H Q Q' hm ⟨v, e, z, f⟩ => ⟨v, e, z, fun p np => let ⟨d1, d2, a1, a2, a3, a4, b, eb, q⟩ := f p np; ⟨d1, d2, a1, a2, a3, a4, b, eb, hm _ _ q⟩⟩
end

def pool1 : List Str := ["a", "b", "c", "aa", "ab", "z", "zz", "new", "old", "abcdefgh", "zzzzzzzz", "size", "must", "users", "none"]
def pool2 : List Str := ["a", "b", "c", "d", "e", "f", "g", "h", "i", "j", "k", "l"]
theorem pool_ok : (∀ z ∈ pool1, NameL z) ∧ (∀ z ∈ pool2, NameL z) := by decide +kernel
theorem pool_nd : pool1.Nodup ∧ pool2.Nodup := by decide +kernel
theorem pool_str : (∀ z ∈ pool1, PyData.strOk z = true) ∧ (∀ z ∈ pool2, PyData.strOk z = true) := by decide +kernel
def spNames : Sp := fun vs H Q _ => ∃ (d c : Addr) (n : Nat), vs = [.ref d, .int (n : Int)] ∧ DrawAt H d c ∧ 1 ≤ n ∧ n ≤ 12 ∧
  ∀ (l : Addr) (fs : List Str) (H' : Hp), fs.length = n → fs.Nodup → (∀ z ∈ fs, NameL z) → (∀ z ∈ fs, PyData.strOk z = true) → H l = none → H' l = some (.lst (fs.map V.str)) → DrawAt H' d c → Keep d c H H' → Q (.ref l) H'
theorem Keep.put {d c p : Addr} {H H' : Hp} {o : HO} (k : Keep d c H H') (n : H p = none) : Keep d c H (upd H' p o) := fun b u h1 h2 e => by
  rw [upd_ne (ne_of_none e n)]
  exact k b u h1 h2 e
theorem Keep.free {d c p : Addr} {H H' : Hp} (k : Keep d c H H') (n : H' p = none) (n1 : p ≠ d) (n2 : p ≠ c) : H p = none := by
  cases e : H p with
  | none => rfl
  | some o =>
    rw [k p o n1 n2 e] at n
    cases n
section
variable {P : Program} {w : World} {K : PySem.W.Frag} {mg : Str → Option Value} {base : Heap}
theorem scNames : FnScope ["_law_draw", "_law_many", "_law_pool"] ["_law_draw", "_law_many"] (defScope s__law_names) := ⟨rfl, rfl, rfl, by decide +kernel, rfl, by decide +kernel, by decide +kernel⟩
end
end FT


namespace FT
open PySem L2 TL ClX
def spParents : Sp := fun vs H Q _ => ∃ (d c : Addr) (n : Nat), vs = [.ref d, .int (n : Int)] ∧ DrawAt H d c ∧ 1 ≤ n ∧ n ≤ 12 ∧
  ∀ (q : Addr) (t : List (Str × Str)) (H' : Hp), TreeOk t → t.length = n → H q = none → H' q = some (.dK (prs t)) → DrawAt H' d c → Keep d c H H' → Q (.ref q) H'
def spPath : Sp := fun vs H Q _ => ∃ (q : Addr) (a : Str) (t : List (Str × Str)), vs = [.ref q, .str a] ∧ Rd H q (.dK (prs t)) ∧ TreeOk t ∧ Pl t a ∧ ∀ p H', Same H H' → H p = none → H' p = some (.tup ((pathOf t a).map V.str)) → Q (.ref p) H'
theorem fresh_at {fs l : List Str} {j : Nat} {f : Str} (nd : fs.Nodup) (h : fs[j]? = some f) (e : l = fs.take j) : f ∉ l := by
  rw [e]
  intro hm
  obtain ⟨i, hi⟩ := List.mem_iff_getElem?.mp hm
  have hi2 := (List.getElem?_eq_some_iff.mp hi).1
  have jl := (List.getElem?_eq_some_iff.mp h).1
  rw [List.length_take] at hi2
  rw [List.getElem?_take, if_pos (by omega)] at hi
  have := (List.getElem?_inj (by omega) nd).mp (hi.trans h.symm)
  omega
section
variable {P : Program} {w : World} {K : PySem.W.Frag} {mg : Str → Option Value} {base : Heap}
abbrev NPa : List Str := ["_law_draw", "_law_many", "_law_names_here", "_law_way", "_law_found", "_law_at", "_law_name"]
theorem scPa : FnScope NPa ["_law_draw", "_law_many"] (defScope s__law_parents) := ⟨rfl, rfl, rfl, by decide +kernel, rfl, by decide +kernel, by decide +kernel⟩
end
end FT


namespace FT
open PySem L2 TL ClX LamX NdefX
/-! ### tables -/
/-- as Keep, but for the tables of code objects -/
abbrev lamQ (x : Str) : Str := x ++ ".<locals>." ++ "<lambda>"
def KeepN (d c : Addr) (H H' : Hp) : Prop := ∀ b o, b ≠ d → b ≠ c → H b = some o → (∀ ps, o ≠ .tbl ps) → H' b = some o
theorem KeepN.trans {d c : Addr} {H H1 H2 : Hp} (a : KeepN d c H H1) (b : KeepN d c H1 H2) : KeepN d c H H2 := fun x o h h' e n => b x o h h' (a x o h h' e n) n
theorem Keep.n {d c : Addr} {H H' : Hp} (k : Keep d c H H') : KeepN d c H H' := fun b o h h' e _ => k b o h h' e
theorem KeepN.free {d c p : Addr} {H H' : Hp} (k : KeepN d c H H') (n : H' p = none) (n1 : p ≠ d) (n2 : p ≠ c) (t : ∀ ps, H p ≠ some (.tbl ps)) : H p = none := by
  cases e : H p with
  | none => rfl
  | some o =>
    rw [k p o n1 n2 e (fun ps z => t ps (by rw [e, z]))] at n
    cases n
theorem tabs_keep {T : List (Addr × Str)} {d c : Addr} {H H' : Hp} (t : Tabs T H) (dr : DrawAt H d c) (k : Keep d c H H') : Tabs T H' := fun p hp => by
  obtain ⟨nx, mx, ct, cells, h1, h2, _⟩ := dr
  obtain ⟨ps, e1, e2, e3⟩ := t p hp
  have off : ∀ {b : Addr} {o : HO}, H b = some o → (∀ xs, o ≠ .lst xs) → H' b = some o := fun {b o} e n => k b o (fun z => by
    rw [z, h1] at e
    exact n _ (Option.some.inj e).symm) (fun z => by
    rw [z, h2] at e
    exact n _ (Option.some.inj e).symm) e
  refine ⟨ps, off e1 (fun xs z => nomatch z), e2, fun pos cv hc => ?_⟩
  obtain ⟨c', q1, q2⟩ := e3 pos cv hc
  exact ⟨c', q1, off q2 (fun xs z => by unfold CodeO at z; cases z)⟩
/-- neither a table nor a code object -/
def NTab (u : HO) : Prop := (∀ ps, u ≠ .tbl ps) ∧ ∀ c q, u ≠ CodeO c q
theorem NTab.dK {kvs : List (Key × V)} : NTab (.dK kvs) := ⟨fun ps z => (nomatch z), fun c q z => (by unfold CodeO at z; cases z)⟩
theorem NTab.dT {kvs : List (List Key × V)} : NTab (.dT kvs) := ⟨fun ps z => (nomatch z), fun c q z => (by unfold CodeO at z; cases z)⟩
theorem NTab.lst {xs : List V} : NTab (.lst xs) := ⟨fun ps z => (nomatch z), fun c q z => (by unfold CodeO at z; cases z)⟩
theorem NTab.ins {C dx : Addr} {fs : List (Str × V)} : NTab (.ins C dx fs) := ⟨fun ps z => (nomatch z), fun c q z => (by unfold CodeO at z; cases z)⟩
theorem DrawAt.ext {H H' : Hp} {d c : Addr} (x : DrawAt H d c) (e : ExtN H H') : DrawAt H' d c := by
  obtain ⟨nx, mx, ct, cells, h1, h2, r⟩ := x
  exact ⟨nx, mx, ct, cells, e _ _ h1 (fun ps z => nomatch z), e _ _ h2 (fun ps z => nomatch z), r⟩
def rLenS (K : PySem.W.Frag) : List V → Hp → VK → Prop := fun xs H Q => ∃ p ys, xs = [.ref p] ∧ (SqL K H p ys ∨ SqT K H p ys) ∧ Q (.int ys.length) H
def spSizes (T : List (Addr × Str)) : Sp := fun vs H Q _ => ∃ (d c q : Addr) (n : Int) (t : List (Str × Str)), vs = [.ref d, .ref q, .int n] ∧ DrawAt H d c ∧ H q = some (.dK (prs t)) ∧ TreeOk t ∧ 0 ≤ n ∧ n ≤ 10 ^ 30 ∧ Tabs T H ∧
  ∀ (p : Addr) (l : List Str) (sz : Str → Int) (H' : Hp), l.Perm (t.map Prod.fst) → Fea t n sz → (∀ b o, H b = some o → (∀ ps, o ≠ .tbl ps) → b ≠ p) → H' p = some (.dK (tblI l sz)) → DrawAt H' d c → Tabs T H' → KeepN d c H H' → Q (.ref p) H'
section
variable {P : Program} {w : World} {K : PySem.W.Frag} {mg : Str → Option Value} {base : Heap}
def rankP (t : List (Str × Str)) (rk : Str → Nat) (σ : St) : Nat := match σ[1]? with
  | some (some (V.str a)) => if a ∈ t.map Prod.fst then rk a + 1 else 0
  | _ => 0
end
end FT


/-! amounts and errors of tables; what stands while the draws go on. -/
namespace FT
open PySem L2 TL ClX LamX NdefX LiI
theorem DrawAt.notD {H : Hp} {d c b : Addr} {o : HO} (x : DrawAt H d c) (e : H b = some o) (n : ∀ xs, o ≠ .lst xs) : b ≠ d ∧ b ≠ c := by
  obtain ⟨nx, mx, ct, cells, z1, z2, _⟩ := x
  exact ⟨ne_of e z1 (n _), ne_of e z2 (n _)⟩
theorem Dat.keepN {K : PySem.W.Frag} {H H' : Hp} {d c : Addr} {v : V} {T : String} (dr : DrawAt H d c) (dr' : DrawAt H' d c) (k : KeepN d c H H') (x : Dat K H v T) : Dat K H' v T := by
  cases x with
  | non => exact .non
  | bl b => exact .bl b
  | int i => exact .int i
  | str z => exact .str z
  | @lst a xs h =>
    obtain ⟨nx, mx, ct, cells, z1, z2, _⟩ := dr'
    by_cases e1 : a = d
    · subst e1
      exact .lst z1
    · by_cases e2 : a = c
      · subst e2
        exact .lst z2
      · exact .lst (k _ _ e1 e2 h fun ps z => nomatch z)
  | tup h => exact let ⟨e1, e2⟩ := dr.notD h (fun xs z => nomatch z); .tup (k _ _ e1 e2 h fun ps z => nomatch z)
  | dct h => exact let ⟨e1, e2⟩ := dr.notD h (fun xs z => nomatch z); .dct (k _ _ e1 e2 h fun ps z => nomatch z)
theorem SzV.keepN {K : PySem.W.Frag} {H H' : Hp} {d c : Addr} {sv : V} {o : Option (List (Key × V))} (dr : DrawAt H d c) (dr' : DrawAt H' d c) (k : KeepN d c H H') (x : SzV K H sv o) : SzV K H' sv o := by
  cases o with
  | none => exact let ⟨T, x, n⟩ := x; ⟨T, x.keepN dr dr' k, n⟩
  | some kvs =>
    obtain ⟨q, e, h, a⟩ := x
    obtain ⟨e1, e2⟩ := dr.notD h (fun xs z => nomatch z)
    exact ⟨q, e, k _ _ e1 e2 h (fun ps z => nomatch z), fun p hp => let ⟨T, x⟩ := a p hp; ⟨T, x.keepN dr dr' k⟩⟩
theorem FAt.keepN {CF x : Addr} {H H' : Hp} {d c : Addr} {ts : List (Str × Str)} (dr : DrawAt H d c) (k : KeepN d c H H') (h : FAt CF H x ts) : FAt CF H' x ts := by
  obtain ⟨dx, dq, h1, h2⟩ := h
  obtain ⟨a1, a2⟩ := dr.notD h1 (fun xs z => nomatch z)
  obtain ⟨b1, b2⟩ := dr.notD h2 (fun xs z => nomatch z)
  exact ⟨dx, dq, k _ _ a1 a2 h1 (fun ps z => nomatch z), k _ _ b1 b2 h2 (fun ps z => nomatch z)⟩
theorem KeepN.dk {H H' : Hp} {d c b : Addr} {kvs : List (Key × V)} (dr : DrawAt H d c) (k : KeepN d c H H') (h : H b = some (.dK kvs)) : H' b = some (.dK kvs) := let ⟨a1, a2⟩ := dr.notD h (fun xs z => nomatch z); k _ _ a1 a2 h (fun ps z => nomatch z)
end FT


/-! assignments stay while the draws go on; readings of ifs -/
namespace FT
open PySem L2 TL ClX LamX NdefX LiI
theorem DrawAt.notS {H : Hp} {d c b : Addr} {zs : List Str} (x : DrawAt H d c) (e : H b = some (.lst (zs.map V.str))) : b ≠ d ∧ b ≠ c := by
  obtain ⟨nx, mx, ct, cells, z1, z2, ne, _⟩ := x
  constructor
  · refine ne_of e z1 fun z => ?_
    have z := HO.lst.inj z
    cases zs with
    | nil => cases z
    | cons a zs => cases z
  · refine ne_of e z2 fun z => ?_
    have z := HO.lst.inj z
    cases cells with
    | nil => exact ne rfl
    | cons a cs =>
      cases zs with
      | nil => cases z
      | cons b zs => cases z
theorem AAt.keepN {CA y x : Addr} {H H' : Hp} {d c : Addr} {zs : List Str} (dr : DrawAt H d c) (k : KeepN d c H H') (h : AAt CA H y x zs) : AAt CA H' y x zs := by
  obtain ⟨dy, p, e1, e2⟩ := h
  obtain ⟨a1, a2⟩ := dr.notD e1 (fun xs z => nomatch z)
  obtain ⟨b1, b2⟩ := dr.notS e2
  exact ⟨dy, p, k _ _ a1 a2 e1 (fun ps z => nomatch z), k _ _ b1 b2 e2 (fun ps z => nomatch z)⟩
end FT


/-! Own: calls with keywords alone, two or four of them turned; pairs of a text and an int as data. -/
namespace FT
open PySem L2 TL ClX
def tCallK0 (m : Nat) (sp : Sp) (gV : List V → List V → List V) (E : XK) (tk : TA) : TE := fun σ H Q => tk σ H fun zs H1 => zs.length = m ∧ sp (gV [] zs) H1 Q E
/-- four values, turned -/
def turn4 {α : Type} : List α → List α
  | [a, b, c, d] => [d, c, b, a]
  | l => l
end FT


/-! two keywords, turned; defs that get a lambda -/
namespace FT
open PySem L2 TL ClX
def turn2 {α : Type} : List α → List α
  | [a, b] => [b, a]
  | l => l
abbrev tn2 (α : Type) : List α → List α → List α := fun _ ws => turn2 ws
/-- the two defs that get a lambda -/
structure Ge (K : PySem.W.Frag) (mg : Str → Option Value) (x : Str) (st : Stmt) (f : Addr) (fd : FuncData) : Prop where
  fn : Fun K x x st f fd
  bn : Binds K fd ["_law_work"] []
  mgn : mg x = some (.ref f)
end FT


/-! values that are no places, and _law_unknown_right -/
namespace FT
open PySem L2 TL ClX LamX NdefX LiI
def smF : List (V × PyData) := [(.non, .none), (.str "nobody", .str "nobody"), (.str "-", .str "-"), (.int 0, .int 0), (.bl true, .bool true), (.str "A", .str "A")]
def bgF : List (HO × PyData) := [(.lst [], .list []), (.dK [], .dict []), (.tup [.str ""], .tuple [.str ""]), (.lst [.str ""], .list [.str ""])]
def odF : List PyData := smF.map Prod.snd ++ bgF.map Prod.snd
/-- what is asked for: it stands off the drawing state -/
def OdF (d c : Addr) (H : Hp) (v : V) (da : PyData) : Prop := (v, da) ∈ smF ∨ ∃ a o, v = .ref a ∧ a ≠ d ∧ a ≠ c ∧ (o, da) ∈ bgF ∧ H a = some o
theorem OdF.ext {d c : Addr} {H H' : Hp} {v : V} {da : PyData} (e : ExtN H H') (h : OdF d c H v da) : OdF d c H' v da := by
  rcases h with h | ⟨a, o, rfl, h1, h2, m, h⟩
  · exact .inl h
  · refine .inr ⟨a, o, rfl, h1, h2, m, e _ _ h fun ps z => ?_⟩
    subst z
    unfold bgF at m
    simp at m
theorem OdF.dr {K : PySem.W.Frag} {d c : Addr} {H : Hp} {v : V} {da : PyData} (h : OdF d c H v da) : DR K H v da := by
  rcases h with h | ⟨a, o, rfl, h1, h2, m, h⟩
  · unfold smF at h
    simp only [List.mem_cons, List.not_mem_nil, or_false, Prod.mk.injEq] at h
    rcases h with ⟨rfl, rfl⟩ | ⟨rfl, rfl⟩ | ⟨rfl, rfl⟩ | ⟨rfl, rfl⟩ | ⟨rfl, rfl⟩ | ⟨rfl, rfl⟩
    · exact .dat .non rfl
    · exact .dat (.str _) rfl
    · exact .dat (.str _) rfl
    · exact .dat (.int _) rfl
    · exact .dat (.bl _) rfl
    · exact .dat (.str _) rfl
  · unfold bgF at m
    simp only [List.mem_cons, List.not_mem_nil, or_false, Prod.mk.injEq] at m
    rcases m with ⟨rfl, rfl⟩ | ⟨rfl, rfl⟩ | ⟨rfl, rfl⟩ | ⟨rfl, rfl⟩
    · exact .list (SqL.of h) .nil
    · exact .dict (es := []) h .nil
    · exact .tup (SqT.of h) (.cons (.dat (.str _) rfl) .nil)
    · exact .list (SqL.of h) (.cons (.dat (.str _) rfl) .nil)
theorem OdF.dat {K : PySem.W.Frag} {d c : Addr} {H : Hp} {v : V} {da : PyData} (h : OdF d c H v da) : IsDat K H v := by
  rcases h with h | ⟨a, o, rfl, h1, h2, m, h⟩
  · unfold smF at h
    simp only [List.mem_cons, List.not_mem_nil, or_false, Prod.mk.injEq] at h
    rcases h with ⟨rfl, rfl⟩ | ⟨rfl, rfl⟩ | ⟨rfl, rfl⟩ | ⟨rfl, rfl⟩ | ⟨rfl, rfl⟩ | ⟨rfl, rfl⟩
    · exact ⟨_, .non⟩
    · exact ⟨_, .str _⟩
    · exact ⟨_, .str _⟩
    · exact ⟨_, .int _⟩
    · exact ⟨_, .bl _⟩
    · exact ⟨_, .str _⟩
  · unfold bgF at m
    simp only [List.mem_cons, List.not_mem_nil, or_false, Prod.mk.injEq] at m
    rcases m with ⟨rfl, rfl⟩ | ⟨rfl, rfl⟩ | ⟨rfl, rfl⟩ | ⟨rfl, rfl⟩
    · exact ⟨_, .lst h⟩
    · exact ⟨_, .dct h⟩
    · exact ⟨_, .tup h⟩
    · exact ⟨_, .lst h⟩
theorem OdF.mem {d c : Addr} {H : Hp} {v : V} {da : PyData} (h : OdF d c H v da) : da ∈ odF := by
  rcases h with h | ⟨a, o, rfl, h1, h2, m, h⟩
  · exact List.mem_append_left _ (List.mem_map.mpr ⟨_, h, rfl⟩)
  · exact List.mem_append_right _ (List.mem_map.mpr ⟨_, m, rfl⟩)
/-- none of them is a place, if the names come from the pools -/
theorem OdF.np {d c : Addr} {H : Hp} {v : V} {da : PyData} {ts : List (Str × Str)} (h : OdF d c H v da) (pool : ∀ a ∈ ts.map Prod.fst, a ∈ pool1 ∨ a ∈ pool2) : placeV ts v = false := by
  have no : ∀ z : Str, z ≠ "" → z ∉ pool1 → z ∉ pool2 → placeV ts (.str z) = false := fun z n1 n2 n3 => decide_eq_false fun h => h.elim n1 fun h => (pool z h).elim n2 n3
  rcases h with h | ⟨a, o, rfl, h1, h2, m, h⟩
  · unfold smF at h
    simp only [List.mem_cons, List.not_mem_nil, or_false, Prod.mk.injEq] at h
    rcases h with ⟨rfl, rfl⟩ | ⟨rfl, rfl⟩ | ⟨rfl, rfl⟩ | ⟨rfl, rfl⟩ | ⟨rfl, rfl⟩ | ⟨rfl, rfl⟩
    · rfl
    · exact no _ (by decide +kernel) (by decide +kernel) (by decide +kernel)
    · exact no _ (by decide +kernel) (by decide +kernel) (by decide +kernel)
    · rfl
    · rfl
    · exact no _ (by decide +kernel) (by decide +kernel) (by decide +kernel)
  · rfl
theorem root_placeV (ts : List (Str × Str)) : placeV ts (.str "") = true := by
  show decide (("" : Str) = "" ∨ ("" : Str) ∈ ts.map Prod.fst) = true
  exact decide_eq_true (.inl rfl)
def unkD (da : PyData) : PyData := .tuple [.str "unknown", da]
theorem unk_sh : ∀ da ∈ odF, (unkD da).showable = true ∧ (unkD da).depth ≤ 60 ∧ (unkD da).shown.length ≤ 100 ∧ PyData.strOk (unkD da).shown = true := by
  intro da h
  unfold odF smF bgF at h
  simp only [List.map_cons, List.map_nil, List.cons_append, List.nil_append, List.mem_cons, List.not_mem_nil, or_false] at h
  rcases h with rfl | rfl | rfl | rfl | rfl | rfl | rfl | rfl | rfl | rfl <;> exact ⟨by decide +kernel, by decide +kernel, by decide +kernel, by decide +kernel⟩
theorem eqv_s5 : ∀ a b : List Str, PyData.eqvAll (a.map .str) (b.map .str) = decide (a = b)
  | [], [] => by simp [PyData.eqvAll]
  | [], _ :: _ => by simp [PyData.eqvAll]
  | _ :: _, [] => by simp [PyData.eqvAll]
  | x :: a, y :: b => by
    simp only [List.map_cons, PyData.eqvAll]
    rw [eqv_s5 a b]
    have e : PyData.eqv (.str x) (.str y) = decide (x = y) := by
      simp only [PyData.eqv]
      exact Bool.eq_iff_iff.mpr (by simp)
    rw [e, Bool.eq_iff_iff]
    simp
theorem eqv_L5 (a : List Str) : PyData.eqv (.list (a.map .str)) (.list (a.map .str)) = true := by
  simp only [PyData.eqv]
  rw [eqv_s5, decide_eq_true rfl]
theorem FAt.extU {CF x : Addr} {H H' : Hp} {ts : List (Str × Str)} (e : ExtN H H') (h : FAt CF H x ts) : FAt CF H' x ts := let ⟨dy, p, e1, e2⟩ := h; ⟨dy, p, e _ _ e1 (fun ps z => nomatch z), e _ _ e2 (fun ps z => nomatch z)⟩
/-- what stands while places are asked for -/
structure GU (T : List (Addr × Str)) (CF d c x : Addr) (ts : List (Str × Str)) (v : V) (da : PyData) (H0 H : Hp) : Prop where
  tb : Tabs T H
  ex : ExtN H0 H
  fa : FAt CF H x ts
  ov : OdF d c H v da
section
variable {T : List (Addr × Str)} {CF d c x : Addr} {ts : List (Str × Str)} {v : V} {da : PyData} {H0 H H' : Hp}
theorem GU.ext (h : GU T CF d c x ts v da H0 H) (e : ExtN H H') (tb : Tabs T H') : GU T CF d c x ts v da H0 H' := ⟨tb, h.ex.trans e, h.fa.extU e, h.ov.ext e⟩
theorem GU.same (h : GU T CF d c x ts v da H0 H) (s : Same H H') : GU T CF d c x ts v da H0 H' := h.ext (ExtN.of s) (h.tb.ext s)
theorem lam_unk {C : Nat → Addr} {CN : Addr} {σ : St} {tt : XK → TE} {Q : VK} (eN : C 2 = CN) (G : GU T CF d c x ts v da H0 H)
    (call : ∀ (E : XK) (Q' : VK) (H2 : Hp), GU T CF d c x ts v da H0 H2 → Out H2 E (.e1 CN "name" v) → tt E σ H2 Q')
    (k : ∀ p H', ExtN H H' → GU T CF d c x ts v da H0 H' → H' p = some (.tup [.str "unknown", v]) → Q (.ref p) H') : tLam T (TToldF C) tt σ H Q := by
  refine ⟨G.tb, fun H2 e2 t2 => ?_⟩
  have G2 := G.ext e2 t2
  refine call _ _ H2 G2 ?_
  intro dd H5 s5 nd5 hd5
  refine ⟨2, v, by decide, by rw [eN], ⟨dd, rfl, hd5⟩, fun p H6 s6 np6 hp6 => ?_⟩
  exact k p H6 (e2.trans (ExtN.of (s5.trans s6))) ((G2.same s5).same s6) hp6
end
/-- a list of told tuples -/
def LsU (v : V) (l : Addr) (n : Nat) (H : Hp) : Prop := ∃ rs : List Addr, H l = some (.lst (rs.map V.ref)) ∧ rs.length = n ∧ ∀ r ∈ rs, H r = some (.tup [.str "unknown", v])
theorem LsU.ext {v : V} {l : Addr} {n : Nat} {H H' : Hp} (e : ExtN H H') (h : LsU v l n H) : LsU v l n H' := let ⟨rs, a, b, c⟩ := h; ⟨rs, e _ _ a (fun ps z => nomatch z), b, fun r hr => e _ _ (c r hr) (fun ps z => nomatch z)⟩
theorem LsU.cat {v : V} {l p q : Addr} {n : Nat} {H : Hp} {Q : VK} (h : LsU v l n H) (hp : H p = some (.lst [V.ref q])) (hq : H q = some (.tup [.str "unknown", v])) (few : n ≤ 100) (k : ∀ r H', Same H H' → LsU v r (n + 1) H' → Q (.ref r) H') : rCat (.ref l) (.ref p) H Q := by
  obtain ⟨rs, a, b, c⟩ := h
  have big : 1000 ≤ sizeLine := by decide
  refine ⟨l, p, _, _, rfl, rfl, a, hp, by rw [List.length_map]; show _ + 1 ≤ sizeLine; omega, fun r nr => ?_⟩
  have s := same_new (o := .lst (rs.map V.ref ++ [V.ref q])) nr
  refine k r _ s ⟨rs ++ [q], by rw [upd_same, List.map_append] <;> rfl, by rw [List.length_append, b] <;> rfl, fun r' hr => ?_⟩
  rcases List.mem_append.mp hr with hr | hr
  · exact s _ _ (c r' hr)
  · rw [List.mem_singleton.mp hr]
    exact s _ _ hq
structure LU (P : Program) (w : World) (K : PySem.W.Frag) (mg : Str → Option Value) (base : Heap) (CF CN : Addr) (f : Nat → Addr) (fd : Nat → FuncData) : Prop where
  O : FoC K CF
  ch : Mt P w K mg base (L2.CX P w) 4 CF "children" ["self", "place"] (spNoPl K CF CN) (f 0) (fd 0)
  pt : Mt P w K mg base (L2.CX P w) 4 CF "path" ["self", "place"] (spNoPl K CF CN) (f 1) (fd 1)
  un : Mt P w K mg base (L2.CX P w) 4 CF "under" ["self", "place"] (spNoPl K CF CN) (f 2) (fd 2)
  ds : Mt P w K mg base (L2.CX P w) 4 CF "distance" ["self", "one", "other"] (spNoPl2 K CF CN) (f 3) (fd 3)
def spUnk (T : List (Addr × Str)) (CF d c : Addr) : Sp := fun vs H Q _ => ∃ (x : Addr) (ts : List (Str × Str)) (v : V) (da : PyData), vs = [.ref x, v] ∧ GU T CF d c x ts v da H H ∧ TreeOk ts ∧ (∀ a ∈ ts.map Prod.fst, a ∈ pool1 ∨ a ∈ pool2) ∧ ∀ H', Tabs T H' → ExtN H H' → Q (.bl true) H'
abbrev NUk : List Str := ["_law_forest", "_law_odd", "_law_calls", "_law_told_here"]
section
variable {P : Program} {w : World} {K : PySem.W.Frag} {mg : Str → Option Value} {base : Heap}
theorem scUk : FnScope NUk ["_law_forest", "_law_odd"] (defScope s__law_unknown_right) := ⟨rfl, rfl, rfl, by decide +kernel, rfl, by decide +kernel, by decide +kernel⟩
theorem ok_unk {f0 fEr CF CN R co ta d c : Addr} {C : Nat → Addr} {T : List (Addr × Str)} {f : Nat → Addr} {fd : Nat → FuncData} {fd0 fdEr : FuncData} (F : FunC K "_law_unknown_right" "_law_unknown_right" s__law_unknown_right f0 fd0 co) (N : Nm mg) (L : LU P w K mg base CF CN f fd)
    (GE : Ge K mg "_law_told" s__law_told fEr fdEr) (CC : Cl4F K mg R C) (eN : C 2 = CN) (TB : TabB base mg co ta) (hmT : (ta, lamQ "_law_unknown_right") ∈ T) (hut : ∀ p ∈ T, p.1 = ta → p.2 = lamQ "_law_unknown_right") :
    FnG P w K mg base CX0 7 f0 fd0 ["_law_forest", "_law_odd"] (spUnk T CF d c) := by
  refine F.okG scUk (fun vs H Q E h => ?_) (fun A outer s H vs Q E clr hr h => ?_)
  · obtain ⟨x, ts, v, da, rfl, _⟩ := h
    rfl
  · obtain ⟨x, ts, v, da, rfl, G, o, pool, k⟩ := h
    have nd := scUk.nd
    have big : 1000 ≤ sizeLine := by decide
    refine ⟨_, pss_cons (ps_set (i := 2) nd rfl (.inl rfl) (pe_lst (pa_cons (pe_lamS (T := T) (k := 4) (t := fun E => tMeth CF "children" (spNoPl K CF CN) [] E (tVar 0) (tCons (tVar 1) tNil)) rfl GE.mgn GE.fn GE.bn scTf rfl (.inl rfl) (fun cdg => toldF_gives N CC) TB rfl hmT hut hr (lamS_by (sc := defScope s__law_unknown_right) (by decide +kernel)) rfl (fun _ _ _ _ _ => rfl)
          (fun A outer s H E f c' hr2 => pe_meth (pv 0) L.O.cl L.ch.mt L.ch.fn hr2 L.ch.bn .nil (passes_call (takes_of rfl rfl rfl rfl) (fun _ _ _ _ h => h)) (pa_cons (pv 1) pa_nil))) pa_nil)))
      (pss_cons (ps_set (i := 2) nd rfl (.inl rfl) (pe_op op_cat (pv 2) (pe_lst (pa_cons (pe_lamS (T := T) (k := 4) (t := fun E => tMeth CF "path" (spNoPl K CF CN) [] E (tVar 0) (tCons (tVar 1) tNil)) rfl GE.mgn GE.fn GE.bn scTf rfl (.inl rfl) (fun cdg => toldF_gives N CC) TB rfl hmT hut hr (lamS_by (sc := defScope s__law_unknown_right) (by decide +kernel)) rfl (fun _ _ _ _ _ => rfl)
          (fun A outer s H E f c' hr2 => pe_meth (pv 0) L.O.cl L.pt.mt L.pt.fn hr2 L.pt.bn .nil (passes_call (takes_of rfl rfl rfl rfl) (fun _ _ _ _ h => h)) (pa_cons (pv 1) pa_nil))) pa_nil))))
      (pss_cons (ps_set (i := 2) nd rfl (.inl rfl) (pe_op op_cat (pv 2) (pe_lst (pa_cons (pe_lamS (T := T) (k := 4) (t := fun E => tMeth CF "under" (spNoPl K CF CN) [] E (tVar 0) (tCons (tVar 1) tNil)) rfl GE.mgn GE.fn GE.bn scTf rfl (.inl rfl) (fun cdg => toldF_gives N CC) TB rfl hmT hut hr (lamS_by (sc := defScope s__law_unknown_right) (by decide +kernel)) rfl (fun _ _ _ _ _ => rfl)
          (fun A outer s H E f c' hr2 => pe_meth (pv 0) L.O.cl L.un.mt L.un.fn hr2 L.un.bn .nil (passes_call (takes_of rfl rfl rfl rfl) (fun _ _ _ _ h => h)) (pa_cons (pv 1) pa_nil))) pa_nil))))
      (pss_cons (ps_set (i := 2) nd rfl (.inl rfl) (pe_op op_cat (pv 2) (pe_lst (pa_cons (pe_lamS (T := T) (k := 4) (t := fun E => tMeth CF "distance" (spNoPl2 K CF CN) [] E (tVar 0) (tCons (tVar 1) (tCons (tC (.str "nobody")) tNil))) rfl GE.mgn GE.fn GE.bn scTf rfl (.inl rfl) (fun cdg => toldF_gives N CC) TB rfl hmT hut hr (lamS_by (sc := defScope s__law_unknown_right) (by decide +kernel)) rfl (fun _ _ _ _ _ => rfl)
          (fun A outer s H E f c' hr2 => pe_meth (pv 0) L.O.cl L.ds.mt L.ds.fn hr2 L.ds.bn .nil (passes_call (takes_of rfl rfl rfl rfl) (fun _ _ _ _ h => h)) (pa_cons (pv 1) (pa_cons pe_str pa_nil)))) pa_nil))))
      (pss_cons (ps_set (i := 2) nd rfl (.inl rfl) (pe_op op_cat (pv 2) (pe_lst (pa_cons (pe_lamS (T := T) (k := 4) (t := fun E => tMeth CF "distance" (spNoPl2 K CF CN) [] E (tVar 0) (tCons (tC (.str "")) (tCons (tVar 1) tNil))) rfl GE.mgn GE.fn GE.bn scTf rfl (.inl rfl) (fun cdg => toldF_gives N CC) TB rfl hmT hut hr (lamS_by (sc := defScope s__law_unknown_right) (by decide +kernel)) rfl (fun _ _ _ _ _ => rfl)
          (fun A outer s H E f c' hr2 => pe_meth (pv 0) L.O.cl L.ds.mt L.ds.fn hr2 L.ds.bn .nil (passes_call (takes_of rfl rfl rfl rfl) (fun _ _ _ _ h => h)) (pa_cons pe_str (pa_cons (pv 1) pa_nil)))) pa_nil))))
      (pss_one (ps_ret (pe_cmpR (op_eqD hr.units) (pe_lc (own := [("_law_told_here", 3)]) (g := gName 3) (tt := tYes) (te := tCB (rReprR K) (tCons (tVar 3) tNil)) rfl nd (pi_list (pv 2)) (blkOk_by (N := NUk) (sc := defScope s__law_unknown_right) (by decide +kernel))
        (fun _ _ _ _ _ => pg_name (i := 3) nd rfl (Or.inl rfl)) (fun _ _ _ _ _ => pts_nil) (fun _ _ _ _ _ => pe_callB (call_reprR clr.deeper hr.units) (by rfl) N.rep (by decide +kernel) (pa_cons (pv 3) pa_nil)))
        (pe_op op_rep (pe_lst (pa_cons (pe_callB (call_reprR clr hr.units) (by rfl) N.rep (by decide +kernel) (pa_cons (pe_tup (pa_cons pe_str (pa_cons (pv 1) pa_nil))) pa_nil)) pa_nil)) pe_int) (nomark _)))))))), ?_⟩
    have np := G.ov.np pool
    have no : placeV ts (.str "nobody") = false := decide_eq_false fun h => h.elim (by decide +kernel) fun h => (pool _ h).elim (by decide +kernel) (by decide +kernel)
    refine lam_unk eN G (fun E' Q' H2 g2 ou => ?_) (fun p1 H1 e1 g1 hp1 => ⟨by show 1 ≤ sizeLine; omega, fun l1 nl1 => ?_⟩)
    · obtain ⟨dx, dq, hx, hd⟩ := id g2.fa
      exact ⟨_, rfl, x, dx, _, rfl, hx, rfl, _, rfl, x, ts, v, rfl, g2.fa, o, g2.ov.dat, np, ou⟩
    have L1 : LsU v l1 1 (upd H1 l1 (.lst [V.ref p1])) := ⟨[p1], upd_same, rfl, fun r hr => by rw [List.mem_singleton.mp hr]; exact (same_new nl1) _ _ hp1⟩
    have G1 := g1.same (same_new (o := .lst [V.ref p1]) nl1)
    obtain ⟨H1', eh1⟩ : ∃ X, X = upd H1 l1 (.lst [V.ref p1]) := ⟨_, rfl⟩
    rw [← eh1] at L1 G1 ⊢
    refine ⟨_, rfl, lam_unk eN G1 (fun E' Q' H2 g2 ou => ?_) (fun p2 H2 e2 g2 hp2 => ⟨by show 1 ≤ sizeLine; omega, fun l2 nl2 => (L1.ext (e2.trans (ExtN.of (same_new nl2)))).cat upd_same ((same_new nl2) _ _ hp2) (by decide) fun r2 H3 s3 L2 => ?_⟩)⟩
    · obtain ⟨dx, dq, hx, hd⟩ := id g2.fa
      exact ⟨_, rfl, x, dx, _, rfl, hx, rfl, _, rfl, x, ts, v, rfl, g2.fa, o, g2.ov.dat, np, ou⟩
    have G3 := (g2.same (same_new (o := .lst [V.ref p2]) nl2)).same s3
    refine ⟨_, rfl, lam_unk eN G3 (fun E' Q' H2 g2 ou => ?_) (fun p4 H4 e4 g4 hp4 => ⟨by show 1 ≤ sizeLine; omega, fun l4 nl4 => (L2.ext (e4.trans (ExtN.of (same_new nl4)))).cat upd_same ((same_new nl4) _ _ hp4) (by decide) fun r4 H5 s5 L4 => ?_⟩)⟩
    · obtain ⟨dx, dq, hx, hd⟩ := id g2.fa
      exact ⟨_, rfl, x, dx, _, rfl, hx, rfl, _, rfl, x, ts, v, rfl, g2.fa, o, g2.ov.dat, np, ou⟩
    have G5 := (g4.same (same_new (o := .lst [V.ref p4]) nl4)).same s5
    refine ⟨_, rfl, lam_unk eN G5 (fun E' Q' H2 g2 ou => ?_) (fun p6 H6 e6 g6 hp6 => ⟨by show 1 ≤ sizeLine; omega, fun l6 nl6 => (L4.ext (e6.trans (ExtN.of (same_new nl6)))).cat upd_same ((same_new nl6) _ _ hp6) (by decide) fun r6 H7 s7 L6 => ?_⟩)⟩
    · obtain ⟨dx, dq, hx, hd⟩ := id g2.fa
      exact ⟨_, rfl, x, dx, _, rfl, hx, rfl, _, rfl, x, ts, v, .str "nobody", rfl, g2.fa, o, g2.ov.dat, ⟨_, .str _⟩, .inl ⟨np, ou⟩⟩
    have G7 := (g6.same (same_new (o := .lst [V.ref p6]) nl6)).same s7
    refine ⟨_, rfl, lam_unk eN G7 (fun E' Q' H2 g2 ou => ?_) (fun p8 H8 e8 g8 hp8 => ⟨by show 1 ≤ sizeLine; omega, fun l8 nl8 => (L6.ext (e8.trans (ExtN.of (same_new nl8)))).cat upd_same ((same_new nl8) _ _ hp8) (by decide) fun r8 H9 s9 L8 => ?_⟩)⟩
    · obtain ⟨dx, dq, hx, hd⟩ := id g2.fa
      exact ⟨_, rfl, x, dx, _, rfl, hx, rfl, _, rfl, x, ts, .str "", v, rfl, g2.fa, o, ⟨_, .str _⟩, g2.ov.dat, .inr ⟨root_placeV ts, np, ou⟩⟩
    have G9 := (g8.same (same_new (o := .lst [V.ref p8]) nl8)).same s9
    obtain ⟨rs, hrs, lrs, rsu⟩ := L8
    obtain ⟨u1, u2, u3, u4⟩ := unk_sh da G9.ov.mem
    have shw : ∀ {H' : Hp} {r : Addr}, GU T CF d c x ts v da H H' → H' r = some (.tup [.str "unknown", v]) → DR K H' (.ref r) (unkD da) := fun g h => .tup (SqT.of h) (.cons (.dat (.str _) rfl) (.cons g.ov.dr .nil))
    obtain ⟨st, est⟩ : ∃ st, st = (unkD da).shown := ⟨_, rfl⟩
    rw [← est] at u3 u4
    refine ⟨_, rfl, r8, rfl, ⟨_, SqL.of hrs⟩, fun D nD => ?_⟩
    refine lc_it walk_list (fun i H' => Same H9 H' ∧ H' D = some (.lst ((List.replicate i st).map V.str))) ⟨same_new nD, upd_same⟩ (fun i H' _ z => SqL.of (z.1 _ _ hrs)) ?_ ?_
    · intro i y Ha Hb hi ⟨q1, q2⟩ ⟨eb, ex⟩
      subst eb
      obtain ⟨r, hr, rfl⟩ := map_of (f := V.ref) (l := rs) ex
      have il := (List.getElem?_eq_some_iff.mp hr).1
      have gb := G9.same q1
      refine ⟨rfl, ?_⟩
      refine ⟨_, rfl, .ref r, unkD da, rfl, shw gb (q1 _ _ (rsu r (List.mem_of_getElem? hr))), u1, u2, by rw [← est]; omega, ?_⟩
      rw [← est]
      refine ⟨_, q2, by rw [List.length_map, List.length_replicate]; omega, Same.put q1 nD, ?_⟩
      rw [upd_same, List.replicate_succ', List.map_append] <;> rfl
    intro H10 ⟨q1, q2⟩
    rw [show (rs.map V.ref).length = 5 by rw [List.length_map, lrs]] at q2
    have G10 := G9.same q1
    refine ⟨_, rfl, by show 2 ≤ sizeLine; omega, fun p11 n11 => ?_⟩
    have s11 := same_new (o := .tup [.str "unknown", v]) n11
    have G11 := G10.same s11
    refine ⟨.ref p11, unkD da, rfl, shw G11 upd_same, u1, u2, by rw [← est]; omega, by show 1 ≤ sizeLine; omega, fun l12 n12 => ?_⟩
    rw [← est]
    have s12 := same_new (o := .lst [V.str st]) n12
    refine ⟨l12, 5, [.str st], rfl, rfl, upd_same, by decide, by decide, by show 1 * 5 ≤ sizeLine; omega, fun l13 n13 => ?_⟩
    have e5 : (List.replicate ((5 : Int)).toNat [V.str st]).flatten = (List.replicate 5 st).map V.str := rfl
    rw [e5]
    have s13 := same_new (o := .lst ((List.replicate 5 st).map V.str)) n13
    have ok : ∀ z ∈ List.replicate 5 st, PyData.strOk z = true := fun z hz => by rw [(List.mem_replicate.mp hz).2]; exact u4
    refine ⟨.list ((List.replicate 5 st).map PyData.str), .list ((List.replicate 5 st).map PyData.str), .lst (SqL.of (s13 _ _ (s12 _ _ (s11 _ _ q2)))) (dps_strs _), .lst (SqL.of upd_same) (dps_strs _), strs_shaped ok, strs_shaped ok, ?_⟩
    rw [eqv_L5]
    have G13 := (G11.same s12).same s13
    exact k _ G13.tb G13.ex
end
end FT


/-! paired lists -/
namespace FT
open PySem L2 TL ClX LiI
theorem pair_impW {α β : Type} {F G : α → β → Prop} (m : ∀ x y, F x y → G x y) : ∀ {xs : List α} {ys : List β}, Paired F xs ys → Paired G xs ys
  | _, _, .nil => .nil
  | _, _, .cons h t => .cons (m _ _ h) (pair_impW m t)
theorem pair_appW {α β : Type} {F : α → β → Prop} : ∀ {xs xs' : List α} {ys ys' : List β}, Paired F xs ys → Paired F xs' ys' → Paired F (xs ++ xs') (ys ++ ys')
  | _, _, _, _, .nil, q => q
  | _, _, _, _, .cons h t, q => .cons h (pair_appW t q)
theorem keys_walkW {t : List (Str × Str)} {i : Nat} {k : Key} {v : V} (h : (prs t)[i]? = some (k, v)) : ∃ a p : Str, k = Sum.inr a ∧ v = .str p ∧ t[i]? = some (a, p) := by
  unfold prs kvT at h
  rw [List.map_map, List.getElem?_map] at h
  obtain ⟨⟨a, p⟩, hp, e⟩ := Option.map_eq_some_iff.mp h
  cases e
  exact ⟨a, p, rfl, rfl, hp⟩
end FT


/-! walked: the flags below a place, each ahead of those below it, with their depths -/
namespace FT
open PySem L2 TL ClX LiI
def walkN (ts : List (Str × Str)) : Nat → Str → Int → List (Str × Int)
  | 0, _, _ => []
  | m + 1, a, d => ts.flatMap fun z => if z.2 = a then (z.1, d) :: walkN ts m z.1 (d + 1) else []
def RowW (H : Hp) (r : Addr) (z : Str × Int) : Prop := H r = some (.tup [.str z.1, .int z.2])
theorem RowW.same {H H' : Hp} {rs : List Addr} {zs : List (Str × Int)} (s : Same H H') (h : Paired (RowW H) rs zs) : Paired (RowW H') rs zs := pair_impW (fun _ _ e => s _ _ e) h
def spWalked (m : Nat) : Sp := fun vs H Q _ => ∃ (q : Addr) (ts : List (Str × Str)) (od : Obj) (a : Str) (d : Int), vs = [.ref q, .str a, .int d] ∧ H q = some (.frz od (.dK (prs ts))) ∧ TreeOk ts ∧ Pl ts a ∧ (pathOf ts a).length + m = ts.length + 1 ∧ (walkN ts m a d).length ≤ 1000 ∧
  ∀ (p : Addr) (rs : List Addr) (H' : Hp), Same H H' → H p = none → H' p = some (.lst (rs.map V.ref)) → Paired (RowW H') rs (walkN ts m a d) → (∀ r ∈ rs, H r = none) → Q (.ref p) H'
section
variable {P : Program} {w : World} {K : PySem.W.Frag} {mg : Str → Option Value} {base : Heap}
abbrev NWd : List Str := ["above", "place", "depth", "found", "name"]
theorem scWd : FnScope NWd ["above", "place", "depth"] (defScope s_walked) := ⟨rfl, rfl, rfl, by decide +kernel, rfl, by decide +kernel, by decide +kernel⟩
theorem ok_walkedS {f : Addr} {fd : FuncData} (F : Fun K "walked" "walked" s_walked f fd) (m : Nat) (D : Dn P w K mg base CX0 (m + 1) "walked" ["above", "place", "depth"] (spWalked m) f fd) : FnOk P w K mg base CX0 (m + 2) f fd ["above", "place", "depth"] (spWalked (m + 1)) := by
  refine F.ok scWd (fun vs H Q E h => ?_) (fun cdv A outer s H vs Q E hr h => ?_)
  · obtain ⟨q, ts, od, a, d, rfl, _⟩ := h
    rfl
  · obtain ⟨q, ts, od, a, d, rfl, hq, o, pl, hm, few, k⟩ := h
    have hu := hu_of hr
    have nd := scWd.nd
    have big : 4000 ≤ sizeLine := by decide
    refine ⟨_, pss_cons (ps_set (i := 3) nd rfl (.inl rfl) (pe_lst pa_nil))
      (pss_cons (ps_for PassesOwn.never rfl (pi_keys (pv 0)) (pg_name (i := 4) nd rfl (.inl rfl))
        (pss_one (ps_if (pt_cmpR op_eq (pe_dget hu (pv 0) (pv 4) (fun _ _ => rfl)) (pv 1) (nomark _))
          (pss_cons (ps_expr (pe_bm PySem.F.plainAttrs_list PySem.F.slot_list_append PySem.F.type_list_append mt_append (pv 3) (pa_cons (pe_tup (pa_cons (pv 4) (pa_cons (pv 2) pa_nil))) pa_nil)))
          (pss_one (ps_expr (pe_bm PySem.F.plainAttrs_list PySem.F.slot_list_extend PySem.F.type_list_extend mt_extend (pv 3) (pa_cons (pe_call D.ok hr rfl D.mgn D.kp D.bn .nil pass0 (pa_cons (pv 0) (pa_cons (pv 4) (pa_cons (pe_op op_add (pv 2) pe_int) pa_nil)))) pa_nil))))) pss_nil)))
      (pss_one (ps_ret (pv 3)))), ?_⟩
    refine ⟨by show 0 ≤ sizeLine; omega, fun l nl => ?_⟩
    have tl := same_new (o := .lst ([] : List V)) nl
    obtain ⟨H1, e1⟩ : ∃ X, X = upd H l (.lst ([] : List V)) := ⟨_, rfl⟩
    rw [← e1] at tl ⊢
    have hl1 : H1 l = some (.lst (([] : List Addr).map V.ref)) := by rw [e1, upd_same] <;> rfl
    have hq1 := tl _ _ hq
    obtain ⟨G, eG⟩ : ∃ G : Str × Str → List (Str × Int), G = fun z => if z.2 = a then (z.1, d) :: walkN ts m z.1 (d + 1) else [] := ⟨_, rfl⟩
    have eW : walkN ts (m + 1) a d = ts.flatMap G := by rw [eG] <;> rfl
    rw [eW] at few k
    refine ⟨_, rfl, q, od, rfl, .inl ⟨_, hq1, ?_⟩⟩
    refine for_it walk_keys (fun i σ' H' => (∃ u4, σ' = [some (.ref q), some (.str a), some (.int d), some (.ref l), u4]) ∧ Same H H' ∧ ∃ rs : List Addr, H' l = some (.lst (rs.map V.ref)) ∧ Paired (RowW H') rs ((ts.take i).flatMap G) ∧ ∀ r ∈ rs, H r = none)
      ⟨⟨_, rfl⟩, tl, [], hl1, .nil, fun r hr => by cases hr⟩ (fun i σ' H' _ z => z.2.1 _ _ hq) ?_ ?_
    · intro i yv σ' Hz Ha hi ⟨⟨u4, eσ⟩, sa, rs, hl, pr, fr⟩ ⟨eb, kk, vv, hk, ey⟩
      subst eσ
      subst eb
      subst ey
      obtain ⟨n, pn, rfl, rfl, hb⟩ := keys_walkW hk
      rw [show kV (Sum.inr n) = V.str n from rfl]
      have mn : n ∈ ts.map Prod.fst := List.mem_map.mpr ⟨_, List.mem_of_getElem? hb, rfl⟩
      have hp := par_of o.nd (List.mem_of_getElem? hb)
      have st := path_step o mn hp
      have ln := path_len ts n
      have tm : (ts.take (i + 1)).flatMap G = (ts.take i).flatMap G ++ G (n, pn) := by
        rw [take_more hb, List.flatMap_append, List.flatMap_cons, List.flatMap_nil, List.append_nil]
      have tot : ((ts.take i).flatMap G).length + (G (n, pn)).length ≤ 1000 := by
        have e : (ts.flatMap G).length = ((ts.take (i + 1)).flatMap G).length + ((ts.drop (i + 1)).flatMap G).length := by
          rw [← List.length_append, ← List.flatMap_append, List.take_append_drop]
        rw [tm, List.length_append] at e
        omega
      have lr := pair_lenZ pr
      have hqa := sa _ _ hq
      refine ⟨_, rfl, _, rfl, q, _, rfl, dget_prs (.inr ⟨od, hqa⟩) hp, _, rfl, rfl, _, rfl, ?_⟩
      refine ite2 (fun yes => ?_) (fun no => ?_)
      · have e : pn = a := V.str.inj (of_decide_eq_true yes)
        subst e
        have eGp : G (n, pn) = (n, d) :: walkN ts m n (d + 1) := by rw [eG]; exact if_pos rfl
        rw [eGp, List.length_cons] at tot
        rw [st, List.length_append, List.length_singleton] at ln
        refine ⟨_, rfl, .inl ⟨rfl, _, SqL.of hl⟩, _, rfl, _, rfl, by show 2 ≤ sizeLine; omega, fun r nr => ?_⟩
        have tr := same_new (o := .tup [.str n, .int d]) nr
        have rl : r ≠ l := (ne_of_none hl nr).symm
        refine ⟨l, _, _, rfl, rfl, tr _ _ hl, by rw [List.length_map, lr]; omega, ?_⟩
        obtain ⟨Hb, eb2⟩ : ∃ X, X = upd (upd Ha r (.tup [.str n, .int d])) l (.lst (rs.map V.ref ++ [V.ref r])) := ⟨_, rfl⟩
        have sb : Same H Hb := by rw [eb2]; exact (sa.trans tr).put nl
        have hlb : Hb l = some (.lst ((rs ++ [r]).map V.ref)) := by rw [eb2, upd_same, List.map_append] <;> rfl
        have prb : Paired (RowW Hb) (rs ++ [r]) ((ts.take i).flatMap G ++ [(n, d)]) := by
          refine pair_appW (pair_impW (fun x z e => ?_) pr) (.cons ?_ .nil)
          · show Hb x = _
            have xl : x ≠ l := ne_of e hl (by intro z; cases z)
            rw [eb2, upd_ne xl]
            exact tr _ _ e
          · show Hb r = _
            rw [eb2, upd_ne rl, upd_same]
        rw [← eb2]
        refine ⟨_, rfl, .inl ⟨rfl, _, SqL.of hlb⟩, _, rfl, _, rfl, _, rfl, _, _, rfl, rfl, q, ts, od, n, d + 1, rfl, sb _ _ hq, o, .inr mn, by rw [st, List.length_append, List.length_singleton]; omega, by omega, fun p rs2 Hc sc np hp2 pr2 fr2 => ?_⟩
        have lr2 := pair_lenZ pr2
        have lp : p ≠ l := (ne_of_none hlb np).symm
        refine ⟨l, p, _, _, rfl, rfl, sc _ _ hlb, hp2, by rw [List.length_map, List.length_map, lr2, List.length_append, lr, List.length_singleton]; omega, ⟨_, rfl⟩, (sb.trans sc).put nl, rs ++ [r] ++ rs2, by rw [upd_same, ← List.map_append], ?_, fun y hy => ?_⟩
        rotate_left
        · rcases List.mem_append.mp hy with hy | hy
          · rcases List.mem_append.mp hy with hy | hy
            · exact fr y hy
            · rw [List.mem_singleton.mp hy]
              exact sa.free nr
          · exact sb.free (fr2 y hy)
        rw [tm, eGp, show (n, d) :: walkN ts m n (d + 1) = [(n, d)] ++ walkN ts m n (d + 1) from rfl, ← List.append_assoc]
        have keep : ∀ (x : Addr) (z : Str × Int), RowW Hc x z → RowW (upd Hc l (.lst ((rs ++ [r]).map V.ref ++ rs2.map V.ref))) x z := fun x z e => by
          show upd Hc l _ x = _
          rw [upd_ne (ne_of e (sc _ _ hlb) (by intro z; cases z))]
          exact e
        exact pair_appW (pair_impW (fun x z e => keep x z (sc _ _ e)) prb) (pair_impW keep pr2)
      · have e : ¬ pn = a := fun z => no (decide_eq_true (by rw [z]))
        have eGp : G (n, pn) = [] := by rw [eG]; exact if_neg e
        refine ⟨⟨_, rfl⟩, sa, rs, hl, ?_, fr⟩
        rw [tm, eGp, List.append_nil]
        exact pr
    · intro σ' H2 ⟨⟨u4, eσ⟩, s2, rs, hl, pr, fr⟩
      subst eσ
      rw [show (prs ts).length = ts.length by unfold prs; rw [kvT_len, List.length_map], List.take_length] at pr
      exact ⟨_, rfl, k l rs H2 s2 nl hl pr fr⟩
/-- at every depth -/
theorem ok_walked {f : Addr} {fd : FuncData} (F : Fun K "walked" "walked" s_walked f fd) (b : Binds K fd ["above", "place", "depth"] []) (g : mg "walked" = some (.ref f)) : ∀ m, FnOk P w K mg base CX0 (m + 1) f fd ["above", "place", "depth"] (spWalked m)
  | 0 => by
    refine F.ok scWd (fun vs H Q E h => ?_) (fun cdv A outer s H vs Q E hr h => ?_)
    · obtain ⟨q, ts, od, a, d, rfl, _⟩ := h
      rfl
    · obtain ⟨q, ts, od, a, d, rfl, hq, o, pl, hm, few, k⟩ := h
      have := path_len ts a
      omega
  | m + 1 => ok_walkedS F m ⟨ok_walked F b g m, F.kp, b, g⟩
end
end FT


/-! what runs while generators sleep leaves them as they are -/
namespace Slp
open PySem
open Sem (wp)
def deadK : Resume → Sem PySem.Fin := fun _ => .unsupported "asleep"
def dead : GenState → GenState
  | .suspended _ l c p fs cl => .suspended deadK l c p fs cl
  | x => x
def sw (T : Nat → Option GenState) (G : Array GenState) : Array GenState := G.mapIdx fun i x => (T i).getD x
def swS (T : Nat → Option GenState) (s : Shared) : Shared := { s with gens := sw T s.gens }
structure Iv (T : Nat → Option GenState) (G : Array GenState) : Prop where
  fro : ∀ i x, T i = some x → (∃ k l c p fs cl, x = .suspended k l c p fs cl) ∧ G[i]? = some (dead x)
  pla : ∀ i k l c p fs cl, T i = none → G[i]? = some (.suspended k l c p fs cl) → splitAtGen fs = none
theorem sw_size (T : Nat → Option GenState) (G : Array GenState) : (sw T G).size = G.size := by
  unfold sw
  rw [Array.size_mapIdx]
theorem sw_get (T : Nat → Option GenState) (G : Array GenState) (i : Nat) : (sw T G)[i]? = G[i]?.map fun x => (T i).getD x := by
  unfold sw
  rw [Array.getElem?_mapIdx]
section
variable {T : Nat → Option GenState} {G : Array GenState}
theorem sw_push {x : GenState} (h : T G.size = none) : sw T (G.push x) = (sw T G).push x := by
  refine Array.ext_getElem? fun i => ?_
  rw [sw_get, Array.getElem?_push, Array.getElem?_push, sw_size, sw_get]
  by_cases e : i = G.size
  · subst e
    rw [if_pos rfl, if_pos rfl, Option.map_some, h] <;> rfl
  · rw [if_neg e, if_neg e]
theorem sw_set {i : Nat} {x : GenState} (h : T i = none) : sw T (G.setIfInBounds i x) = (sw T G).setIfInBounds i x := by
  refine Array.ext_getElem? fun j => ?_
  rw [sw_get, Array.getElem?_setIfInBounds, Array.getElem?_setIfInBounds, sw_size, sw_get]
  by_cases e : i = j
  · subst e
    by_cases l : i < G.size
    · rw [if_pos rfl, if_pos rfl, if_pos l, Option.map_some, h] <;> rfl
    · rw [if_pos rfl, if_pos rfl, if_neg l] <;> rfl
  · rw [if_neg e, if_neg e]
theorem Iv.noT (v : Iv T G) : T G.size = none := by
  cases e : T G.size with
  | none => rfl
  | some x =>
    have := (v.fro _ x e).2
    rw [Array.getElem?_eq_none (Nat.le_refl _)] at this
    cases this
theorem Iv.free (v : Iv T G) {i : Nat} {y : GenState} (h : G[i]? = some y) (n : ∀ k l c p fs cl, y ≠ .suspended k l c p fs cl) : T i = none := by
  cases e : T i with
  | none => rfl
  | some x =>
    obtain ⟨⟨k, l, c, p, fs, cl, rfl⟩, q⟩ := v.fro _ x e
    rw [h] at q
    exact absurd (Option.some.inj q) (n _ _ _ _ _ _)
theorem Iv.push (v : Iv T G) {x : GenState} (n : ∀ k l c p fs cl, x = .suspended k l c p fs cl → splitAtGen fs = none) : Iv T (G.push x) := by
  refine ⟨fun i y e => ?_, fun i k l c p fs cl e h => ?_⟩
  · obtain ⟨a, b⟩ := v.fro i y e
    have li := (Array.getElem?_eq_some_iff.mp b).1
    refine ⟨a, ?_⟩
    rw [Array.getElem?_push, if_neg (by omega)]
    exact b
  · rw [Array.getElem?_push] at h
    by_cases q : i = G.size
    · rw [if_pos q] at h
      exact n k l c p fs cl (Option.some.inj h)
    · rw [if_neg q] at h
      exact v.pla i k l c p fs cl e h
theorem Iv.set (v : Iv T G) {j : Nat} {x : GenState} (hj : T j = none) (n : ∀ k l c p fs cl, x = .suspended k l c p fs cl → splitAtGen fs = none) : Iv T (G.setIfInBounds j x) := by
  refine ⟨fun i y e => ?_, fun i k l c p fs cl e h => ?_⟩
  · obtain ⟨a, b⟩ := v.fro i y e
    refine ⟨a, ?_⟩
    rw [Array.getElem?_setIfInBounds, if_neg fun w => by rw [w, e] at hj; cases hj]
    exact b
  · rw [Array.getElem?_setIfInBounds] at h
    by_cases q : j = i
    · rw [if_pos q] at h
      by_cases w : j < G.size
      · rw [if_pos w] at h
        exact n k l c p fs cl (Option.some.inj h)
      · rw [if_neg w] at h
        cases h
    · rw [if_neg q] at h
      exact v.pla i k l c p fs cl e h
theorem sw_at (v : Iv T G) {i : Nat} {y : GenState} (h : G[i]? = some y) : ∃ y', (sw T G)[i]? = some y' ∧ y'.seen = y.seen := by
  cases e : T i with
  | none => exact ⟨y, by rw [sw_get, h, e] <;> rfl, rfl⟩
  | some x =>
    obtain ⟨⟨k, l, c, p, fs, cl, rfl⟩, q⟩ := v.fro i x e
    rw [h] at q
    cases q
    exact ⟨.suspended k l c p fs cl, by rw [sw_get, h, e] <;> rfl, rfl⟩
theorem sw_free {i : Nat} {y : GenState} (h : G[i]? = some y) (e : T i = none) : (sw T G)[i]? = some y := by
  rw [sw_get, h, e] <;> rfl
end
theorem plain_cons {F : Frame} {fs : List Frame} (h : splitAtGen (F :: fs) = none) : splitAtGen fs = none ∧ ∀ g k l c p, F ≠ .gen g k l c p := by
  cases F with
  | ret k hd gd l c p kp =>
    refine ⟨?_, fun _ _ _ _ _ e => by cases e⟩
    have h : (splitAtGen fs).map _ = none := h
    exact Option.map_eq_none_iff.mp h
  | gen g k l c p => cases h
theorem plain_app : ∀ {a b : List Frame}, splitAtGen a = none → splitAtGen b = none → splitAtGen (a ++ b) = none
  | [], _, _, h => h
  | F :: a, b, ha, hb => by
    obtain ⟨h1, h2⟩ := plain_cons ha
    cases F with
    | ret k hd gd l c p kp =>
      show (splitAtGen (a ++ b)).map _ = none
      rw [plain_app h1 hb] <;> rfl
    | gen g k l c p => exact absurd rfl (h2 g k l c p)
theorem runs_dead {M : Model} {Γ : Ctx} {p : Pos} {t : Sem PySem.Fin} {fs : List Frame} {s s' : Shared} {e : End} (h : Runs M Γ p t fs s e s') : ∀ w, t ≠ .unsupported w := by
  induction h <;> intro w q <;> first | (cases q; done) | (rename_i ih _; exact ih w q) | (rename_i ih; exact ih w q) | skip
  all_goals first | (cases q) | (simp_all)
def plainEnd : End → Prop
  | .susp _ _ _ _ _ _ fs => splitAtGen fs = none
  | .ret _ => True
theorem end_gen {e : End} (h : plainEnd e) : ∀ k l c p fs cl, e.genState = .suspended k l c p fs cl → splitAtGen fs = none := by
  intro k l c p fs cl q
  cases e with
  | ret r => cases q
  | susp v g l0 k0 c0 p0 fs0 =>
    cases q
    exact h
theorem swS_set {T : Nat → Option GenState} {s : Shared} {g : Nat} {x : GenState} (h : T g = none) : swS T (s.setGen g x) = (swS T s).setGen g x := by
  unfold swS Shared.setGen
  rw [sw_set h]
theorem no_susp {x : GenState} (h : ∀ k l c p fs cl, x ≠ .suspended k l c p fs cl) : ∀ k l c p fs cl, x = .suspended k l c p fs cl → splitAtGen fs = none := fun k l c p fs cl e => absurd e (h k l c p fs cl)
theorem swS_new {T : Nat → Option GenState} {s : Shared} {c : Code} (v : Iv T s.gens) : swS T { s with gens := s.gens.push (.fresh c) } = { swS T s with gens := (swS T s).gens.push (.fresh c) } := by
  unfold swS
  rw [sw_push v.noT]
theorem swS_size {T : Nat → Option GenState} {s : Shared} : (swS T s).gens.size = s.gens.size := sw_size T s.gens
theorem runs_swap {M : Model} {T : Nat → Option GenState} {Γ : Ctx} {p : Pos} {t : Sem PySem.Fin} {fs : List Frame} {s s' : Shared} {e : End} (h : Runs M Γ p t fs s e s') : splitAtGen fs = none → Iv T s.gens → Iv T s'.gens ∧ plainEnd e ∧ Runs M Γ p t fs (swS T s) e (swS T s') := by
  induction h with
  | done => exact fun _ v => ⟨v, trivial, .done⟩
  | raise => exact fun _ v => ⟨v, trivial, .raise⟩
  | again q _ ih => exact fun hf v => let ⟨a, b, c⟩ := ih hf v; ⟨a, b, .again q c⟩
  | rule _ ih => exact fun hf v => let ⟨a, b, c⟩ := ih hf v; ⟨a, b, .rule c⟩
  | «at» _ ih => exact fun hf v => let ⟨a, b, c⟩ := ih hf v; ⟨a, b, .at c⟩
  | load q _ ih => exact fun hf v => let ⟨a, b, c⟩ := ih hf v; ⟨a, b, .load q c⟩
  | update q _ ih => exact fun hf v => let ⟨a, b, c⟩ := ih hf v; ⟨a, b, .update q c⟩
  | loadIfAlive _ ih => exact fun hf v => let ⟨a, b, c⟩ := ih hf v; ⟨a, b, .loadIfAlive c⟩
  | point _ ih => exact fun hf v => let ⟨a, b, c⟩ := ih hf v; ⟨a, b, .point c⟩
  | alloc _ ih => exact fun hf v => let ⟨a, b, c⟩ := ih hf v; ⟨a, b, .alloc c⟩
  | fresh _ ih => exact fun hf v => let ⟨a, b, c⟩ := ih hf v; ⟨a, b, .fresh c⟩
  | ask _ ih => exact fun hf v => let ⟨a, b, c⟩ := ih hf v; ⟨a, b, .ask c⟩
  | choose q _ ih => exact fun hf v => let ⟨a, b, c⟩ := ih hf v; ⟨a, b, .choose q c⟩
  | os _ ih => exact fun hf v => let ⟨a, b, c⟩ := ih hf v; ⟨a, b, .os c⟩
  | handled _ ih => exact fun hf v => let ⟨a, b, c⟩ := ih hf v; ⟨a, b, .handled c⟩
  | genState q _ ih =>
    intro hf v
    obtain ⟨a, b, c⟩ := ih hf v
    obtain ⟨y, hy, sy⟩ := sw_at v q
    exact ⟨a, b, .genState hy (by rw [sy]; exact c)⟩
  | stack _ ih => exact fun hf v => let ⟨a, b, c⟩ := ih hf v; ⟨a, b, .stack c⟩
  | thread _ ih => exact fun hf v => let ⟨a, b, c⟩ := ih hf v; ⟨a, b, .thread c⟩
  | newGen _ ih =>
    intro hf v
    obtain ⟨a, b, d⟩ := ih hf (v.push (x := .fresh _) (no_susp fun _ _ _ _ _ _ q => by cases q))
    refine ⟨a, b, .newGen ?_⟩
    rw [swS_new v] at d
    rw [swS_size]
    exact d
  | call _ _ ih1 ih2 =>
    intro hf v
    obtain ⟨a1, _, c1⟩ := ih1 rfl v
    obtain ⟨a2, b2, c2⟩ := ih2 hf a1
    exact ⟨a2, b2, .call c1 c2⟩
  | callSusp _ ih =>
    intro hf v
    obtain ⟨a, b, c⟩ := ih rfl v
    exact ⟨a, plain_app b rfl, .callSusp c⟩
  | yield => exact fun hf v => ⟨v, rfl, .yield⟩
  | resumeFresh q _ qt _ ih1 ih2 =>
    intro hf v
    have n := v.free q fun _ _ _ _ _ _ w => by cases w
    obtain ⟨a1, b1, c1⟩ := ih1 rfl (v.set n (no_susp fun _ _ _ _ _ _ w => by cases w))
    obtain ⟨a2, b2, c2⟩ := ih2 hf (a1.set n (end_gen b1))
    rw [swS_set n] at c1 c2
    exact ⟨a2, b2, .resumeFresh (sw_free q n) c1 qt c2⟩
  | @resumeSuspended Γ p g r l k s k0 l0 c0 p0 fs0 cl e1 s1 e s' q r1 qt r2 ih1 ih2 =>
    intro hf v
    cases et : T g with
    | some x =>
      obtain ⟨⟨k1, l1, c1, p1, fs1, cl1, rfl⟩, w⟩ := v.fro g x et
      rw [q] at w
      cases w
      exact absurd rfl (runs_dead r1 "asleep")
    | none =>
      obtain ⟨a1, b1, c1⟩ := ih1 (v.pla g _ _ _ _ _ _ et q) (v.set et (no_susp fun _ _ _ _ _ _ w => by cases w))
      obtain ⟨a2, b2, c2⟩ := ih2 hf (a1.set et (end_gen b1))
      rw [swS_set et] at c1 c2
      exact ⟨a2, b2, .resumeSuspended (sw_free q et) c1 qt c2⟩
  | resumeJustStarted q nv _ ih =>
    intro hf v
    obtain ⟨a, b, c⟩ := ih hf v
    exact ⟨a, b, .resumeJustStarted (sw_free q (v.free q fun _ _ _ _ _ _ w => by cases w)) nv c⟩
  | resumeThrowFresh q _ ih =>
    intro hf v
    have n := v.free q fun _ _ _ _ _ _ w => by cases w
    obtain ⟨a, b, c⟩ := ih hf (v.set n (no_susp fun _ _ _ _ _ _ w => by cases w))
    rw [swS_set n] at c
    exact ⟨a, b, .resumeThrowFresh (sw_free q n) c⟩
  | resumeRunning q _ ih =>
    intro hf v
    obtain ⟨a, b, c⟩ := ih hf v
    exact ⟨a, b, .resumeRunning (sw_free q (v.free q fun _ _ _ _ _ _ w => by cases w)) c⟩
  | resumeFinished q _ ih =>
    intro hf v
    obtain ⟨a, b, c⟩ := ih hf v
    exact ⟨a, b, .resumeFinished (sw_free q (v.free q fun _ _ _ _ _ _ w => by cases w)) c⟩
  | segRet _ _ ih1 ih2 =>
    intro hf v
    obtain ⟨a1, _, c1⟩ := ih1 rfl v
    obtain ⟨a2, b2, c2⟩ := ih2 (plain_cons hf).1 a1
    exact ⟨a2, b2, .segRet c1 c2⟩
  | segGen => exact fun hf => by cases hf
  | segSuspOut q _ ih =>
    intro hf v
    obtain ⟨a, b, c⟩ := ih rfl v
    exact ⟨a, plain_app b q, .segSuspOut q c⟩
  | segSuspGen q => exact fun hf => by rw [q] at hf; cases hf
theorem wakes_swap {M : Model} {T : Nat → Option GenState} {Γ : Ctx} {p : Pos} {g : Nat} {r : Resume} {s s' : Shared} {res : GenResult} (h : Wakes M Γ p g r s res s') (v : Iv T s.gens) : Iv T s'.gens ∧ Wakes M Γ p g r (swS T s) res (swS T s') := by
  unfold Wakes at h
  cases q : s.gens[g]? with
  | none =>
    rw [q] at h
    exact h.elim
  | some x =>
    rw [q] at h
    cases x with
    | fresh c =>
      have n := v.free q fun _ _ _ _ _ _ w => by cases w
      have qs : (swS T s).gens[g]? = some (.fresh c) := sw_free q n
      cases r with
      | send u =>
        cases u with
        | none =>
          obtain ⟨e1, s1, hr, qt, rfl, rfl⟩ := h
          obtain ⟨a, b, d⟩ := runs_swap hr rfl (v.set n (no_susp fun _ _ _ _ _ _ w => by cases w))
          rw [swS_set n] at d
          refine ⟨a.set n (end_gen b), ?_⟩
          unfold Wakes
          rw [qs]
          exact ⟨e1, _, d, qt, rfl, swS_set n⟩
        | _ =>
          obtain ⟨rfl, rfl⟩ := h
          refine ⟨v, ?_⟩
          unfold Wakes
          rw [qs]
          exact ⟨rfl, rfl⟩
      | throw x =>
        obtain ⟨rfl, rfl⟩ := h
        refine ⟨v.set n (no_susp fun _ _ _ _ _ _ w => by cases w), ?_⟩
        unfold Wakes
        rw [qs]
        exact ⟨rfl, swS_set n⟩
    | suspended k0 l0 c0 p0 fs0 cl =>
      obtain ⟨e1, s1, hr, qt, rfl, rfl⟩ := h
      cases et : T g with
      | some x =>
        obtain ⟨⟨k1, l1, c1, p1, fs1, cl1, rfl⟩, w⟩ := v.fro g x et
        rw [q] at w
        cases w
        exact absurd rfl (runs_dead hr "asleep")
      | none =>
        obtain ⟨a, b, d⟩ := runs_swap hr (v.pla g _ _ _ _ _ _ et q) (v.set et (no_susp fun _ _ _ _ _ _ w => by cases w))
        rw [swS_set et] at d
        refine ⟨a.set et (end_gen b), ?_⟩
        unfold Wakes
        rw [show (swS T s).gens[g]? = some (.suspended k0 l0 c0 p0 fs0 cl) from sw_free q et]
        exact ⟨e1, _, d, qt, rfl, swS_set et⟩
    | running =>
      obtain ⟨rfl, rfl⟩ := h
      refine ⟨v, ?_⟩
      unfold Wakes
      rw [show (swS T _).gens[g]? = some .running from sw_free q (v.free q fun _ _ _ _ _ _ w => by cases w)]
      exact ⟨rfl, rfl⟩
    | finished =>
      obtain ⟨rfl, rfl⟩ := h
      refine ⟨v, ?_⟩
      unfold Wakes
      rw [show (swS T _).gens[g]? = some .finished from sw_free q (v.free q fun _ _ _ _ _ _ w => by cases w)]
      exact ⟨rfl, rfl⟩
theorem wp_swap {α : Type} (M : Model) (T : Nat → Option GenState) (Γ : Ctx) (t : Sem α) : ∀ (Q : α → Pos → Shared → Prop) (E : Value → Pos → Shared → Prop) (p : Pos) (s : Shared), Iv T s.gens → wp M Γ t Q E p s →
    wp M Γ t (fun a p' s' => ∃ sh, Iv T sh.gens ∧ s' = swS T sh ∧ Q a p' sh) (fun e p' s' => ∃ sh, Iv T sh.gens ∧ s' = swS T sh ∧ E e p' sh) p (swS T s) := by
  induction t with
  | pure a => intro Q E p s v h; exact ⟨s, v, rfl, h⟩
  | raise e => intro Q E p s v h; exact ⟨s, v, rfl, h⟩
  | unsupported _ => intro Q E p s _ h; exact h
  | finish _ => intro Q E p s _ h; exact h
  | rule _ k ih => intro Q E p s v h; exact ih () Q E p s v h
  | «at» p' k ih => intro Q E p s v h; exact ih () Q E p' s v h
  | load a _ k ih => intro Q E p s v h; obtain ⟨o, ho, h⟩ := h; exact ⟨o, ho, ih o Q E p s v h⟩
  | update a _ f k ih => intro Q E p s v h; exact ⟨h.1, ih () Q E p { s with heap := s.heap.update a f } v h.2⟩
  | loadIfAlive a k ih => intro Q E p s v h; exact ih _ Q E p s v h
  | point _ k ih => intro Q E p s v h; exact ih () Q E p s v h
  | register _ _ => intro Q E p s _ h; exact h
  | alloc o k ih => intro Q E p s v h; exact ih _ Q E p { s with heap := s.heap.push o } v h
  | fresh k ih => intro Q E p s v h; exact ih _ Q E p { s with toks := s.toks + 1 } v h
  | ask k ih => intro Q E p s v h; exact ih _ Q E p s v h
  | choose src m k ih => intro Q E p s v h; exact ⟨h.1, ih _ Q E p { s with drawn := s.drawn.bump src } v h.2⟩
  | os q _ k ih => intro Q E p s v h; exact ih _ Q E p { s with os := (Os.step s.os q).1 } v h
  | call c hd _ _ k ih =>
    intro Q E p s v h
    obtain ⟨r, s', hr, h⟩ := h
    obtain ⟨a, _, d⟩ := runs_swap hr rfl v
    exact ⟨r, _, d, ih r Q E p s' a h⟩
  | handled own k ih => intro Q E p s v h; exact ih _ Q E p s v h
  | genState g k ih =>
    intro Q E p s v h
    obtain ⟨st, hs, h⟩ := h
    obtain ⟨y, hy, sy⟩ := sw_at v hs
    refine ⟨y, hy, ?_⟩
    rw [sy]
    exact ih _ Q E p s v h
  | newGen c k ih =>
    intro Q E p s v h
    have z := ih _ Q E p { s with gens := s.gens.push (.fresh c) } (v.push (x := .fresh c) (no_susp fun _ _ _ _ _ _ q => by cases q)) h
    rw [swS_new v] at z
    show wp M Γ (k (swS T s).gens.size) _ _ p _
    rw [swS_size]
    exact z
  | resume g r _ k ih =>
    intro Q E p s v h
    obtain ⟨res, s', hw, h⟩ := h
    obtain ⟨a, d⟩ := wakes_swap hw v
    exact ⟨res, _, d, ih res Q E p s' a h⟩
  | yield _ _ _ _ => intro Q E p s _ h; exact h
  | stack k ih => intro Q E p s v h; exact ih _ Q E p s v h
  | fork _ _ => intro Q E p s _ h; exact h
  | thread k ih => intro Q E p s v h; exact ih _ Q E p s v h
  | await _ _ _ _ _ => intro Q E p s _ h; exact h
/-- all generators that sleep, put out of reach -/
def hid (s : Shared) : Shared := { s with gens := s.gens.map dead }
def tab (G : Array GenState) (i : Nat) : Option GenState := match G[i]? with
  | some (.suspended k l c p fs cl) => some (.suspended k l c p fs cl)
  | _ => none
theorem tab_iv (G : Array GenState) : Iv (tab G) (G.map dead) := by
  refine ⟨fun i x e => ?_, fun i k l c p fs cl e h => ?_⟩
  · unfold tab at e
    cases q : G[i]? with
    | none => rw [q] at e; cases e
    | some y =>
      rw [q] at e
      cases y with
      | suspended k l c p fs cl =>
        cases e
        exact ⟨⟨_, _, _, _, _, _, rfl⟩, by rw [Array.getElem?_map, q] <;> rfl⟩
      | _ => cases e
  · unfold tab at e
    rw [Array.getElem?_map] at h
    cases q : G[i]? with
    | none => rw [q] at h; cases h
    | some y =>
      rw [q] at e h
      cases y with
      | suspended k l c p fs cl => cases e
      | _ => cases h
theorem tab_sw (G : Array GenState) : sw (tab G) (G.map dead) = G := by
  refine Array.ext_getElem? fun i => ?_
  rw [sw_get, Array.getElem?_map]
  unfold tab
  cases q : G[i]? with
  | none => rfl
  | some y => cases y <;> rfl
theorem hid_sw (s : Shared) : swS (tab s.gens) (hid s) = s := by
  unfold swS hid
  rw [tab_sw]
/-- what is shown while all that sleep is out of reach holds, and they sleep on -/
theorem asleep {α : Type} {M : Model} {A : Around} {s : Shared} {t : Sem α} {Q : α → Shared → Prop} {E : Value → Shared → Prop} (h : wpAny M A t Q E (hid s)) :
    wpAny M A t (fun a s' => ∃ sh, Iv (tab s.gens) sh.gens ∧ s' = swS (tab s.gens) sh ∧ Q a sh) (fun e s' => ∃ sh, Iv (tab s.gens) sh.gens ∧ s' = swS (tab s.gens) sh ∧ E e sh) s := by
  intro Γ p hΓ
  have z := wp_swap M (tab s.gens) Γ t _ _ p (hid s) (tab_iv s.gens) (h Γ p hΓ)
  rw [hid_sw] at z
  exact z
end Slp


/-! one segment of a generator's run, up to where it hands out a value or ends -/
namespace Sg
open PySem PyProof.Rows GenW L2
open Sem (wp)
def SegG (M : Model) (A : Around) (Φ : End → Shared → Prop) (c : Code) (t : Sem PySem.Fin) (fs : List Frame) (s : Shared) : Prop :=
  ∀ (Γ : PySem.Ctx) (p : Pos), Γ.code = c → Γ.Woken A → ∃ e s', Runs M Γ p t fs s e s' ∧ Φ e s'
section
variable {M : Model} {A : Around} {Φ : End → Shared → Prop} {c : Code} {fs : List Frame} {s : Shared}
end
def GoesG (M : Model) (A : Around) (Φ : End → Shared → Prop) (gs : GenState) (r : Resume) (s : Shared) : Prop :=
  match gs with
  | .fresh c => r = .send .none ∧ SegG M A Φ c (M.den c) [] s
  | .suspended k _ c _ fs _ => SegG M A Φ c (k r) fs s
  | _ => False
section
variable {M : Model}
end
/-- how a segment may end: for good, by an exception, or with a value handed out -/
def PhiOf (F : Shared → Prop) (Er : Value → Shared → Prop) (Yd : Value → GenState → Shared → Prop) (e : End) (s : Shared) : Prop :=
  e.quiet = true ∧ match e with
  | .ret r => ((r = .ok (.ret .none) ∨ r = .ok .next) ∧ F s) ∨ ∃ x, r = .error x ∧ Er x s
  | .susp v g l k c p fs => Yd v (End.susp v g l k c p fs).genState s
section
variable {P : Program} {w : World} {A : Around} {E : Value → Shared → Prop} {s : Shared}
end
end Sg


/-! a generator's body between two wakings: its context is anchored anew at each -/
namespace Sg
open PySem PyProof.Rows GenW L2
/-- what a generator promises: at its i-th waking on a heap it hands out a value, or it ends, or it raises -/
structure It2 where
  wk : Nat → Hp → Hp → Prop
  yld : Nat → Hp → V → Hp → Prop
  fin : Nat → Hp → Hp → Prop
  ex : Nat → Hp → XK
structure Gz where
  P : Program
  w : World
  K : PySem.W.Frag
  mg : Str → Option Value
  base : Heap
  N : List Str
  qual : Str
  scope : Scope
  n : Nat
  f : Addr
  cd : Value
  A : Around
  outer : List Env
  os : OsState
  ag : Addr
  g : Nat
  go : Obj
  pa : List Addr
  J : It2
structure An where
  i : Nat
  s : Shared
  H : Hp
  pn : List (Addr × Obj)
/-- what it raises: what is pinned is not tracked -/
def Gz.Ex (Z : Gz) (a : An) : XK := fun cls d H' => Z.J.ex a.i a.H cls d H' ∧ ∀ p ∈ (Z.ag, Z.go) :: a.pn, H' p.1 = none
abbrev Gz.env (Z : Gz) : Env := envOfC Z.qual Z.scope Z.n Z.f Z.cd
def Gz.cx (Z : Gz) (a : An) : Cx where
  prog := Z.P
  w := Z.w
  K := Z.K
  mg := Z.mg
  base := Z.base
  A := Z.A.deeper Z.env
  N := Z.N
  s_0 := a.s
  H_0 := a.H
  env := Z.env
  outer := Z.outer
  stack := Z.env :: Z.outer
  ex := []
  calm := true
  fn := fun _ => true
  pn := (Z.ag, Z.go) :: a.pn
  xe := fun e s' => wpAny (model Z.P Z.w) (Z.A.deeper Z.env) (leaving Z.env e)
      (fun _ s'' => CX Z.P Z.w Z.outer a.H a.s (Z.Ex a) e s'' ∧ ∀ p ∈ (Z.ag, Z.go) :: a.pn, s''.heap.get? p.1 = some p.2) (fun _ _ => False) s'
structure Gz.Ok (Z : Gz) : Prop where
  frames : Z.A.frames = some Z.outer
  hd : Z.A.handled = none
  mod : Mod Z.K Z.mg Z.base
  bsz : Z.base.objs.size ≤ Z.n
  frl : ∀ b ∈ frs Z.outer, b < Z.n
  kind : Z.scope.kind = .function
  cells : Z.env.cells = []
  loc : ∀ x k, Z.scope.names.lookup x = some k → k ≠ .cell ∧ k ≠ .free
  agn : Z.n < Z.ag
  npa : Z.n ∉ Z.pa
  apa : Z.ag ∉ Z.pa
  gen : Z.go.cls = .type "generator" ∧ (∃ nm qn, Z.go.data = .fields #[.int Z.g 0, nm, qn]) ∧ Z.go.slots = #[]
/-- the heap's first n objects -/
def cutH (n : Nat) (h : Heap) : Heap := { h with objs := h.objs.extract 0 n }
def cutS (n : Nat) (s : Shared) : Shared := { s with heap := cutH n s.heap }
/-- how a segment leaves things, against its anchor -/
structure Ret (Z : Gz) (a : An) (H : Hp) (s : Shared) : Prop where
  os : s.os = Z.os
  bare : AllBare s.gens
  un : Un (frs Z.outer) [] a.H H a.s.heap s.heap
  hok : HOk Z.P Z.w H s.heap
  pin : ∀ p ∈ (Z.ag, Z.go) :: a.pn, s.heap.get? p.1 = some p.2 ∧ H p.1 = none
  base : ∀ b o, Z.base.get? b = some o → s.heap.get? b = some o ∧ H b = none
structure AnOk (Z : Gz) (a : An) : Prop where
  sz : a.s.heap.objs.size = Z.n
  os : a.s.os = Z.os
  pa : a.pn.map (·.1) = Z.pa
/-- what the consumer gives when it wakes the generator; ks: what must be as it was -/
structure Woke (Z : Gz) (ks : List (Addr × Obj)) (H : Hp) (pc : List (Addr × Obj)) (s : Shared) : Prop where
  os : s.os = Z.os
  bare : AllBare s.gens
  bs : ∀ b o, Z.base.get? b = some o → s.heap.get? b = some o ∧ H b = none
  funs : s.heap.FunFrames Z.base Z.outer
  frf : ∀ b ∈ frs Z.outer, H b = none
  hok : HOk Z.P Z.w H s.heap
  ks : ∀ p ∈ ks, s.heap.get? p.1 = some p.2 ∧ H p.1 = none
  pa : pc.map (·.1) = Z.pa
  pc : ∀ p ∈ pc, s.heap.get? p.1 = some p.2 ∧ H p.1 = none ∧ p.1 ∉ frs Z.outer ∧ ∀ v, p.2.data ≠ .cell v
/-- what sleeps -/
structure KsOk (Z : Gz) (ks : List (Addr × Obj)) (H : Hp) (s : Shared) : Prop where
  at_ : ∀ p ∈ ks, s.heap.get? p.1 = some p.2 ∧ H p.1 = none ∧ Z.n ≤ p.1 ∧ p.1 ∉ Z.pa ∧ ∀ v, p.2.data ≠ .cell v
  ag : (Z.ag, Z.go) ∈ ks
def PhiW (Z : Gz) (Sl : Nat → GenState → List (Addr × Obj) → Hp → Prop) (a : An) : End → Shared → Prop :=
  PhiOf (fun s => ∃ H, Ret Z a H s ∧ Z.J.fin a.i a.H H)
    (fun e s => CX Z.P Z.w Z.outer a.H a.s (Z.Ex a) e s ∧ ∀ p ∈ (Z.ag, Z.go) :: a.pn, s.heap.get? p.1 = some p.2)
    (fun v gs s => (∃ k l c p fs cl, gs = .suspended k l c p fs cl) ∧ ∃ x H ks, RelV x v ∧ Ret Z a H s ∧ Z.J.yld a.i a.H x H ∧ KsOk Z ks H s ∧ Sl (a.i + 1) gs ks H)
def Gz.Slp (Z : Gz) : Nat → Nat → GenState → List (Addr × Obj) → Hp → Prop
  | 0 => fun _ _ _ _ => True
  | n + 1 => fun i gs ks Hs => ∀ (s : Shared) (H : Hp) (pc : List (Addr × Obj)), Woke Z ks H pc s → Z.J.wk i Hs H → GoesG (model Z.P Z.w) Z.A (PhiW Z (Z.Slp n) ⟨i, cutS Z.n s, H, pc⟩) gs (.send .none) s
def Gz.Phi (Z : Gz) (n : Nat) (a : An) : End → Shared → Prop := PhiW Z (Z.Slp n) a
/-- what is wanted behind a statement of a generator -/
structure GE where
  nx : An → L2.St → Hp → Prop
  rt : An → V → Hp → Prop
  bk : An → L2.St → Hp → Prop := fun _ _ _ => False
  ct : An → L2.St → Hp → Prop := fun _ _ _ => False
abbrev TG2 := GE → An → L2.St → Hp → Prop
def GE.at (D : GE) (a : An) : Ends := { nx := D.nx a, rt := D.rt a, bk := D.bk a, ct := D.ct a }
structure GC2 (Z : Gz) (ip : List (Addr × Obj)) (c : Code) (fs : List Frame) (gd : Bool → Bool) : Prop where
  ok : Z.Ok
  ip : ∀ p ∈ ip, p.1 ∉ Z.pa ∧ Z.n < p.1
  over : Z.A.over c fs = Z.A.deeper Z.env
  split : splitAtGen fs = none
  guard : fs.any Frame.guarded = false
  gd : gd false = false
structure GK2 (Z : Gz) (ip : List (Addr × Obj)) (c : Code) (fs : List Frame) (Kc : Flow → Sem PySem.Fin) (Jc : Value → Sem PySem.Fin) (D : GE) : Prop where
  ok : ∀ (n : Nat) (a : An) (s : Shared) (f : Flow), AnOk Z a → SP (Z.cx a) ip (D.at a) f s → SegG (model Z.P Z.w) Z.A (Z.Phi n a) c (Kc f) fs s
  exc : ∀ (n : Nat) (a : An) (e : Value) (s : Shared), AnOk Z a → (Z.cx a).xe e s → SegG (model Z.P Z.w) Z.A (Z.Phi n a) c (Jc e) fs s
structure GS2 (Z : Gz) (st : Stmt) (t : TG2) : Prop where
  run : ∀ (n : Nat) (ip : List (Addr × Obj)) (c : Code) (fs : List Frame) (Kc : Flow → Sem PySem.Fin) (Jc : Value → Sem PySem.Fin) (gd : Bool → Bool) (lv : List Value → List Value) (a : An) (s : Shared) (σ : L2.St) (H : Hp) (D : GE),
    GC2 Z ip c fs gd → GK2 Z ip c fs Kc Jc D → AnOk Z a → Inv (Z.cx a) ip σ H s → t D a σ H → SegG (model Z.P Z.w) Z.A (Z.Phi n a) c ((exec st Z.env).wrap Kc Jc gd lv) fs s
structure GSs2 (Z : Gz) (st : List Stmt) (t : TG2) : Prop where
  run : ∀ (n : Nat) (ip : List (Addr × Obj)) (c : Code) (fs : List Frame) (Kc : Flow → Sem PySem.Fin) (Jc : Value → Sem PySem.Fin) (gd : Bool → Bool) (lv : List Value → List Value) (a : An) (s : Shared) (σ : L2.St) (H : Hp) (D : GE),
    GC2 Z ip c fs gd → GK2 Z ip c fs Kc Jc D → AnOk Z a → Inv (Z.cx a) ip σ H s → t D a σ H → SegG (model Z.P Z.w) Z.A (Z.Phi n a) c ((execs st Z.env).wrap Kc Jc gd lv) fs s
section
variable {Z : Gz} {st : Stmt} {rest : List Stmt} {pos yp : Pos}
def tPl (t : An → TS) : TG2 := fun D a σ H => t a (D.at a) σ H
def t2Nil : TG2 := fun D a σ H => D.nx a σ H
def t2Then (t u : TG2) : TG2 := fun D a σ H => t { D with nx := fun a' σ' H' => u D a' σ' H' } a σ H
/-! ### yield -/
def t2Y (J : It2) (te : An → TE) : TG2 := fun D a σ H => te a σ H fun x H1 => J.yld a.i a.H x H1 ∧ ∀ s' H' pc, J.wk (a.i + 1) H1 H' → D.nx ⟨a.i + 1, s', H', pc⟩ σ H'
/-! ### if -/
def t2If (tc : An → TT) (t u : TG2) : TG2 := fun D a σ H => tc a σ H fun b H1 => if b = true then t D a σ H1 else u D a σ H1
end
end Sg


/-! a for in a generator's body -/
namespace Sg
open PySem PyProof.Rows GenW L2
section
variable {M : Model} {A : Around} {Φ : End → Shared → Prop} {c : Code} {fs : List Frame} {s : Shared} {env : Env}
end
section
variable {prog : Program} {w : World} {A : Around} {Φ : End → Shared → Prop} {fs : List Frame} {s : Shared} {env : Env}
/-- an exception is noted, and leaves the loop's code -/
def noted (env : Env) (x : Value) : Sem PySem.Fin := (do noteFrame x env; theTreesLotGoes x : Sem Unit).wrap (fun _ => .raise x) .raise id id
end
section
variable {Z : Gz}
def t2For (wi : An → TI) (g : An → TG) (tb : TG2) : TG2 := fun D a σ H => wi a σ H fun J H1 => ∃ W : Nat → Nat → An → L2.St → Hp → Prop, (∃ m, W 0 m a σ H1) ∧ ∀ i m a σ H, W i m a σ H →
  (J.stop i H ∧ D.nx a σ H) ∨ (J.go i H ∧ ∃ N : An → L2.St → Hp → Prop, (∀ a' σ' H', N a' σ' H' → ∃ m', m' < m ∧ W (i + 1) m' a' σ' H') ∧
    ∀ x H', J.yld i H x H' → g a x σ H' fun σ2 H2 => tb { D with nx := N, ct := N, bk := D.nx } a σ2 H2)
end
end Sg


/-! yield from of a list, in a generator whose consumer runs code between the yields -/
namespace Sg
open PySem PyProof.Rows GenW L2
section
variable {prog : Program} {w : World} {A : Around} {E : Value → Shared → Prop} {s : Shared}
end
section
variable {M : Model} {A : Around} {Φ : End → Shared → Prop} {c : Code} {fs : List Frame} {s : Shared}
end
section
variable {Z : Gz} {pos yp : Pos}
def t2From (Z : Gz) (te : An → TE) : TG2 := fun D a σ H => te a σ H fun x H1 => ∃ b xs, x = .ref b ∧ ∃ W : Nat → An → Hp → Prop, W 0 a H1 ∧ ∀ i a H, W i a H →
  SqL Z.K H b xs ∧ (∀ x, xs[i]? = some x → Z.J.yld a.i a.H x H ∧ ∀ s' H' pc, Z.J.wk (a.i + 1) H H' → W (i + 1) ⟨a.i + 1, s', H', pc⟩ H') ∧ (i = xs.length → D.nx a σ H)
end
end Sg


/-! a generator def's promise, by its body -/
namespace Sg
open PySem PyProof.Rows GenW L2
abbrev SpG2 := List V → Hp → (It2 → Prop) → Prop
def mkZ (P : Program) (w : World) (K : PySem.W.Frag) (mg : Str → Option Value) (base : Heap) (N : List Str) (qual : Str) (scope : Scope) (f : Addr) (cd : Value) (n : Nat) (A : Around) (outer : List Env) (os : OsState) (ag : Addr) (g : Nat) (go : Obj) (pa : List Addr) (J : It2) : Gz :=
  ⟨P, w, K, mg, base, N, qual, scope, n, f, cd, A, outer, os, ag, g, go, pa, J⟩
/-- what a call of a generator def gives -/
def GMade2 (P : Program) (w : World) (K : PySem.W.Frag) (mg : Str → Option Value) (base : Heap) (k : Nat) (outer : List Env) (H : Hp) (s : Shared) (C : It2 → Prop) (u : Value) (s' : Shared) : Prop :=
  ∃ (a : Addr) (g : Nat) (c : Code), u = .ref a ∧ s.heap.objs.size < a ∧ a < s'.heap.objs.size ∧ s'.heap.IsGen a g ∧ s'.gens[g]? = some (.fresh c) ∧ s'.os = s.os ∧ AllBare s'.gens ∧ s'.heap.NoLimit ∧ (∀ b o, s.heap.get? b = some o → s'.heap.get? b = some o) ∧
    ∃ (N : List Str) (qual : Str) (scope : Scope) (f : Addr) (cd : Value) (go : Obj) (ks : List (Addr × Obj)), ∀ (A : Around) (pa : List Addr) (J : It2), C J → Room k A → A.frames = some outer → (∀ b ∈ pa, s'.heap.objs.size ≤ b) →
      (mkZ P w K mg base N qual scope f cd s.heap.objs.size A outer s.os a g go pa J).Ok ∧ KsOk (mkZ P w K mg base N qual scope f cd s.heap.objs.size A outer s.os a g go pa J) ks H s' ∧
      ∀ n, (mkZ P w K mg base N qual scope f cd s.heap.objs.size A outer s.os a g go pa J).Slp n 0 (.fresh c) ks H
structure GFn2 (P : Program) (w : World) (K : PySem.W.Frag) (mg : Str → Option Value) (base : Heap) (k : Nat) (f : Addr) (fd : FuncData) (ps : List Str) (sp : SpG2) : Prop where
  len : ∀ vs H C, sp vs H C → vs.length = ps.length
  run : ∀ (A : Around) (outer : List Env) (s : Shared) (H : Hp) (args : Args) (us : List Value) (vs : List V) (C : It2 → Prop), Room k A → Env0 P w K mg base A outer s H → BindsTo s fd args (ps.zip us) → Vals vs us → sp vs H C →
    codeAny (model P w) A (.call (.ref f) args) (fun r s' => match r with | .ok (.ret u) => GMade2 P w K mg base k outer H s C u s' | _ => False) s
end Sg


/-! who draws from a generator: its next value; for x in g(..) -/
namespace Sg
open PySem PyProof.Rows GenW L2
section
variable {X : Cx} {pins : List (Addr × Obj)} {σ : L2.St} {H : Hp} {s sh : Shared}
end
/-- an exception that is wished for is wished for whatever sleeps -/
def SwX (X : Cx) : Prop := ∀ (T : Nat → Option GenState) (e : Value) (sh : Shared), Slp.Iv T sh.gens → X.xe e sh → X.xe e (Slp.swS T sh)
/-- where the consumer's own things stand: ahead of the generator's, or pinned -/
structure Con (X : Cx) (pins : List (Addr × Obj)) (n : Nat) (pa td : List Addr) : Prop where
  ent : ∀ b o, X.s_0.heap.get? b = some o → b < n ∨ b ∈ X.ex ∨ b ∈ td
  td : ∀ b ∈ td, X.H_0 b ≠ none
  loc : (X.env.locals < n ∧ X.env.locals ∈ frs X.stack) ∨ X.env.locals ∈ pa
  cel : ∀ x c, X.env.cells.lookup x = some c → c < n
  pin : ∀ p ∈ X.pn ++ pins, p.1 < n ∨ p.1 ∈ pa
section
variable {X : Cx} {pins : List (Addr × Obj)} {σ : L2.St} {H H1 : Hp} {s s1 s2 : Shared} {n : Nat} {pa td : List Addr}
end
abbrev zOf (X : Cx) (N : List Str) (qual : Str) (scope : Scope) (f : Addr) (cd : Value) (n : Nat) (os : OsState) (ag : Addr) (g : Nat) (go : Obj) (pa : List Addr) (J : It2) : Gz :=
  mkZ X.prog X.w X.K X.mg X.base N qual scope f cd n X.A.in1 X.stack os ag g go pa J
section
variable {X : Cx} {pins : List (Addr × Obj)} {σ : L2.St} {H : Hp} {s : Shared} {N : List Str} {qual : Str} {scope : Scope} {f : Addr} {cd : Value} {n : Nat} {os : OsState} {ag : Addr} {g : Nat} {go : Obj} {pa td : List Addr} {J : It2}
end
end Sg


/-! for x in g(..); [.. for x in g(..)] -/
namespace Sg
open PySem PyProof.Rows GenW L2
abbrev TGen2 := L2.St → Hp → ((It2 → Prop) → Hp → Prop) → Prop
structure PGen2 (X : Cx) (k : Nat) (e : Expr) (tg : TGen2) : Prop where
  run : ∀ (pins : List (Addr × Obj)) (s : Shared) (σ : L2.St) (H : Hp) (R : (It2 → Prop) → Hp → Prop) (E : Value → Shared → Prop), (∀ e s, X.xe e s → E e s) → Inv X pins σ H s → tg σ H R → wpAny (model X.prog X.w) X.A (eval e X.env)
    (fun u s' => ∃ H1 sc J, Inv X pins σ H1 sc ∧ GMade2 X.prog X.w X.K X.mg X.base k X.stack H1 sc J u s' ∧ R J H1) E s
section
variable {X : Cx} {k : Nat} {f C : Addr} {fd : FuncData} {ps : List Str} {sp : SpG2} {dvs : List V} {ds : List Value} {x m : Str} {p pos pos' apos : Pos} {o e : Expr} {es : List Expr} {ta : TE} {t : TA}
def tCallG2 (sp : SpG2) (dvs : List V) (t : TA) : TGen2 := fun σ H R => t σ H fun vs H1 => ∃ C, sp (vs ++ dvs) H1 C ∧ R C H1
def tMethG2 (C : Addr) (m : Str) (sp : SpG2) (dvs : List V) (ta : TE) (t : TA) : TGen2 := fun σ H R => ta σ H fun x H1 => ∃ a dx fs, x = .ref a ∧ H1 a = some (.ins C dx fs) ∧ fs.lookup m = none ∧
  t σ H1 fun vs H2 => ∃ J, sp (x :: (vs ++ dvs)) H2 J ∧ R J H2
end
section
variable {X : Cx}
def tForG (tg : TGen2) (g : TG) (tb : TS) : TS := fun D σ H => tg σ H fun C H1 => ∃ J, C J ∧ ∃ W : Nat → Nat → Hp → L2.St → Hp → Prop, (∃ m, W 0 m H1 σ H1) ∧ ∀ i m Hs σ H, W i m Hs σ H →
  J.wk i Hs H ∧ (∀ cls d H', ¬ J.ex i H cls d H') ∧ (∀ H', J.fin i H H' → D.nx σ H') ∧ ∀ x H', J.yld i H x H' → ∃ N : L2.St → Hp → Prop, (∀ σ' H'', N σ' H'' → ∃ m', m' < m ∧ W (i + 1) m' H' σ' H'') ∧
    g x σ H' fun σ2 H2 => tb { D with nx := N, ct := N, bk := D.nx } σ2 H2
end
end Sg


/-! [.. for x in g(..)] -/
namespace Sg
open PySem PyProof.Rows GenW L2
/-- the objects between n and m -/
def rng (n m : Nat) : List Addr := (List.range m).filter fun b => decide (n ≤ b)
section
variable {X : Cx}
def tLcG (tgen : TGen2) (g : TG) (tt : TT) (te : TE) (vs : List Nat) : TE := fun σ H Q => tgen σ H fun C H1 => ∀ D, H1 D = none → ∃ J, C J ∧ ∃ W : Nat → Nat → Hp → Hp → Prop, (∃ m, W 0 m H1 (upd H1 D (.lst []))) ∧ ∀ i m Hs H, W i m Hs H →
  J.wk i Hs H ∧ (∀ cls d H', ¬ J.ex i H cls d H') ∧ (∀ H', J.fin i H H' → H' D ≠ none ∧ Q (.ref D) H') ∧ ∀ x H', J.yld i H x H' → H' D ≠ none ∧ ∃ Nx : Hp → Prop, (∀ H'', Nx H'' → ∃ m', m' < m ∧ W (i + 1) m' H' H'') ∧
    g x (wipe σ vs) H' fun σ2 H2 => wipe σ2 vs = wipe σ vs ∧ tt σ2 H2 fun b H3 =>
      if b = true then te σ2 H3 fun y H4 => ∃ acc, H4 D = some (.lst acc) ∧ acc.length < sizeLine ∧ Nx (upd H4 D (.lst (acc ++ [y]))) else Nx H3
end
end Sg
namespace Sg
open PySem PyProof.Rows GenW L2
/-- what stood stays, but for mu -/
def KpM (mu : Addr → Prop) (Hs H : Hp) : Prop := ∀ b u, Hs b = some u → ¬ mu b → H b = some u
end Sg


/-! Forest.walk: a generator -/
namespace FT
open PySem L2 TL ClX LiI Sg
def rowsW (ts : List (Str × Str)) : List (Str × Int) := walkN ts (ts.length + 1) "" 1
def itWalk (zs : List (Str × Int)) (mu : Addr → Prop) : It2 where
  wk := fun _ Hs H => KpM mu Hs H ∧ ∀ b, mu b → H b ≠ none
  yld := fun i H v H' => Same H H' ∧ ∃ r z, v = .ref r ∧ zs[i]? = some z ∧ RowW H' r z
  fin := fun i H H' => i = zs.length ∧ Same H H'
  ex := fun _ _ _ _ _ => False
def spWalk (CF : Addr) : SpG2 := fun vs H C => ∃ (x : Addr) (ts : List (Str × Str)), vs = [.ref x] ∧ TreeOk ts ∧ (rowsW ts).length ≤ 1000 ∧
  C = fun J => ∃ mu : Addr → Prop, (∀ H', KpM mu H H' → FAt CF H' x ts) ∧ J = itWalk (rowsW ts) mu
section
variable {P : Program} {w : World} {K : PySem.W.Frag} {mg : Str → Option Value} {base : Heap}
abbrev NWk : List Str := ["self"]
end
end FT


/-! plain: a walk goes to every flag below a place once -/
namespace FT
open PySem L2 TL
section
variable {ts : List (Str × Str)}
theorem path_endW (o : TreeOk ts) {a : Str} (h : Pl ts a) (n : a ≠ "") : a ∈ pathOf ts a := by
  obtain ⟨rk, r⟩ := o.up
  obtain ⟨p, ep, _, _⟩ := o.step r (h.resolve_left n)
  rw [path_step o (h.resolve_left n) ep]
  exact List.mem_append_right _ (List.mem_singleton.mpr rfl)
/-- above a flag on the way: the root, or on the way too -/
theorem path_upW (o : TreeOk ts) {rk : Str → Nat} (r : Rk ts rk) {z p : Str} (ep : par ts z = some p) : ∀ (k : Nat) (n : Str), rk n < k → n ∈ ts.map Prod.fst → z ∈ pathOf ts n → p = "" ∨ p ∈ pathOf ts n := by
  intro k
  induction k with
  | zero => intro n h; exact absurd h (Nat.not_lt_zero _)
  | succ k ih =>
    intro n hk mn mz
    obtain ⟨q, eq, hq, _⟩ := o.step r mn
    have st := path_step o mn eq
    rw [st] at mz ⊢
    by_cases pe : p = ""
    · exact .inl pe
    refine .inr (List.mem_append_left _ ?_)
    rcases List.mem_append.mp mz with m | m
    · rcases hq with e | ⟨mq, lt⟩
      · rw [e, path_root] at m
        cases m
      · exact (ih q (by omega) mq m).resolve_left pe
    · rw [List.mem_singleton.mp m, eq] at ep
      have e := Option.some.inj ep
      subst e
      exact path_endW o (hq.imp id fun h => h.1) pe
/-- the one child of a on the way to n -/
theorem child_on (o : TreeOk ts) {rk : Str → Nat} (r : Rk ts rk) {a : Str} (pa : Pl ts a) : ∀ (k : Nat) (n : Str), rk n < k → n ∈ ts.map Prod.fst → n ≠ a → (a = "" ∨ a ∈ pathOf ts n) →
    ∃ c, c ∈ kids ts a ∧ c ∈ pathOf ts n ∧ ∀ c' ∈ kids ts a, c' ∈ pathOf ts n → c' = c := by
  intro k
  induction k with
  | zero => intro n h; exact absurd h (Nat.not_lt_zero _)
  | succ k ih =>
    intro n hk mn ne h
    obtain ⟨p, ep, hp, _⟩ := o.step r mn
    have st := path_step o mn ep
    by_cases e : p = a
    · refine ⟨n, (kid_par o).mpr (e ▸ ep), by rw [st]; exact List.mem_append_right _ (List.mem_singleton.mpr rfl), fun c' k' m' => ?_⟩
      rw [st] at m'
      rcases List.mem_append.mp m' with m' | m'
      · exfalso
        rw [e] at m'
        have ec := (kid_par o).mp k'
        have mc := mem_kids.mp k'
        by_cases ea : a = ""
        · rw [ea, path_root] at m'
          cases m'
        · have h1 := path_rank o r (rk a + 1) a pa (fun _ => Nat.lt_succ_self _) c' m'
          obtain ⟨_, h2⟩ := r _ mc
          rcases h2 with h2 | ⟨_, h2⟩
          · exact ea h2
          · have h2 : rk a < rk c' := h2
            omega
      · exact List.mem_singleton.mp m'
    · have pne : p ≠ "" := by
        intro z
        rcases h with h | h
        · exact e (z.trans h.symm)
        · rw [st, z, path_root, List.nil_append] at h
          exact ne (List.mem_singleton.mp h).symm
      obtain ⟨mp, lt⟩ := hp.resolve_left pne
      obtain ⟨c, h1, h2, h3⟩ := ih p (by omega) mp e (h.imp id fun h => by
        rw [st] at h
        rcases List.mem_append.mp h with h | h
        · exact h
        · exact absurd (List.mem_singleton.mp h).symm ne)
      refine ⟨c, h1, by rw [st]; exact List.mem_append_left _ h2, fun c' k' m' => ?_⟩
      rw [st] at m'
      rcases List.mem_append.mp m' with m' | m'
      · exact h3 c' k' m'
      · rw [List.mem_singleton.mp m'] at k'
        have := (kid_par o).mp k'
        rw [ep] at this
        exact absurd (Option.some.inj this) e
theorem count_flatW {α : Type} {l : List α} {F : α → List (Str × Int)} {n : Str} {c : α → Nat} (h : ∀ z ∈ l, ((F z).map Prod.fst).count n = c z) : ((l.flatMap F).map Prod.fst).count n = (l.map c).sum := by
  induction l with
  | nil => rfl
  | cons z l ih =>
    rw [List.flatMap_cons, List.map_append, List.count_append, List.map_cons, List.sum_cons, h z List.mem_cons_self, ih fun y hy => h y (List.mem_cons_of_mem _ hy)]
theorem one_sum {l : List (Str × Str)} {c : Str} {p : Str × Str → Prop} [DecidablePred p] (nd : (l.map Prod.fst).Nodup) (h : ∀ z ∈ l, p z → z.1 = c) : (l.map fun z => if p z then 1 else 0).sum = if ∃ z ∈ l, p z then 1 else 0 := by
  induction l with
  | nil => rw [if_neg (fun ⟨z, h, _⟩ => by cases h)] <;> rfl
  | cons y l ih =>
    rw [List.map_cons, List.nodup_cons] at nd
    rw [List.map_cons, List.sum_cons, ih nd.2 fun z hz => h z (List.mem_cons_of_mem _ hz)]
    by_cases e : p y
    · rw [if_pos e, if_neg, if_pos ⟨y, List.mem_cons_self, e⟩]
      rintro ⟨z, hz, pz⟩
      exact nd.1 (by rw [h y List.mem_cons_self e, ← h z (List.mem_cons_of_mem _ hz) pz]; exact List.mem_map.mpr ⟨z, hz, rfl⟩)
    · rw [if_neg e, Nat.zero_add]
      by_cases q : ∃ z ∈ l, p z
      · rw [if_pos q, if_pos (let ⟨z, hz, pz⟩ := q; ⟨z, List.mem_cons_of_mem _ hz, pz⟩)]
      · rw [if_neg q, if_neg]
        rintro ⟨z, hz, pz⟩
        rcases List.mem_cons.mp hz with rfl | hz
        · exact e pz
        · exact q ⟨z, hz, pz⟩
theorem walk_count (o : TreeOk ts) {n : Str} (mn : n ∈ ts.map Prod.fst) : ∀ (m : Nat) (a : Str) (d : Int), Pl ts a → (pathOf ts a).length + m = ts.length + 1 →
    ((walkN ts m a d).map Prod.fst).count n = if n ≠ a ∧ (a = "" ∨ a ∈ pathOf ts n) then 1 else 0 := by
  obtain ⟨rk, r⟩ := o.up
  intro m
  induction m with
  | zero =>
    intro a d pa hm
    have := path_len ts a
    omega
  | succ m ih =>
    intro a d pa hm
    have nn : n ≠ "" := fun z => o.root (z ▸ mn)
    have each : ∀ z ∈ ts, ((if z.2 = a then (z.1, d) :: walkN ts m z.1 (d + 1) else []).map Prod.fst).count n = (fun z : Str × Str => if z.2 = a ∧ z.1 ∈ pathOf ts n then 1 else 0) z := by
      intro z hz
      have mz : z.1 ∈ ts.map Prod.fst := List.mem_map.mpr ⟨z, hz, rfl⟩
      have zn : z.1 ≠ "" := fun q => o.root (q ▸ mz)
      show _ = if z.2 = a ∧ z.1 ∈ pathOf ts n then 1 else 0
      by_cases e : z.2 = a
      · have ep := par_of o.nd (show (z.1, z.2) ∈ ts from hz)
        have st := path_step o mz ep
        have ln := path_len ts z.1
        rw [st, e, List.length_append, List.length_singleton] at ln
        rw [if_pos e, List.map_cons, List.count_cons, ih z.1 (d + 1) (.inr mz) (by rw [st, e, List.length_append, List.length_singleton]; omega)]
        by_cases q : z.1 = n
        · have pe := path_endW o (.inr mn) nn
          rw [if_neg (fun w => w.1 q.symm), if_pos (by rw [beq_iff_eq]; exact q), if_pos ⟨e, by rw [q]; exact pe⟩]
        · rw [if_neg (show ¬ (z.1 == n) = true by rw [beq_iff_eq]; exact q)]
          by_cases w : z.1 ∈ pathOf ts n
          · rw [if_pos ⟨fun y => q y.symm, .inr w⟩, if_pos ⟨e, w⟩]
          · rw [if_neg (fun y => w (y.2.resolve_left zn)), if_neg (fun y => w y.2)]
      · rw [if_neg e, if_neg (fun w => e w.1)] <;> rfl
    show ((ts.flatMap _).map Prod.fst).count n = _
    rw [count_flatW each]
    by_cases c : n ≠ a ∧ (a = "" ∨ a ∈ pathOf ts n)
    · obtain ⟨k, h1, h2, h3⟩ := child_on o r pa (rk n + 1) n (Nat.lt_succ_self _) mn c.1 c.2
      rw [if_pos c, one_sum (c := k) (p := fun z : Str × Str => z.2 = a ∧ z.1 ∈ pathOf ts n) o.nd fun z hz pz => h3 z.1 (mem_kids.mpr (pz.1 ▸ hz)) pz.2, if_pos ⟨(k, a), mem_kids.mp h1, rfl, h2⟩]
    · have none : ∀ z ∈ ts, ¬ (z.2 = a ∧ z.1 ∈ pathOf ts n) := by
        rintro z hz ⟨e, w⟩
        have mz : z.1 ∈ ts.map Prod.fst := List.mem_map.mpr ⟨z, hz, rfl⟩
        have ep := par_of o.nd (show (z.1, z.2) ∈ ts from hz)
        have up := path_upW o r ep (rk n + 1) n (Nat.lt_succ_self _) mn w
        rw [e] at up
        refine c ⟨fun q => ?_, up⟩
        have h1 := path_rank o r (rk n + 1) n (.inr mn) (fun _ => Nat.lt_succ_self _) z.1 w
        obtain ⟨_, h2⟩ := r _ hz
        rw [e] at h2
        rcases h2 with h2 | ⟨_, h2⟩
        · exact nn (q.trans h2)
        · rw [q] at h1
          omega
      rw [if_neg c, one_sum (c := "") (p := fun z : Str × Str => z.2 = a ∧ z.1 ∈ pathOf ts n) o.nd fun z hz pz => absurd pz (none z hz), if_neg (fun ⟨z, hz, pz⟩ => none z hz pz)]
theorem walk_flags (o : TreeOk ts) : ∀ (m : Nat) (a : Str) (d : Int), ∀ y ∈ walkN ts m a d, y.1 ∈ ts.map Prod.fst
  | 0, _, _, _, h => by cases h
  | m + 1, a, d, y, h => by
    obtain ⟨z, hz, h⟩ := List.mem_flatMap.mp (show y ∈ ts.flatMap _ from h)
    by_cases e : z.2 = a
    · rw [if_pos e] at h
      rcases List.mem_cons.mp h with rfl | h
      · exact List.mem_map.mpr ⟨z, hz, rfl⟩
      · exact walk_flags o m _ _ y h
    · rw [if_neg e] at h
      cases h
/-- the whole walk: every flag once -/
theorem rowsW_count (o : TreeOk ts) (n : Str) : ((rowsW ts).map Prod.fst).count n = if n ∈ ts.map Prod.fst then 1 else 0 := by
  by_cases mn : n ∈ ts.map Prod.fst
  · unfold rowsW
    rw [if_pos mn, walk_count o mn _ _ _ (.inl rfl) (by rw [path_root]; show 0 + _ = _; omega), if_pos ⟨fun z => o.root (z ▸ mn), .inl rfl⟩]
  · rw [if_neg mn, List.count_eq_zero]
    intro h
    obtain ⟨y, hy, rfl⟩ := List.mem_map.mp h
    exact mn (walk_flags o _ _ _ y hy)
theorem rowsW_perm (o : TreeOk ts) : ((rowsW ts).map Prod.fst).Perm (ts.map Prod.fst) := by
  rw [List.perm_iff_count]
  intro n
  rw [rowsW_count o n]
  by_cases mn : n ∈ ts.map Prod.fst
  · rw [if_pos mn, o.nd.count, if_pos mn]
  · rw [if_neg mn, List.count_eq_zero.mpr mn]
theorem rowsW_few (o : TreeOk ts) : (rowsW ts).length ≤ 1000 := by
  have := (rowsW_perm o).length_eq
  rw [List.length_map, List.length_map] at this
  have := o.few
  omega
end
end FT


/-! texts in parts: their weights (cut from FtTxtP, whose plOf stands in FtMovedB too) -/
namespace FT
open PySem L2 TL ClX
theorem cut_any_len (z : Str) (lo hi : Option Int) : (cutS z lo hi).length ≤ z.length := by
  rw [len_tl]
  unfold cutS
  show ((tl z).drop _ |>.take _).length ≤ _
  rw [List.length_take, List.length_drop, len_tl]
  omega
theorem split_ne (x y : Str) : Txt.split x y ≠ [] := by
  unfold Txt.split
  split
  · simp
  · split
    · simp
    · rw [StrLaws.partsBetween_eq]
      obtain ⟨p, r, e⟩ := StrLaws.partsFrom_ne x y.length 0 (Builtin.Str.occurrences x y 0 x.length (x.length + 1))
      rw [e]
      simp
/-- the parts' weight -/
def wgt (ls : List Str) : Nat := (ls.map fun z => z.length + 1).sum
theorem wgt_app (a b : List Str) : wgt (a ++ b) = wgt a + wgt b := by
  unfold wgt
  rw [List.map_append, List.sum_append]
theorem wgt_cons (z : Str) (l : List Str) : wgt (z :: l) = z.length + 1 + wgt l := by
  unfold wgt
  rw [List.map_cons, List.sum_cons]
theorem wgt_len : ∀ ls : List Str, ls.length ≤ wgt ls
  | [] => Nat.zero_le _
  | z :: l => by
    have := wgt_len l
    rw [wgt_cons, List.length_cons]
    omega
theorem wgt_sum : ∀ ls : List Str, (ls.map (·.length)).sum + ls.length = wgt ls
  | [] => rfl
  | z :: l => by
    have := wgt_sum l
    rw [wgt_cons, List.map_cons, List.sum_cons, List.length_cons]
    omega
theorem join_wgt (y : Str) (h1 : y.length = 1) : ∀ ls : List Str, ls ≠ [] → (Str.join y ls).length + 1 = wgt ls
  | [], h => absurd rfl h
  | [z], _ => by
    rw [wgt_cons]
    rfl
  | z :: u :: r, _ => by
    have ih := join_wgt y h1 (u :: r) (by simp)
    rw [wgt_cons]
    show (z ++ y ++ Str.join y (u :: r)).length + 1 = _
    rw [Str.length_append, Str.length_append]
    omega
theorem join_wgt_le (y : Str) (h1 : y.length = 1) (ls : List Str) : (Txt.join y ls).length ≤ wgt ls := by
  rw [join_eq]
  cases ls with
  | nil => exact Nat.zero_le _
  | cons a l =>
    have := join_wgt y h1 (a :: l) (by simp)
    omega
theorem split_wgt {x y : Str} (h1 : y.length = 1) : wgt (Txt.split x y) = x.length + 1 := by
  rw [← join_wgt y h1 _ (split_ne x y), StrLaws.join_split]
theorem split_few {x y : Str} (h1 : y.length = 1) : (Txt.split x y).length ≤ x.length + 1 := by
  rw [← split_wgt h1]
  exact wgt_len _
theorem wgt_mem {ls : List Str} {z : Str} (h : z ∈ ls) : z.length + 1 ≤ wgt ls := by
  induction ls with
  | nil => cases h
  | cons u l ih =>
    rw [wgt_cons]
    rcases List.mem_cons.mp h with rfl | h
    · omega
    · have := ih h
      omega
end FT


/-! is_name of any text -/
namespace FT
open PySem L2 TL ClX
theorem of_letters {c : Nat} (h : c ∈ letters.cps.toList) : 97 ≤ c ∧ c ≤ 122 := by
  have all : letters.cps.toList.all (fun c => decide (97 ≤ c ∧ c ≤ 122)) = true := by decide +kernel
  exact of_decide_eq_true (List.all_eq_true.mp all c h)
/-- whether a text is a name -/
def nmB (z : Str) : Bool := decide (NameL z)
theorem nmB_no {z : Str} (h : ¬ NameL z) : nmB z = false := decide_eq_false h
theorem nmB_yes {z : Str} (h : NameL z) : nmB z = true := decide_eq_true h
def spIsNameW : Sp := fun vs H Q _ => ∃ z : Str, vs = [.str z] ∧ z.length ≤ 20000 ∧ ∀ H', Same H H' → Q (.bl (nmB z)) H'
section
variable {P : Program} {w : World} {K : PySem.W.Frag} {mg : Str → Option Value} {base : Heap}
theorem ok_isNameW {f : Addr} {fd : FuncData} (F : Fun K "is_name" "is_name" s_is_name f fd) (T : Nm mg) (C : Cs mg) : FnOk P w K mg base CX0 1 f fd ["value"] spIsNameW := by
  obtain ⟨t1, g1⟩ := C.long
  obtain ⟨t2, g2⟩ := C.lett
  refine F.ok scIsName (fun vs H Q E h => ?_) (fun cdv A outer s H vs Q E hr h => ?_)
  · obtain ⟨z, rfl, _⟩ := h
    rfl
  · obtain ⟨z, rfl, lz, k⟩ := h
    refine ⟨_, pss_cons (ps_if (PW.pt (pw_or (pt_not (pt_val (pe_callB call_isi (by rfl) T.isi (by decide +kernel) (pa_cons (pv 0) (pa_cons (pe_bltn (v := .ty "str") (u := .type "str") (by rfl) T.str (by decide +kernel) rfl) pa_nil)))))
        (pw_or (pt_not (pt_chain op_le op_le pe_int (pe_callB call_len_str (by rfl) T.len PySem.boot_len (pa_cons (pv 0) pa_nil)) (pe_glob (v := .int 8) (by rfl) g1 ⟨_, rfl⟩))) (pw_or1 (pt_cmpR op_eq (pv 0) pe_str (nomark _))))))
        (pss_one (ps_ret pe_bl)) pss_nil)
      (pss_one (ps_ret (pe_callB (cr_all rfl) (by rfl) T.all (by decide +kernel) (pa_cons (pe_lc (own := [("letter", 1)]) (g := gName 1) (tt := tYes) (te := tOp (fun x y H Q => ∃ (c : Nat) (z : Str), x = .str ⟨#[c]⟩ ∧ y = .str z ∧ Q (.bl (decide (c ∈ z.cps.toList))) H) (tVar 1) (tC (.str letters))) rfl scIsName.nd (pi_str (pv 0))
        (blkOk_by (N := ["value", "letter"]) (sc := defScope s_is_name) (by decide +kernel))
        (fun _ _ _ _ _ => pg_name (i := 1) scIsName.nd rfl (Or.inl rfl)) (fun _ _ _ _ _ => pts_nil) (fun _ _ _ _ _ => pe_cmpR op_in_sign (pv 1) (pe_glob (v := .str letters) (by rfl) g2 ⟨_, rfl⟩) rfl)) pa_nil)))), ?_⟩
    have big : 30000 ≤ sizeLine := by decide
    have k0 : ∀ H', Same H H' → nmB z = false → Q (.bl false) H' := fun H' s e => by have := k H' s; rw [e] at this; exact this
    refine ⟨_, rfl, .str z, _, _, _, true, rfl, .ty _, .base (.str z), kit_ty (by decide +kernel), true, rfl, ?_⟩
    refine iteF ?_
    refine ⟨_, rfl, z, rfl, by omega, _, _, rfl, rfl, _, rfl, ?_⟩
    by_cases l1 : 1 ≤ z.length
    case neg =>
      rw [if_neg (show ¬ decide ((1 : Int) ≤ (z.length : Int)) = true by rw [decide_eq_true_eq]; omega)]
      refine ⟨_, rfl, ?_⟩
      refine iteT ?_
      exact k0 H (fun _ _ h => h) (nmB_no fun nm => l1 nm.len.1)
    rw [if_pos (decide_eq_true (by omega))]
    refine ⟨_, _, rfl, rfl, _, rfl, ?_⟩
    by_cases l2 : z.length ≤ 8
    case neg =>
      rw [decide_eq_false (show ¬ (z.length : Int) ≤ 8 by omega)]
      refine iteT ?_
      exact k0 H (fun _ _ h => h) (nmB_no fun nm => l2 nm.len.2)
    rw [decide_eq_true (show (z.length : Int) ≤ 8 by omega)]
    refine iteF ?_
    refine ⟨_, rfl, rfl, _, rfl, ?_⟩
    by_cases es : z = "self"
    case pos =>
      subst es
      refine iteT ?_
      exact k0 H (fun _ _ h => h) (nmB_no fun nm => nm.self rfl)
    rw [decide_eq_false (show ¬ V.str z = V.str "self" from fun e => es (V.str.inj e))]
    refine iteF ?_
    refine ⟨_, rfl, z, rfl, fun D nD => lc_it walk_str (fun i H' => Same H H' ∧ H' D = some (.lst ((((tl z).take i).map fun c => decide (c ∈ letters.cps.toList)).map V.bl))) ⟨same_new nD, upd_same⟩ (fun _ _ _ _ => trivial) ?_ ?_⟩
    · intro i x Ha Hb hi ⟨q1, q2⟩ ⟨e, ch, hc, ex⟩
      subst e
      subst ex
      have hz : (tl z)[i]? = some ch := by
        rw [← Array.getElem?_toList] at hc
        exact hc
      have li := (List.getElem?_eq_some_iff.mp hz).1
      refine ⟨rfl, ?_⟩
      refine ⟨_, rfl, ch, letters, rfl, rfl, _, q2, ?_, ?_, ?_⟩
      · rw [List.length_map, List.length_map, List.length_take]
        have : z.cps.size = z.length := rfl
        omega
      · exact Same.put q1 nD
      · rw [upd_same, List.take_succ, hz, List.map_append, List.map_append] <;> rfl
    · intro H' ⟨q1, q2⟩
      refine ⟨D, _, rfl, SqL.of q2, ?_⟩
      have e : (List.map (fun c => decide (c ∈ letters.cps.toList)) (List.take z.cps.size (tl z))).all id = nmB z := by
        have full : List.take z.cps.size (tl z) = tl z := List.take_of_length_le (by rw [← len_tl]; exact Nat.le_refl _)
        rw [full]
        by_cases a : ∀ c ∈ tl z, 97 ≤ c ∧ c ≤ 122
        · rw [nmB_yes ⟨a, by rw [← len_tl]; exact l1, by rw [← len_tl]; exact l2, es⟩, List.all_eq_true]
          intro b hb
          obtain ⟨c, hc, rfl⟩ := List.mem_map.mp hb
          exact decide_eq_true (in_letters (a c hc).1 (a c hc).2)
        · rw [nmB_no fun nm => a nm.1]
          refine Bool.eq_false_iff.mpr fun al => a fun c hc => of_letters ?_
          exact of_decide_eq_true (List.all_eq_true.mp al _ (List.mem_map.mpr ⟨c, hc, rfl⟩))
      show Q (.bl _) H'
      rw [e]
      exact k H' q1
end
end FT


/-! which dicts of texts are forests: going up, rings -/
namespace FT
open PySem L2 TL
/-- so many steps up -/
def upK (t : List (Str × Str)) : Nat → Str → Option Str
  | 0, a => some a
  | k + 1, a => (upK t k a).bind (par t)
theorem upK_add (t : List (Str × Str)) (a : Str) (i : Nat) : ∀ j, upK t (i + j) a = (upK t i a).bind (upK t j)
  | 0 => by cases h : upK t i a <;> simp [upK, h]
  | j + 1 => by
    show (upK t (i + j) a).bind (par t) = _
    rw [upK_add t a i j]
    cases upK t i a <;> rfl
theorem upK_key {t : List (Str × Str)} {a b : Str} {k : Nat} (h : upK t (k + 1) a = some b) : ∃ c, upK t k a = some c ∧ par t c = some b ∧ c ∈ t.map Prod.fst := by
  have h' : (upK t k a).bind (par t) = some b := h
  obtain ⟨c, h1, h2⟩ := Option.bind_eq_some_iff.mp h'
  exact ⟨c, h1, h2, List.mem_map.mpr ⟨_, par_mem h2, rfl⟩⟩
/-- a flag in a ring -/
def Ring (t : List (Str × Str)) (a : Str) : Prop := ∃ k, upK t (k + 1) a = some a
theorem ring_all {t : List (Str × Str)} {a : Str} {k : Nat} (h : upK t (k + 1) a = some a) : ∀ n, upK t (n * (k + 1)) a = some a
  | 0 => by rw [Nat.zero_mul] <;> rfl
  | n + 1 => by rw [Nat.succ_mul, upK_add, ring_all h n]; exact h
theorem some_le {t : List (Str × Str)} {a b : Str} {i j : Nat} (h : upK t j a = some b) (le : i ≤ j) : ∃ c, upK t i a = some c := by
  obtain ⟨d, rfl⟩ := Nat.le.dest le
  rw [upK_add] at h
  obtain ⟨c, h1, _⟩ := Option.bind_eq_some_iff.mp h
  exact ⟨c, h1⟩
/-- in a ring one can always go up, over keys -/
theorem ring_some {t : List (Str × Str)} {a : Str} (h : Ring t a) (i : Nat) : ∃ c, upK t i a = some c ∧ c ∈ t.map Prod.fst := by
  obtain ⟨k, h⟩ := h
  have h1 : i + 1 ≤ (i + 1) * (k + 1) := Nat.le_mul_of_pos_right _ (Nat.succ_pos k)
  obtain ⟨b, hb⟩ := some_le (ring_all h (i + 1)) h1
  obtain ⟨c, e1, _, e2⟩ := upK_key hb
  exact ⟨c, e1, e2⟩
/-- a set closed under going up that holds no a holds no ring of a -/
theorem no_ring {t : List (Str × Str)} {a : Str} (S : Str → Prop) (h1 : ∀ b, par t a = some b → S b) (h2 : ∀ b c, S b → par t b = some c → S c) (n : ¬ S a) : ¬ Ring t a := by
  rintro ⟨k, h⟩
  have all : ∀ k b, upK t (k + 1) a = some b → S b := by
    intro k
    induction k with
    | zero => exact fun b e => h1 b (by obtain ⟨c, z1, z2, _⟩ := upK_key e; cases z1; exact z2)
    | succ k ih =>
      intro b e
      obtain ⟨c, z1, z2, _⟩ := upK_key e
      exact h2 c b (ih c z1) z2
  exact n (all k a h)
/-- so many different keys: no more than there are -/
theorem pigeon {l m : List Str} (nd : l.Nodup) (sub : ∀ x ∈ l, x ∈ m) : l.length ≤ m.length := by
  induction l generalizing m with
  | nil => exact Nat.zero_le _
  | cons x l ih =>
    obtain ⟨n1, n2⟩ := List.nodup_cons.mp nd
    have hx := sub x (List.mem_cons_self ..)
    have := ih (m := m.erase x) n2 fun y hy => (List.mem_erase_of_ne (fun e => n1 (show x ∈ l by rw [← (show y = x from e)]; exact hy))).mpr (sub y (List.mem_cons_of_mem _ hy))
    have l1 := List.length_erase_of_mem hx
    have l2 : 0 < m.length := List.length_pos_of_mem hx
    simp only [List.length_cons]
    omega
/-- the flags on the way up -/
def way (t : List (Str × Str)) (a : Str) (n : Nat) : List Str := (List.range n).map fun i => (upK t i a).getD ""
theorem way_len (t : List (Str × Str)) (a : Str) (n : Nat) : (way t a n).length = n := by unfold way; rw [List.length_map, List.length_range]
theorem way_at {t : List (Str × Str)} {a : Str} {n i : Nat} (h : i < n) : (way t a n)[i]? = some ((upK t i a).getD "") := by
  unfold way
  rw [List.getElem?_map, List.getElem?_range h] <;> rfl
theorem nodup_at {l : List Str} (h : ∀ (i j : Nat) (x : Str), i < j → l[i]? = some x → l[j]? = some x → False) : l.Nodup := by
  induction l with
  | nil => exact List.nodup_nil
  | cons y l ih =>
    refine List.nodup_cons.mpr ⟨fun hm => ?_, ih fun i j x lt h1 h2 => h (i + 1) (j + 1) x (by omega) h1 h2⟩
    obtain ⟨i, hi⟩ := List.mem_iff_getElem?.mp hm
    exact h 0 (i + 1) y (by omega) rfl hi
theorem least {P : Nat → Prop} : ∀ n, P n → ∃ k, k ≤ n ∧ P k ∧ ∀ j, j < k → ¬ P j := by
  intro n
  induction n using Nat.strongRecOn with
  | ind n ih =>
    intro h
    by_cases e : ∃ j, j < n ∧ P j
    · obtain ⟨j, l, hj⟩ := e
      obtain ⟨k, l2, hk, m⟩ := ih j l hj
      exact ⟨k, by omega, hk, m⟩
    · exact ⟨n, Nat.le_refl _, h, fun j l hj => e ⟨j, l, hj⟩⟩
/-- a ring is met within as many steps as there are flags -/
theorem ring_few {t : List (Str × Str)} {a : Str} (h : Ring t a) : ∃ k, k < t.length ∧ upK t (k + 1) a = some a := by
  have hR := h
  obtain ⟨k0, h0⟩ := h
  obtain ⟨k, _, hk, mk⟩ := least (P := fun k => upK t (k + 1) a = some a) k0 h0
  have nd : (way t a (k + 1)).Nodup := by
    refine nodup_at fun i j x lt h1 h2 => ?_
    have hj : j < k + 1 := by
      have := (List.getElem?_eq_some_iff.mp h2).1
      rw [way_len] at this
      exact this
    rw [way_at (by omega)] at h1
    rw [way_at hj] at h2
    obtain ⟨ci, ei, _⟩ := ring_some hR i
    obtain ⟨cj, ej, _⟩ := ring_some hR j
    rw [ei] at h1
    rw [ej] at h2
    have e1 : ci = x := Option.some.inj h1
    have e2 : cj = x := Option.some.inj h2
    obtain ⟨d, hd⟩ := Nat.le.dest (show j ≤ k + 1 by omega)
    have z := hk
    rw [← hd, upK_add, ej] at z
    refine mk (i + d - 1) (by omega) ?_
    rw [show i + d - 1 + 1 = i + d by omega, upK_add, ei, e1, ← e2]
    exact z
  have sub : ∀ x ∈ way t a (k + 1), x ∈ t.map Prod.fst := by
    intro x hx
    unfold way at hx
    obtain ⟨i, _, rfl⟩ := List.mem_map.mp hx
    obtain ⟨c, e, m⟩ := ring_some hR i
    rw [e]
    exact m
  have := pigeon nd sub
  rw [way_len, List.length_map] at this
  exact ⟨k, by omega, hk⟩
/-- a parent that is no place -/
def BadUp (t : List (Str × Str)) (a : Str) : Prop := ∃ z, par t a = some z ∧ z ≠ "" ∧ z ∉ t.map Prod.fst
/-- the steps up that are not the root's -/
def dep (t : List (Str × Str)) (a : Str) (n : Nat) : Nat := (List.range n).countP fun i => decide (∃ b, upK t i a = some b ∧ b ≠ "")
theorem dep_succ (t : List (Str × Str)) (a : Str) (n : Nat) : dep t a (n + 1) = dep t a n + if ∃ b, upK t n a = some b ∧ b ≠ "" then 1 else 0 := by
  unfold dep
  rw [List.range_succ, List.countP_append]
  congr 1
  by_cases e : ∃ b, upK t n a = some b ∧ b ≠ ""
  · simp [e]
  · simp [e]
theorem dep_up {t : List (Str × Str)} {a z : Str} (h : par t a = some z) (na : a ≠ "") : ∀ n, dep t a (n + 1) = dep t z n + 1
  | 0 => by
    rw [dep_succ, if_pos ⟨a, rfl, na⟩] <;> rfl
  | n + 1 => by
    have e : upK t (n + 1) a = upK t n z := by
      rw [Nat.add_comm, upK_add]
      show ((some a).bind (par t)).bind (upK t n) = _
      rw [Option.bind_some, h, Option.bind_some]
    rw [dep_succ, dep_up h na n, dep_succ, e]
    omega
/-- without a bad parent and without a ring it is a forest -/
theorem treeR_of {t : List (Str × Str)} (l1 : 1 ≤ t.length) (l2 : t.length ≤ 12) (nd : (t.map Prod.fst).Nodup) (nm : ∀ z ∈ t.map Prod.fst, NameL z) (nb : ∀ a ∈ t.map Prod.fst, ¬ BadUp t a) (nr : ∀ a ∈ t.map Prod.fst, ¬ Ring t a) : TreeOk t := by
  have root : ("" : Str) ∉ t.map Prod.fst := fun h => (nm _ h).ne rfl
  -- going up from a flag for as many steps as there are flags leaves the flags
  have out : ∀ a ∈ t.map Prod.fst, ¬ ∃ b, upK t t.length a = some b ∧ b ≠ "" := by
    rintro a ha ⟨b, hb, nb'⟩
    have keys : ∀ i, i ≤ t.length → ∃ c, upK t i a = some c ∧ c ∈ t.map Prod.fst := by
      intro i hi
      rcases Nat.lt_or_ge i t.length with h | h
      · obtain ⟨c, hc⟩ := some_le hb (show i + 1 ≤ t.length from h)
        obtain ⟨d, e1, _, e2⟩ := upK_key hc
        exact ⟨d, e1, e2⟩
      · have e : i = t.length := by omega
        subst e
        refine ⟨b, hb, ?_⟩
        cases hl : t.length with
        | zero => omega
        | succ m =>
          rw [hl] at hb
          obtain ⟨c, _, e2, e3⟩ := upK_key hb
          exact Classical.byContradiction fun n => nb c e3 ⟨b, e2, nb', n⟩
    have nd2 : (way t a (t.length + 1)).Nodup := by
      refine nodup_at fun i j x lt h1 h2 => ?_
      have hj : j < t.length + 1 := by
        have := (List.getElem?_eq_some_iff.mp h2).1
        rw [way_len] at this
        exact this
      rw [way_at (by omega)] at h1
      rw [way_at hj] at h2
      obtain ⟨ci, ei, mi⟩ := keys i (by omega)
      obtain ⟨cj, ej, _⟩ := keys j (by omega)
      rw [ei] at h1
      rw [ej] at h2
      have e1 : ci = x := Option.some.inj h1
      have e2 : cj = x := Option.some.inj h2
      obtain ⟨d, hd⟩ := Nat.le.dest (show i + 1 ≤ j from lt)
      refine nr ci mi ⟨d, ?_⟩
      have z := ej
      rw [show j = i + (d + 1) by omega, upK_add, ei] at z
      exact Eq.trans z (by rw [e1, e2])
    have sub : ∀ x ∈ way t a (t.length + 1), x ∈ t.map Prod.fst := by
      intro x hx
      unfold way at hx
      obtain ⟨i, hi, rfl⟩ := List.mem_map.mp hx
      obtain ⟨c, e, m⟩ := keys i (by have := List.mem_range.mp hi; omega)
      rw [e]
      exact m
    have := pigeon nd2 sub
    rw [way_len, List.length_map] at this
    omega
  refine ⟨l1, l2, nd, nm, fun a => dep t a t.length - 1, fun p hp => ?_⟩
  obtain ⟨a, z⟩ := p
  have ha : a ∈ t.map Prod.fst := List.mem_map.mpr ⟨_, hp, rfl⟩
  have hz := par_of nd hp
  have na : a ≠ "" := fun e => root (e ▸ ha)
  have up := dep_up hz na t.length
  have e1 := dep_succ t a t.length
  rw [if_neg (out a ha)] at e1
  have le : dep t a t.length ≤ t.length := by
    unfold dep
    have := List.countP_le_length (p := fun i => decide (∃ b, upK t i a = some b ∧ b ≠ "")) (l := List.range t.length)
    rw [List.length_range] at this
    exact this
  refine ⟨by show dep t a t.length - 1 < t.length; omega, ?_⟩
  by_cases e : z = ""
  · exact .inl e
  · have hk : z ∈ t.map Prod.fst := Classical.byContradiction fun n => nb a ha ⟨z, hz, e, n⟩
    refine .inr ⟨hk, ?_⟩
    have pos : 1 ≤ dep t z t.length := by
      cases hl : t.length with
      | zero => omega
      | succ m =>
        obtain ⟨y, hy⟩ := par_some nd hk
        rw [dep_up hy e]
        omega
    show dep t z t.length - 1 < dep t a t.length - 1
    omega
end FT


/-! is_ancestor of any texts: it decides rings -/
namespace FT
open PySem L2 TL ClX
def ringB (t : List (Str × Str)) (a : Str) : Bool := (List.range t.length).any fun k => decide (upK t (k + 1) a = some a)
theorem ringB_yes {t : List (Str × Str)} {a : Str} (h : Ring t a) : ringB t a = true := by
  obtain ⟨k, l, e⟩ := ring_few h
  exact List.any_eq_true.mpr ⟨k, List.mem_range.mpr l, decide_eq_true e⟩
theorem ringB_no {t : List (Str × Str)} {a : Str} (h : ¬ Ring t a) : ringB t a = false := by
  refine Bool.eq_false_iff.mpr fun z => h ?_
  obtain ⟨k, _, e⟩ := List.any_eq_true.mp z
  exact ⟨k, of_decide_eq_true e⟩
def spIsAncR : Sp := fun vs H Q _ => ∃ (q : Addr) (g : Str) (t : List (Str × Str)), vs = [.ref q, .str g] ∧ H q = some (.dK (prs t)) ∧ (t.map Prod.fst).Nodup ∧ t.length ≤ 12 ∧ g ∈ t.map Prod.fst ∧ ∀ H', Same H H' → Q (.bl (ringB t g)) H'
/-- what holds while going up -/
structure Wy (t : List (Str × Str)) (g a : Str) (ws : List Str) : Prop where
  nd : ws.Nodup
  sub : ∀ b ∈ ws, b ∈ t.map Prod.fst
  no : g ∉ ws
  up : upK t (ws.length + 1) g = some a
  c0 : ∀ b, par t g = some b → b ∈ ws ∨ b = a
  c1 : ∀ b ∈ ws, ∀ c, par t b = some c → c ∈ ws ∨ c = a
def restS (t : List (Str × Str)) (l : Addr) (H : Hp) : Nat := match H l with
  | some (.lst xs) => t.length - xs.length
  | _ => 0
section
variable {P : Program} {w : World} {K : PySem.W.Frag} {mg : Str → Option Value} {base : Heap}
theorem ok_isAncR {f : Addr} {fd : FuncData} (F : Fun K "is_ancestor" "is_ancestor" s_is_ancestor f fd) : FnOk P w K mg base CX0 1 f fd ["parents", "name"] spIsAncR := by
  refine F.ok scIsAnc (fun vs H Q E h => ?_) (fun cdv A outer s H vs Q E hr h => ?_)
  · obtain ⟨q, g, t, rfl, _⟩ := h
    rfl
  · obtain ⟨q, g, t, rfl, hq, nd, few, hg, k⟩ := h
    have hu := hu_of hr
    refine ⟨_, pss_cons (ps_set (i := 2) scIsAnc.nd rfl (.inl rfl) (pe_lst pa_nil))
      (pss_cons (ps_set (i := 3) scIsAnc.nd rfl (.inl rfl) (pe_dget hu (pv 0) (pv 1) (fun _ _ => rfl)))
      (pss_cons (ps_while PassesOwn.never (PW.pt (pw_and (pt_cmp (pc_din hu (pv 3) (pv 0))) (pw_and1 (pt_cmpR op_notIn_seq (pv 3) (pv 2) rfl))))
        (pss_cons (ps_if (pt_cmpR op_eq (pv 3) (pv 1) (nomark _)) (pss_one (ps_ret pe_bl)) pss_nil)
        (pss_cons (ps_expr (pe_bm PySem.F.plainAttrs_list PySem.F.slot_list_append PySem.F.type_list_append mt_append (pv 2) (pa_cons (pv 3) pa_nil)))
        (pss_one (ps_set (i := 3) scIsAnc.nd rfl (.inl rfl) (pe_dget hu (pv 0) (pv 3) (fun _ _ => rfl)))))))
      (pss_one (ps_ret pe_bl)))), ?_⟩
    obtain ⟨p0, v0⟩ := par_some nd hg
    have big : 1000 ≤ sizeLine := by decide
    refine ⟨by show 0 ≤ sizeLine; omega, fun l nl => ?_⟩
    have hq1 : (upd H l (.lst [])) q = some (.dK (prs t)) := by rw [upd_ne (ne_of_none hq nl)]; exact hq
    have ql : q ≠ l := ne_of_none hq nl
    refine ⟨_, rfl, _, rfl, q, V.str p0, rfl, by have z := DGet.k (k := Sum.inr g) hq1; rw [val_prs, v0] at z; exact z, ?_⟩
    refine while_by (fun σ H' => ∃ (a : Str) (ws : List Str), σ = [some (.ref q), some (.str g), some (.ref l), some (.str a)] ∧ H' l = some (.lst (ws.map V.str)) ∧ (∀ b u, H b = some u → H' b = some u) ∧ Wy t g a ws)
      (fun _ H' => restS t l H') ⟨p0, [], rfl, upd_same, same_new nl, ⟨List.nodup_nil, fun b h => absurd h List.not_mem_nil, List.not_mem_nil, v0, fun b e => .inr (by rw [v0] at e; exact (Option.some.inj e).symm), fun b h => absurd h List.not_mem_nil⟩⟩ ?_ ?_
    · rintro σ Hx ⟨a, ws, rfl, hl, sm, W⟩
      have hqx := sm _ _ hq
      have dg := DGet.k (k := Sum.inr a) hqx
      rw [val_prs] at dg
      refine ⟨_, rfl, _, rfl, q, _, rfl, dg, _, rfl, ?_⟩
      by_cases ha : a ∈ t.map Prod.fst
      case neg =>
        rw [par_none ha]
        refine iteF ?_
        refine iteF ?_
        have nr : ¬ Ring t g := fun r => by
          obtain ⟨c, e, m⟩ := ring_some r (ws.length + 1)
          rw [W.up] at e
          exact ha (by rw [Option.some.inj e]; exact m)
        have := k Hx sm
        rw [ringB_no nr] at this
        exact this
      · obtain ⟨p, hv⟩ := par_some nd ha
        rw [hv]
        show if true = true then _ else _
        rw [if_pos rfl]
        refine ⟨_, rfl, _, rfl, l, _, rfl, .inl (SqL.of hl), rfl, flat_strs ws, _, rfl, ?_⟩
        rw [inV_strs]
        by_cases hw : a ∈ ws
        · rw [decide_eq_true hw]
          have nr : ¬ Ring t g := no_ring (fun b => b ∈ ws) (fun b e => (W.c0 b e).elim id fun z => by rw [z]; exact hw) (fun b c hb e => (W.c1 b hb c e).elim id fun z => by rw [z]; exact hw) W.no
          refine iteF ?_
          have := k Hx sm
          rw [ringB_no nr] at this
          exact this
        · rw [decide_eq_false hw]
          show if true = true then _ else _
          rw [if_pos rfl]
          refine ⟨_, rfl, _, rfl, rfl, _, rfl, ?_⟩
          by_cases ag : a = g
          · subst ag
            rw [decide_eq_true rfl]
            refine iteT ?_
            have := k Hx sm
            rw [ringB_yes ⟨_, W.up⟩] at this
            exact this
          rw [decide_eq_false (show ¬ V.str a = V.str g from fun e => ag (V.str.inj e))]
          refine iteF ?_
          have wl : ws.length + 1 ≤ t.length := by
            have := pigeon (l := a :: ws) (m := t.map Prod.fst) (List.nodup_cons.mpr ⟨hw, W.nd⟩) (fun x hx => (List.mem_cons.mp hx).elim (fun e => by rw [e]; exact ha) fun h => W.sub x h)
            rw [List.length_map, List.length_cons] at this
            exact this
          refine ⟨_, rfl, .inl ⟨rfl, _, SqL.of hl⟩, _, rfl, l, _, _, rfl, rfl, hl, by rw [List.length_map]; omega, ?_⟩
          have hq2 : (upd Hx l (.lst (ws.map V.str ++ [.str a]))) q = some (.dK (prs t)) := by rw [upd_ne ql]; exact hqx
          refine ⟨_, rfl, _, rfl, q, V.str p, rfl, by have z := DGet.k (k := Sum.inr a) hq2; rw [val_prs, hv] at z; exact z, ?_⟩
          refine ⟨⟨p, ws ++ [a], rfl, by rw [upd_same, List.map_append] <;> rfl, fun b u e => ?_, ?_⟩, ?_⟩
          · rw [upd_ne (ne_of_none e nl)]
            exact sm b u e
          · refine ⟨?_, ?_, ?_, ?_, ?_, ?_⟩
            · exact List.nodup_append.mpr ⟨W.nd, List.nodup_cons.mpr ⟨List.not_mem_nil, List.nodup_nil⟩, fun x hx y hy e => by rw [List.mem_singleton] at hy; subst hy; subst e; exact hw hx⟩
            · intro b hb
              rcases List.mem_append.mp hb with h | h
              · exact W.sub b h
              · rw [List.mem_singleton] at h; subst h; exact ha
            · intro hb
              rcases List.mem_append.mp hb with h | h
              · exact W.no h
              · rw [List.mem_singleton] at h; exact ag h.symm
            · rw [List.length_append]
              show (upK t (ws.length + 1) g).bind (par t) = _
              rw [W.up]
              exact hv
            · intro b e
              refine .inl (List.mem_append.mpr ((W.c0 b e).imp id fun z => by rw [z]; exact List.mem_singleton.mpr rfl))
            · intro b hb c e
              rcases List.mem_append.mp hb with h | h
              · exact .inl (List.mem_append.mpr ((W.c1 b h c e).imp id fun z => by rw [z]; exact List.mem_singleton.mpr rfl))
              · rw [List.mem_singleton] at h
                subst h
                rw [hv] at e
                exact .inr (Option.some.inj e).symm
          · unfold restS
            rw [upd_same, hl]
            show t.length - (List.map V.str ws ++ [V.str a]).length < t.length - (List.map V.str ws).length
            rw [List.length_append, List.length_map]
            show t.length - (ws.length + 1) < t.length - ws.length
            omega
    · intro σ Hx Qa Qb h
      rintro ⟨v, e1, w, e2, a, r, e3, g, d, e4, z⟩
      refine ⟨v, e1, w, e2, a, r, e3, g, d, e4, ?_⟩
      cases d with
      | false =>
        rw [if_neg (by decide)] at z ⊢
        exact h _ _ z
      | true =>
        rw [if_pos rfl] at z ⊢
        obtain ⟨v, e1, w, e2, p, xs, e3, e4, e5, e6, b, e7, z⟩ := z
        exact ⟨v, e1, w, e2, p, xs, e3, e4, e5, e6, b, e7, h _ _ z⟩
end
end FT


/-! is_integer -/
namespace FT
open PySem L2 TL ClX
section
variable {P : Program} {w : World} {K : PySem.W.Frag} {mg : Str → Option Value} {base : Heap}
end
end FT


/-! need_users -/
namespace FT
open PySem L2 TL ClX
section
variable {P : Program} {w : World} {K : PySem.W.Frag} {mg : Str → Option Value} {base : Heap}
end
end FT


/-! need_parents of any dict of texts whose keys are names -/
namespace FT
open PySem L2 TL ClX
/-- a parent that is no place -/
def badB (t : List (Str × Str)) (a : Str) : Bool := match par t a with
  | some z => decide (z ≠ "") && decide (z ∉ t.map Prod.fst)
  | none => false
theorem badB_root {t : List (Str × Str)} {a : Str} (h : par t a = some ("" : Str)) : badB t a = false := by unfold badB; rw [h] <;> rfl
theorem badB_key {t : List (Str × Str)} {a z : Str} (h : par t a = some z) (m : z ∈ t.map Prod.fst) : badB t a = false := by
  unfold badB
  rw [h]
  show (decide _ && decide _) = false
  rw [decide_eq_false (show ¬ z ∉ t.map Prod.fst from fun n => n m), Bool.and_false]
theorem badB_yes {t : List (Str × Str)} {a z : Str} (h : par t a = some z) (n : z ≠ "") (m : z ∉ t.map Prod.fst) : badB t a = true := by
  unfold badB
  rw [h]
  show (decide _ && decide _) = true
  rw [decide_eq_true n, decide_eq_true m] <;> rfl
def badF (t : List (Str × Str)) (a : Str) : Bool := badB t a || ringB t a
/-- what the error names, if there is one -/
def DueF (t : List (Str × Str)) (o : Option V) : Prop := (¬ (1 ≤ t.length ∧ t.length ≤ 12) ∧ o = some .non) ∨ ((1 ≤ t.length ∧ t.length ≤ 12) ∧ ∃ ys : List Str, ys.Perm (t.map Prod.fst) ∧ PyProof.Rows.sortedS ys = true ∧ o = (ys.find? (badF t)).map V.str)
theorem find_atF {ys : List Str} {f : Str → Bool} : ∀ {j : Nat} {a : Str}, ys[j]? = some a → (∀ (i : Nat) (b : Str), i < j → ys[i]? = some b → f b = false) → f a = true → some (V.str a) = (ys.find? f).map V.str := by
  induction ys with
  | nil => exact fun h => nomatch h
  | cons y ys ih =>
    intro j a h ok e
    cases j with
    | zero =>
      have : y = a := Option.some.inj h
      rw [List.find?_cons, this, e] <;> rfl
    | succ j =>
      rw [List.find?_cons, ok 0 y (Nat.succ_pos j) rfl]
      exact ih (j := j) h (fun i b l hb => ok (i + 1) b (by omega) hb) e
theorem find_non {ys : List Str} {f : Str → Bool} (ok : ∀ (i : Nat) (b : Str), ys[i]? = some b → f b = false) : none = (ys.find? f).map V.str := by
  have : ys.find? f = none := List.find?_eq_none.mpr fun x hx => by
    obtain ⟨i, hi⟩ := List.mem_iff_getElem?.mp hx
    rw [ok i x hi]
    exact Bool.false_ne_true
  rw [this] <;> rfl
theorem ok_next {ys : List Str} {f : Str → Bool} {j : Nat} {a : Str} (ok : ∀ (i : Nat) (b : Str), i < j → ys[i]? = some b → f b = false) (ha : ys[j]? = some a) (e : f a = false) : ∀ (i : Nat) (b : Str), i < j + 1 → ys[i]? = some b → f b = false := by
  intro i b l h
  rcases Nat.lt_or_ge i j with l' | l'
  · exact ok i b l' h
  · have : i = j := by omega
    subst this
    rw [ha] at h
    rw [← Option.some.inj h]
    exact e
def NeedR (CI : Addr) (H : Hp) (Q : VK) (E : XK) : Option V → Prop
  | none => ∀ H', Same H H' → Q .non H'
  | some v => Out H E (.e1 CI "name" v)
def spNeedR (CI : Addr) : Sp := fun vs H Q E => ∃ (q : Addr) (t : List (Str × Str)), vs = [.ref q] ∧ H q = some (.dK (prs t)) ∧ (t.map Prod.fst).Nodup ∧ (∀ z ∈ t.map Prod.fst, NameL z) ∧ t.length ≤ 20000 ∧ ∀ o, DueF t o → NeedR CI H Q E o
section
variable {P : Program} {w : World} {K : PySem.W.Frag} {mg : Str → Option Value} {base : Heap}
theorem ok_needR {f fI fA CF CI II : Addr} {mc : Value} {fd fdI fdA dI : FuncData} (F : Fun K "need_parents" "need_parents" s_need_parents f fd) (T : Nm mg) (C : Cs mg) (Z : Fc K mg CF mc)
    (FI : Dn P w K mg base CX0 1 "is_name" ["value"] spIsNameW fI fdI) (FA : Dn P w K mg base CX0 1 "is_ancestor" ["parents", "name"] spIsAncR fA fdA) (S : Er1 P w K mg base "InvalidForest" "name" CI II dI) : FnOk P w K mg base (L2.CX P w) 3 f fd ["parents"] (spNeedR CI) := by
  obtain ⟨um, cm⟩ := Z.most
  obtain ⟨ur, cr⟩ := Z.root
  refine F.okX scNeed (fun vs H Q E h => ?_) (fun cdv A outer s H vs Q E hr h => ?_)
  · obtain ⟨q, t, rfl, _⟩ := h
    rfl
  · obtain ⟨q, t, rfl, hq, nd, nm, lt, k⟩ := h
    have hu := hu_of hr
    have hr1 : Room 1 _ := hr.mono (by decide)
    refine ⟨_, pss_cons (ps_if (PW.pt (pw_or (pt_not (pt_val (pe_callB call_isi (by rfl) T.isi (by decide +kernel) (pa_cons (pv 0) (pa_cons (pe_bltn (v := .ty "dict") (u := .type "dict") (by rfl) T.dct (by decide +kernel) rfl) pa_nil)))))
        (pw_or1 (pt_not (pt_chain op_le op_le pe_int (pe_callB call_lenD (by rfl) T.len PySem.boot_len (pa_cons (pv 0) pa_nil)) (pe_cval (pe_glob (v := .ref CF) (by rfl) Z.gF rfl))))))) (pss_one (ps_err1 S rfl (takes_of rfl rfl rfl rfl) hr rfl pe_non)) pss_nil)
      (pss_cons (ps_if (pt_not (pt_val (pe_callB (cr_all rfl) (by rfl) T.all (by decide +kernel) (pa_cons (pe_lock (pe_lc (own := [("name", 1)]) (g := gName 1) (tt := tYes) rfl scNeed.nd (pi_keys (pv 0))
        (blkOk_by (N := ["parents", "name", "above", "other"]) (sc := defScope s_need_parents) (by decide +kernel))
        (fun _ _ _ _ _ => pg_name (i := 1) scNeed.nd rfl (Or.inl rfl)) (fun _ _ _ _ _ => pts_nil) (fun _ _ _ _ _ => pe_call FI.ok hr1 rfl FI.mgn FI.kp FI.bn .nil pass0 (pa_cons (pv 1) pa_nil)))) pa_nil)))) (pss_one (ps_err1 S rfl (takes_of rfl rfl rfl rfl) hr rfl pe_non)) pss_nil)
      (pss_one (ps_for (passes_of rfl) rfl (pi_list (pe_callB (call_sortedD rfl) (by rfl) T.srt (by decide +kernel) (pa_cons (pv 0) pa_nil))) (pg_name (i := 1) scNeed.nd rfl (.inl rfl))
        (pss_cons (ps_set (i := 2) scNeed.nd rfl (.inl rfl) (pe_dget hu (pv 0) (pv 1) (fun _ _ => rfl)))
        (pss_cons (ps_if (PW.pt (pw_or (pt_not (pt_val (pe_callB call_isi (by rfl) T.isi (by decide +kernel) (pa_cons (pv 2) (pa_cons (pe_bltn (v := .ty "str") (u := .type "str") (by rfl) T.str (by decide +kernel) rfl) pa_nil)))))
          (pw_or1 (PW.pt (pw_and (pt_cmpR op_ne (pv 2) (pe_cval (pe_glob (v := .ref CF) (by rfl) Z.gF rfl)) (nomark _)) (pw_and1 (pt_cmp (pc_dnotin hu (pv 2) (pv 0))))))))) (pss_one (ps_err1 S rfl (takes_of rfl rfl rfl rfl) hr rfl (pv 1))) pss_nil)
        (pss_one (ps_if (pt_val (pe_call FA.ok hr1 rfl FA.mgn FA.kp FA.bn .nil pass0 (pa_cons (pe_lock (pe_dc (own := [("other", 3)]) (g := gName 3) (tt := tB (tCB (rIsi K) (tCons (tDGet (tVar 0) (tVar 3)) (tCons (tC (.ty "str")) tNil)))) rfl scNeed.nd (pi_keys (pv 0))
          (blkOk_by (N := ["parents", "name", "above", "other"]) (sc := defScope s_need_parents) (by decide +kernel))
          (fun _ _ _ _ _ => pg_name (i := 3) scNeed.nd rfl (Or.inl rfl)) (fun _ _ _ _ _ => pts_one (pt_val (pe_callB call_isi (by rfl) T.isi (by decide +kernel) (pa_cons (pe_dget hu (pv 0) (pv 3) (fun _ _ => rfl)) (pa_cons (pe_bltn (v := .ty "str") (u := .type "str") (by rfl) T.str (by decide +kernel) rfl) pa_nil)))))
          (fun _ _ _ _ _ => pv 3) (fun _ _ _ _ _ => pe_dget hu (pv 0) (pv 3) (fun _ _ => rfl)))) (pa_cons (pv 1) pa_nil)))) (pss_one (ps_err1 S rfl (takes_of rfl rfl rfl rfl) hr rfl (pv 1))) pss_nil))))))), ?_⟩
    have big : 30000 ≤ sizeLine := by decide
    have lp := prs_len t
    -- a dict, of one to twelve
    refine ⟨_, rfl, .ref q, _, _, _, true, rfl, .ty _, .base (.dK hq), kit_ty (by decide +kernel), true, rfl, ?_⟩
    refine iteF ?_
    refine ⟨_, rfl, q, _, rfl, hq, _, _, rfl, rfl, _, rfl, ?_⟩
    by_cases one : 1 ≤ t.length
    case neg =>
      rw [if_neg (show ¬ decide ((1 : Int) ≤ ((prs t).length : Int)) = true by rw [decide_eq_true_eq, lp]; omega)]
      refine ⟨_, rfl, ?_⟩
      exact iteT (out1 (k (some .non) (.inl ⟨fun h => one h.1, rfl⟩)) Same.refl)
    rw [if_pos (decide_eq_true (by omega))]
    refine ⟨CF, mc, _, um, rfl, Z.rd, cm, _, _, rfl, rfl, _, rfl, ?_⟩
    by_cases few : t.length ≤ 12
    case neg =>
      rw [decide_eq_false (show ¬ ((prs t).length : Int) ≤ 12 by omega)]
      exact iteT (out1 (k (some .non) (.inl ⟨fun h => few h.2, rfl⟩)) Same.refl)
    rw [decide_eq_true (show ((prs t).length : Int) ≤ 12 by omega)]
    refine iteF ?_
    -- all are names
    refine ⟨q, .dK (prs t), hq, trivial, fun od => ⟨_, rfl, q, od, rfl, .inl ⟨prs t, upd_same, fun D nD => ?_⟩⟩⟩
    have Dq : D ≠ q := (ne_of_none upd_same nD).symm
    have key : ∀ {i : Nat} {k : Key} {v : V}, (prs t)[i]? = some (k, v) → ∃ a p : Str, k = Sum.inr a ∧ v = .str p ∧ t[i]? = some (a, p) := fun {i k v} h => by
      unfold prs kvT at h
      rw [List.map_map, List.getElem?_map] at h
      obtain ⟨⟨a, p⟩, hp, e⟩ := Option.map_eq_some_iff.mp h
      cases e
      exact ⟨a, p, rfl, rfl, hp⟩
    refine lc_it walk_keys (fun i H' => Same (upd H q (.frz od (.dK (prs t)))) H' ∧ H' D = some (.lst ((List.replicate i true).map V.bl))) ⟨same_new nD, upd_same⟩ (fun i H' _ z => z.1 q _ upd_same) ?_ ?_
    · intro i x Ha Hb hi ⟨q1, q2⟩ ⟨e, k', v, hk, ex⟩
      subst e
      subst ex
      obtain ⟨a, p, rfl, rfl, hp⟩ := key hk
      refine ⟨rfl, ?_⟩
      have na := nm a (List.mem_map.mpr ⟨(a, p), List.mem_of_getElem? hp, rfl⟩)
      refine ⟨_, rfl, a, rfl, by have := na.len; omega, fun H' s' => ?_⟩
      rw [nmB_yes na]
      refine ⟨_, s' D _ q2, ?_, ?_, ?_⟩
      · rw [List.length_map, List.length_replicate]
        omega
      · intro b u e
        rw [upd_ne (ne_of_none e nD)]
        exact s' _ _ (q1 b u e)
      · rw [upd_same, List.replicate_succ', List.map_append] <;> rfl
    intro H1 ⟨q1, q2⟩
    refine ⟨q1 q _ upd_same, D, _, rfl, SqL.of (by rw [upd_ne Dq]; exact q2), true, by rw [show (List.replicate (prs t).length true).all id = true by simp], ?_⟩
    refine iteF ?_
    have s1 : Same H (upd H1 q (.dK (prs t))) := unlock_same hq q1
    -- one by one, in their order
    refine ⟨_, rfl, q, prs t, t.map Prod.fst, rfl, .inl upd_same, prs_keys t, by rw [List.length_map]; omega, fun ys p perm srt np => ⟨p, rfl, ⟨_, SqL.of upd_same⟩, ?_⟩⟩
    obtain ⟨H2, e2⟩ : ∃ X, X = upd (upd H1 q (.dK (prs t))) p (.lst (ys.map V.str)) := ⟨_, rfl⟩
    have s2 : Same H H2 := s1.trans (e2 ▸ same_new np)
    have at2 : H2 p = some (.lst (ys.map V.str)) := by rw [e2]; exact upd_same
    rw [← e2]
    refine for_it walk_list (fun j σ' H' => (∃ u1 u2 u3, σ' = [some (.ref q), u1, u2, u3]) ∧ Same H2 H' ∧ ∀ (i : Nat) (b : Str), i < j → ys[i]? = some b → badF t b = false) ⟨⟨_, _, _, rfl⟩, fun _ _ e => e, fun i b h => absurd h (Nat.not_lt_zero _)⟩ (fun j σ' H' _ z => SqL.of (z.2.1 _ _ at2)) ?_ ?_
    · intro j x σ' Ha Hb hj ⟨⟨u1, u2, u3, e⟩, sa, okj⟩ ⟨eb, ex⟩
      subst e
      subst eb
      rw [List.getElem?_map] at ex
      obtain ⟨a, ha, rfl⟩ := Option.map_eq_some_iff.mp ex
      have ma : a ∈ t.map Prod.fst := perm.mem_iff.mp (List.mem_of_getElem? ha)
      obtain ⟨pa, hv⟩ := par_some nd ma
      have hit : badF t a = true → Out Hb E (.e1 CI "name" (.str a)) := fun e => Out.mono (s2.trans sa) (k (some (.str a)) (.inr ⟨⟨one, few⟩, ys, perm, srt, find_atF ha (fun i b l h => okj i b l h) e⟩))
      have s0a : Same H Hb := s2.trans sa
      have hqa := s0a _ _ hq
      refine ⟨_, rfl, _, rfl, q, V.str pa, rfl, by have z := DGet.k (k := Sum.inr a) hqa; rw [val_prs, hv] at z; exact z, ?_⟩
      refine ⟨_, rfl, .str pa, _, _, _, true, rfl, .ty _, .base (.str pa), kit_ty (by decide +kernel), true, rfl, ?_⟩
      refine iteF ?_
      by_cases e : pa = ""
      case' pos =>
        have okn : ringB t a = false → ∀ (i : Nat) (b : Str), i < j + 1 → ys[i]? = some b → badF t b = false := fun er => ok_next okj ha (by unfold badF; rw [er, badB_root (by rw [hv, e])]; rfl)
        subst e
        refine ⟨_, rfl, CF, mc, _, ur, rfl, Z.rd, cr, rfl, _, rfl, ?_⟩
        rw [decide_eq_true rfl]
        refine iteF ?_
        refine iteF ?_
      case' neg =>
        refine ⟨_, rfl, CF, mc, _, ur, rfl, Z.rd, cr, rfl, _, rfl, ?_⟩
        rw [decide_eq_false (show ¬ V.str pa = V.str "" from fun z => e (V.str.inj z))]
        show if true = true then _ else _
        rw [if_pos rfl]
        have dg := DGet.k (k := Sum.inr pa) hqa
        rw [val_prs] at dg
        refine ⟨_, rfl, _, rfl, q, _, rfl, dg, _, rfl, ?_⟩
        by_cases hp : pa ∈ t.map Prod.fst
        case neg =>
          rw [par_none hp]
          exact iteT ⟨_, rfl, out1 (hit (by unfold badF; rw [badB_yes hv e hp, Bool.true_or])) Same.refl⟩
        obtain ⟨pp, hv2⟩ := par_some nd hp
        have okn : ringB t a = false → ∀ (i : Nat) (b : Str), i < j + 1 → ys[i]? = some b → badF t b = false := fun er => ok_next okj ha (by unfold badF; rw [er, badB_key hv hp]; rfl)
        rw [hv2]
        refine iteF ?_
      all_goals
        refine ⟨q, .dK (prs t), hqa, trivial, fun od => ⟨_, rfl, q, od, rfl, .inl ⟨prs t, upd_same, fun D nD => ?_⟩⟩⟩
        have Dq : D ≠ q := (ne_of_none upd_same nD).symm
        refine dc_it walk_keys (fun i H' => Same (upd Hb q (.frz od (.dK (prs t)))) H' ∧ H' D = some (.dK (prs (t.take i)))) ⟨same_new nD, upd_same⟩ (fun i H' _ z => z.1 q _ upd_same) ?_ ?_
        · intro i x Hc Hd hi ⟨q1, q2⟩ ⟨e, k', v, hk, ex⟩
          subst e
          subst ex
          obtain ⟨b, r', rfl, rfl, hp⟩ := key hk
          have fz := q1 q _ upd_same
          have dg : DGet Hd q (.str b) (some (.str r')) := .inl ⟨prs t, Sum.inr b, .inr ⟨od, fz⟩, rfl, by rw [val_prs, par_of nd (List.mem_of_getElem? hp)] <;> rfl⟩
          have nb : b ∉ (t.take i).map Prod.fst := fun hm => by
            rw [List.map_take] at hm
            obtain ⟨j, hj⟩ := List.mem_iff_getElem?.mp hm
            have jl := (List.getElem?_eq_some_iff.mp hj).1
            rw [List.length_take] at jl
            rw [List.getElem?_take, if_pos (by omega)] at hj
            have e0 : (t.map Prod.fst)[i]? = some b := by rw [List.getElem?_map, hp] <;> rfl
            have := (List.getElem?_inj (by omega) nd).mp (hj.trans e0.symm)
            omega
          refine ⟨rfl, ?_⟩
          refine ⟨_, rfl, _, rfl, q, _, rfl, dg, .str r', _, _, _, true, rfl, .ty _, .base (.str r'), kit_ty (by decide +kernel), true, rfl, ?_⟩
          show if true = true then _ else _
          rw [if_pos rfl]
          refine ⟨_, rfl, _, rfl, _, rfl, q, _, rfl, dg, prs (t.take i), Sum.inr b, rfl, q2, ?_, ?_, ?_⟩
          · rw [prs_len, List.length_take]
            omega
          · intro c u e
            rw [upd_ne (ne_of_none e nD)]
            exact q1 c u e
          · rw [upd_same, put_new nb, take_more hp]
        · intro Hc ⟨q1, q2⟩
          rw [lp, List.take_length] at q2
          refine ⟨q1 q _ upd_same, _, rfl, D, a, t, rfl, by rw [upd_ne Dq]; exact q2, nd, few, ma, fun H' s' => ⟨_, rfl, ?_⟩⟩
          cases er : ringB t a with
          | true => exact iteT ⟨_, rfl, out1 (Out.mono ((unlock_same hqa q1).trans s') (hit (by unfold badF; rw [er, Bool.or_true]))) Same.refl⟩
          | false => exact iteF ⟨⟨_, _, _, rfl⟩, (sa.trans (unlock_same hqa q1)).trans s', okn er⟩
    · intro σ' H' ⟨_, sa, okj⟩
      have lz : (List.map V.str ys).length = ys.length := List.length_map ..
      exact k none (.inr ⟨⟨one, few⟩, ys, perm, srt, find_non fun i b h => okj i b (by have := (List.getElem?_eq_some_iff.mp h).1; omega) h⟩) H' (s2.trans sa)
end
end FT


/-! Forest.__init__ of any dict of texts whose keys are names -/
namespace FT
open PySem L2 TL ClX
theorem due_tree {t : List (Str × Str)} (nd : (t.map Prod.fst).Nodup) (nm : ∀ z ∈ t.map Prod.fst, NameL z) (h : DueF t none) : TreeOk t := by
  rcases h with ⟨_, e⟩ | ⟨⟨l1, l2⟩, ys, perm, _, e⟩
  · cases e
  · have all : ∀ a ∈ t.map Prod.fst, badF t a = false := fun a ha => by
      have n : ys.find? (badF t) = none := by
        cases z : ys.find? (badF t) with
        | none => rfl
        | some y => rw [z] at e; cases e
      exact Bool.eq_false_iff.mpr (List.find?_eq_none.mp n a (perm.mem_iff.mpr ha))
    refine treeR_of l1 l2 nd nm (fun a ha ⟨z, hz, n, m⟩ => ?_) fun a ha r => ?_
    · have := all a ha
      unfold badF at this
      rw [badB_yes hz n m] at this
      cases this
    · have := all a ha
      unfold badF at this
      rw [ringB_yes r, Bool.or_true] at this
      cases this
def FInR (CF CI x : Addr) (t : List (Str × Str)) (H : Hp) (Q : VK) (E : XK) : Option V → Prop
  | none => ∀ (H' : Hp) (ts : List (Str × Str)), ts.Perm t → Asc ts → FAt CF H' x ts → (∀ b o, b ≠ x → H b = some o → H' b = some o) → Q .non H'
  | some v => Out H E (.e1 CI "name" v)
def spFInitR (CF CI : Addr) : Sp := fun vs H Q E => ∃ (x q dx : Addr) (t : List (Str × Str)), vs = [.ref x, .ref q] ∧ H x = some (.ins CF dx []) ∧ H q = some (.dK (prs t)) ∧ (t.map Prod.fst).Nodup ∧ (∀ z ∈ t.map Prod.fst, NameL z) ∧ t.length ≤ 20000 ∧ ∀ o, DueF t o → FInR CF CI x t H Q E o
section
variable {P : Program} {w : World} {K : PySem.W.Frag} {mg : Str → Option Value} {base : Heap}
theorem ok_finitR {f fN CF CI : Addr} {fd fdN : FuncData} (F : Fun K "__init__" "Forest.__init__" s_Forest___init__ f fd) (T : Nm mg) (O : FoC K CF) (GN : Dn P w K mg base (L2.CX P w) 3 "need_parents" ["parents"] (spNeedR CI) fN fdN) :
    FnOk P w K mg base (L2.CX P w) 4 f fd ["self", "parents"] (spFInitR CF CI) := by
  refine F.okX scFInit (fun vs H Q E h => ?_) (fun cdv A outer s H vs Q E hr h => ?_)
  · obtain ⟨x, q, dx, t, rfl, _⟩ := h
    rfl
  · obtain ⟨x, q, dx, t, rfl, hx, hq, nd, nm, lt0, k⟩ := h
    have hu := hu_of hr
    refine ⟨_, pss_cons (ps_expr (pe_call GN.ok hr rfl GN.mgn GN.kp GN.bn .nil (passes_call (takes_of rfl rfl rfl rfl) (fun _ _ _ _ h => h)) (pa_cons (pv 1) pa_nil)))
      (pss_one (ps_fld (pv 0) (pe_dc (own := [("name", 2)]) (g := gName 2) (tt := tYes) rfl scFInit.nd (pi_list (pe_callB (call_sortedD rfl) (by rfl) T.srt (by decide +kernel) (pa_cons (pv 1) pa_nil)))
        (blkOk_by (N := ["self", "parents", "name"]) (sc := defScope s_Forest___init__) (by decide +kernel))
        (fun _ _ _ _ _ => pg_name (i := 2) scFInit.nd rfl (Or.inl rfl)) (fun _ _ _ _ _ => pts_nil) (fun _ _ _ _ _ => pv 2) (fun _ _ _ _ _ => pe_dget hu (pv 1) (pv 2) (fun _ _ => rfl))) rfl)), ?_⟩
    have big : 1000 ≤ sizeLine := by decide
    refine ⟨_, rfl, q, t, rfl, hq, nd, nm, lt0, fun od due => ?_⟩
    have k := k od due
    cases od with
    | some v => exact k
    | none =>
    intro H1 s1
    have o := due_tree nd nm due
    have few := o.few
    have hq1 := s1 _ _ hq
    refine ⟨_, rfl, q, prs t, t.map Prod.fst, rfl, .inl hq1, prs_keys t, by rw [List.length_map]; omega, fun ys p perm srt np => ⟨p, rfl, ⟨_, SqL.of upd_same⟩, fun D nD => ?_⟩⟩
    obtain ⟨H2, e2⟩ : ∃ X, X = upd H1 p (.lst (ys.map V.str)) := ⟨_, rfl⟩
    have s2 : Same H H2 := s1.trans (e2 ▸ same_new np)
    have at2 : H2 p = some (.lst (ys.map V.str)) := by rw [e2]; exact upd_same
    rw [← e2] at nD ⊢
    have ndy : ys.Nodup := perm.nodup_iff.mpr o.nd
    have ly := perm.length_eq
    rw [List.length_map] at ly
    refine dc_it walk_list (fun i H' => Same H2 H' ∧ ∃ ts : List (Str × Str), H' D = some (.dK (prs ts)) ∧ ts.map Prod.fst = ys.take i ∧ ∀ p ∈ ts, p ∈ t) ⟨same_new nD, [], upd_same, by rw [List.take_zero] <;> rfl, fun p h => by cases h⟩ (fun i H' _ z => SqL.of (z.1 _ _ at2)) ?_ ?_
    · intro i y Ha Hb hi ⟨q1, ts, hD, ets, hts⟩ ⟨eb, ex⟩
      subst eb
      rw [List.getElem?_map] at ex
      obtain ⟨a, ha, rfl⟩ := Option.map_eq_some_iff.mp ex
      have ma : a ∈ t.map Prod.fst := perm.mem_iff.mp (List.mem_of_getElem? ha)
      obtain ⟨pa, hv⟩ := par_some o.nd ma
      have hqa := q1 _ _ (s2 _ _ hq)
      have fresh : a ∉ ts.map Prod.fst := by
        rw [ets]
        intro hm
        obtain ⟨j, hj⟩ := List.mem_iff_getElem?.mp hm
        have jl := (List.getElem?_eq_some_iff.mp hj).1
        have il := (List.getElem?_eq_some_iff.mp ha).1
        rw [List.length_take] at jl
        rw [List.getElem?_take, if_pos (by omega)] at hj
        have := (List.getElem?_inj (by omega) ndy).mp (hj.trans ha.symm)
        omega
      have lt := congrArg List.length ets
      rw [List.length_map, List.length_take] at lt
      refine ⟨rfl, ?_⟩
      refine ⟨_, rfl, _, rfl, _, rfl, q, V.str pa, rfl, by have z := DGet.k (k := Sum.inr a) hqa; rw [val_prs, hv] at z; exact z, prs ts, Sum.inr a, rfl, hD, by rw [prs_len]; omega, ?_, ts ++ [(a, pa)], ?_, ?_, fun z hz => ?_⟩
      · intro b u e
        rw [upd_ne (ne_of_none e nD)]
        exact q1 b u e
      · rw [upd_same, put_new fresh]
      · rw [List.map_append, ets, take_more ha] <;> rfl
      · rcases List.mem_append.mp hz with h | h
        · exact hts z h
        · rw [List.mem_singleton.mp h]
          exact par_mem hv
    · intro H3 ⟨q1, ts, hD, ets, hts⟩
      rw [List.length_map, List.take_length] at ets
      have s3 : Same H H3 := s2.trans q1
      refine ⟨_, rfl, x, CF, dx, [], rfl, s3 _ _ hx, O.cl, O.nA, by show 0 < 1000; decide, ?_⟩
      have xD : D ≠ x := (ne_of_none (s2 _ _ hx) nD).symm
      refine k _ ts (perm_pairs o.nd (by rw [ets]; exact perm) hts) (by unfold Asc; rw [ets]; exact srt) ⟨dx, D, upd_same, by rw [upd_ne xD]; exact hD⟩ fun b u bx e => ?_
      rw [upd_ne bx]
      exact s3 b u e
end
end FT


/-! rows of a forest's text, plain: by partition, by split -/
namespace FT
open PySem L2 TL ClX
/-- what may stand behind the blank -/
def upOk (b : Str) : Prop := b = "-" ∨ NameL b
/-- a row of a forest's text -/
def IsRow (r a b : Str) : Prop := NameL a ∧ upOk b ∧ r = a ++ " " ++ b
theorem name_free {a : Str} (h : NameL a) : (32 : Nat) ∉ tl a := fun m => by
  have := (h.1 32 m).1
  omega
theorem up_free {b : Str} (h : upOk b) : (32 : Nat) ∉ tl b := by
  rcases h with rfl | h
  · show (32 : Nat) ∉ [45]
    simp
  · exact name_free h
theorem up_empty : ¬ upOk "" := by
  rintro (h | h)
  · exact absurd (congrArg tl h) (by show ¬ ([] : List Nat) = [45]; simp)
  · have : 1 ≤ ([] : List Nat).length := h.2.1
    exact absurd this (by simp)
theorem row_part {r a b : Str} (h : IsRow r a b) : Txt.partition r " " = (a, (" " : Str), b) := by
  obtain ⟨n, _, e⟩ := h
  rw [e]
  exact TL.partition_app (s := 32) (S := []) rfl (name_free n)
theorem part_row {r : Str} (n : NameL (Txt.partition r " ").1) (u : upOk (Txt.partition r " ").2.2) : IsRow r (Txt.partition r " ").1 (Txt.partition r " ").2.2 := by
  refine ⟨n, u, ?_⟩
  have sum := PySem.StrLaws.partition_sum r " "
  rcases PyProof.Rows.partition_whole r " " with ⟨e, _⟩ | ⟨i, e, _⟩
  · rw [e] at u
    exact absurd u up_empty
  · rw [e] at sum ⊢
    exact sum.symm
theorem row_split {r a b : Str} (h : IsRow r a b) : Txt.split r " " = [a, b] := by
  obtain ⟨n, u, e⟩ := h
  have := TL.split_join (y := " ") (s := 32) (S := []) rfl (by decide +kernel) (parts := [a, b]) (by simp) (fun p hp => by
    rcases List.mem_cons.mp hp with rfl | hp
    · exact name_free n
    · rw [List.mem_singleton.mp hp]
      exact up_free u)
  rw [TL.join_eq] at this
  rw [e]
  exact this
theorem split_row {r a b : Str} (h : Txt.split r " " = [a, b]) : r = a ++ " " ++ b := by
  have := PySem.StrLaws.join_split r " "
  rw [h] at this
  exact this.symm
def okUp (b : Str) : Bool := decide (b = "-") || nmB b
theorem okUp_iff {b : Str} : okUp b = true ↔ upOk b := by
  unfold okUp nmB upOk
  rw [Bool.or_eq_true, decide_eq_true_eq, decide_eq_true_eq]
def plcF (b : Str) : Str := if b = "-" then "" else b
/-- what a row says -/
def rowOf (r : Str) : Option (Str × Str) := if nmB (Txt.partition r " ").1 && okUp (Txt.partition r " ").2.2 then some ((Txt.partition r " ").1, plcF (Txt.partition r " ").2.2) else none
theorem rowOf_some {r a b : Str} (h : IsRow r a b) : rowOf r = some (a, plcF b) := by
  unfold rowOf
  rw [row_part h, if_pos]
  rw [Bool.and_eq_true]
  exact ⟨nmB_yes h.1, okUp_iff.mpr h.2.1⟩
theorem rowOf_is {r : Str} {p : Str × Str} (h : rowOf r = some p) : ∃ b, IsRow r p.1 b ∧ p.2 = plcF b := by
  unfold rowOf at h
  split at h
  · rename_i z
    obtain ⟨h1, h2⟩ := (Bool.and_eq_true _ _).mp z
    cases h
    exact ⟨_, part_row (of_decide_eq_true h1) (okUp_iff.mp h2), rfl⟩
  · cases h
theorem rowOf_split {r : Str} {p : Str × Str} (h : rowOf r = some p) : ∃ b, Txt.split r " " = [p.1, b] ∧ NameL p.1 ∧ upOk b ∧ p.2 = plcF b := by
  obtain ⟨b, ir, e⟩ := rowOf_is h
  exact ⟨b, row_split ir, ir.1, ir.2.1, e⟩
/-- the rows, one by one: the line of the first bad one, or the parents -/
def pars (t : List (Str × Str)) : List Str → Nat → Nat ⊕ List (Str × Str)
  | [], _ => .inr t
  | r :: rs, i => match rowOf r with
    | none => .inl i
    | some p => if p.1 ∈ t.map Prod.fst then .inl i else pars (t ++ [p]) rs (i + 1)
theorem pars_end {t : List (Str × Str)} {i : Nat} : pars t [] i = .inr t := rfl
theorem pars_none {t : List (Str × Str)} {r : Str} {rs : List Str} {i : Nat} (h : rowOf r = none) : pars t (r :: rs) i = .inl i := by
  show (match rowOf r with | none => _ | some p => _) = _
  rw [h]
theorem pars_twice {t : List (Str × Str)} {r : Str} {rs : List Str} {i : Nat} {p : Str × Str} (h : rowOf r = some p) (m : p.1 ∈ t.map Prod.fst) : pars t (r :: rs) i = .inl i := by
  show (match rowOf r with | none => _ | some p => _) = _
  rw [h]
  exact if_pos m
theorem pars_next {t : List (Str × Str)} {r : Str} {rs : List Str} {i : Nat} {p : Str × Str} (h : rowOf r = some p) (m : p.1 ∉ t.map Prod.fst) : pars t (r :: rs) i = pars (t ++ [p]) rs (i + 1) := by
  show (match rowOf r with | none => _ | some p => _) = _
  rw [h]
  exact if_neg m
/-- what parsing is to give -/
inductive TDue
  | line (i : Nat)
  | name (v : V)
  | tree (t : List (Str × Str))
def DueT (z : Str) : TDue → Prop
  | .line i => pars [] (Txt.split z "\n").dropLast 0 = .inl i ∨ ∃ t, pars [] (Txt.split z "\n").dropLast 0 = .inr t ∧ ((Txt.split z "\n").getLast? ≠ some ("" : Str) ∨ t = []) ∧ i = (Txt.split z "\n").dropLast.length
  | .name v => ∃ t, pars [] (Txt.split z "\n").dropLast 0 = .inr t ∧ (Txt.split z "\n").getLast? = some ("" : Str) ∧ t ≠ [] ∧ DueF t (some v)
  | .tree t => pars [] (Txt.split z "\n").dropLast 0 = .inr t ∧ (Txt.split z "\n").getLast? = some ("" : Str) ∧ t ≠ [] ∧ DueF t none
theorem dueF_one {t : List (Str × Str)} {a b : Option V} (h1 : DueF t a) (h2 : DueF t b) : a = b := by
  rcases h1 with ⟨n1, e1⟩ | ⟨l1, ys, p1, s1, e1⟩
  · rcases h2 with ⟨_, e2⟩ | ⟨l2, _⟩
    · rw [e1, e2]
    · exact absurd l2 n1
  · rcases h2 with ⟨n2, _⟩ | ⟨_, zs, p2, s2, e2⟩
    · exact absurd l1 n2
    · rw [e1, e2, sorted_one (p1.trans p2.symm) s1 s2]
theorem dueT_one {z : Str} {a b : TDue} (h1 : DueT z a) (h2 : DueT z b) : a = b := by
  cases a with
  | line i =>
    cases b with
    | line j =>
      rcases h1 with h1 | ⟨t, h1, c1, e1⟩
      · rcases h2 with h2 | ⟨t2, h2, _, _⟩
        · rw [h1] at h2
          cases h2
          rfl
        · rw [h1] at h2
          cases h2
      · rcases h2 with h2 | ⟨t2, h2, _, e2⟩
        · rw [h1] at h2
          cases h2
        · rw [e1, e2]
    | name v =>
      obtain ⟨t2, h2, g, n, _⟩ := h2
      rcases h1 with h1 | ⟨t, h1, c1, e1⟩
      · rw [h1] at h2
        cases h2
      · rw [h1] at h2
        cases h2
        exact absurd c1 (fun c => c.elim (fun c => c g) fun c => n c)
    | tree t2 =>
      obtain ⟨h2, g, n, _⟩ := h2
      rcases h1 with h1 | ⟨t, h1, c1, e1⟩
      · rw [h1] at h2
        cases h2
      · rw [h1] at h2
        cases h2
        exact absurd c1 (fun c => c.elim (fun c => c g) fun c => n c)
  | name v =>
    obtain ⟨t, h1, g, n, d1⟩ := h1
    cases b with
    | line j =>
      rcases h2 with h2 | ⟨t2, h2, c2, e2⟩
      · rw [h1] at h2
        cases h2
      · rw [h1] at h2
        cases h2
        exact absurd c2 (fun c => c.elim (fun c => c g) fun c => n c)
    | name v2 =>
      obtain ⟨t2, h2, _, _, d2⟩ := h2
      rw [h1] at h2
      cases h2
      cases dueF_one d1 d2
      rfl
    | tree t2 =>
      obtain ⟨h2, _, _, d2⟩ := h2
      rw [h1] at h2
      cases h2
      cases dueF_one d1 d2
  | tree t =>
    obtain ⟨h1, g, n, d1⟩ := h1
    cases b with
    | line j =>
      rcases h2 with h2 | ⟨t2, h2, c2, e2⟩
      · rw [h1] at h2
        cases h2
      · rw [h1] at h2
        cases h2
        exact absurd c2 (fun c => c.elim (fun c => c g) fun c => n c)
    | name v2 =>
      obtain ⟨t2, h2, _, _, d2⟩ := h2
      rw [h1] at h2
      cases h2
      cases dueF_one d1 d2
    | tree t2 =>
      obtain ⟨h2, _, _, d2⟩ := h2
      rw [h1] at h2
      cases h2
      rfl
/-- what the parents of rows are -/
structure ParT (t : List (Str × Str)) : Prop where
  nd : (t.map Prod.fst).Nodup
  nm : ∀ a ∈ t.map Prod.fst, NameL a
theorem ParT.nil : ParT [] := ⟨List.nodup_nil, fun a h => by cases h⟩
theorem ParT.snoc {t : List (Str × Str)} {p : Str × Str} (h : ParT t) (n : NameL p.1) (m : p.1 ∉ t.map Prod.fst) : ParT (t ++ [p]) := by
  refine ⟨?_, fun a ha => ?_⟩
  · rw [List.map_append]
    refine List.nodup_append.mpr ⟨h.nd, by simp, fun a ha b hb => ?_⟩
    rw [List.mem_singleton.mp hb]
    exact fun e => m (e ▸ ha)
  · rw [List.map_append] at ha
    rcases List.mem_append.mp ha with ha | ha
    · exact h.nm a ha
    · rw [List.mem_singleton.mp ha]
      exact n
end FT


/-! _law_row, _law_below -/
namespace FT
open PySem L2 TL ClX
def dashS (p : Str) : Str := if p = "" then "-" else p
/-- the line of a flag -/
def rowTx (p a : Str) : Str := a ++ " " ++ dashS p ++ "\n"
/-- all flags below a place, parents first -/
def belowN (ts : List (Str × Str)) : Nat → Str → List Str
  | 0, _ => []
  | m + 1, a => ts.flatMap fun z => if z.2 = a then z.1 :: belowN ts m z.1 else []
theorem walk_below (ts : List (Str × Str)) : ∀ (m : Nat) (a : Str) (d : Int), (walkN ts m a d).map Prod.fst = belowN ts m a
  | 0, _, _ => rfl
  | m + 1, a, d => by
    show (ts.flatMap fun z => if z.2 = a then (z.1, d) :: walkN ts m z.1 (d + 1) else []).map Prod.fst = ts.flatMap fun z => if z.2 = a then z.1 :: belowN ts m z.1 else []
    rw [List.map_flatMap]
    congr 1
    funext z
    by_cases e : z.2 = a
    · rw [if_pos e, if_pos e, List.map_cons, walk_below ts m]
    · rw [if_neg e, if_neg e] <;> rfl
def spLRow : Sp := fun vs H Q _ => ∃ (q : Addr) (t : List (Str × Str)) (a p : Str), vs = [.ref q, .str a] ∧ Rd H q (.dK (prs t)) ∧ par t a = some p ∧ a.length ≤ 8 ∧ p.length ≤ 8 ∧ Q (.str (rowTx p a)) H
def spBelow (m : Nat) : Sp := fun vs H Q _ => ∃ (q : Addr) (t ts : List (Str × Str)) (a : Str), vs = [.ref q, .str a] ∧ H q = some (.dK (prs t)) ∧ ts.Perm t ∧ Asc ts ∧ TreeOk ts ∧ Pl ts a ∧ (pathOf ts a).length + m = ts.length + 1 ∧ (belowN ts m a).length ≤ 1000 ∧
  ∀ p H', Same H H' → H p = none → H' p = some (.lst ((belowN ts m a).map V.str)) → Q (.ref p) H'
abbrev NLr : List Str := ["_law_above", "_law_name"]
abbrev NBw : List Str := ["_law_above", "_law_spot", "_law_found", "_law_name"]
section
variable {P : Program} {w : World} {K : PySem.W.Frag} {mg : Str → Option Value} {base : Heap}
theorem scLr : FnScope NLr ["_law_above", "_law_name"] (defScope s__law_row) := ⟨rfl, rfl, rfl, by decide +kernel, rfl, by decide +kernel, by decide +kernel⟩
theorem scBw : FnScope NBw ["_law_above", "_law_spot"] (defScope s__law_below) := ⟨rfl, rfl, rfl, by decide +kernel, rfl, by decide +kernel, by decide +kernel⟩
theorem ok_lawRow {f : Addr} {fd : FuncData} (F : Fun K "_law_row" "_law_row" s__law_row f fd) : FnOk P w K mg base CX0 1 f fd ["_law_above", "_law_name"] spLRow := by
  refine F.ok scLr (fun vs H Q E h => ?_) (fun cdv A outer s H vs Q E hr h => ?_)
  · obtain ⟨q, t, a, p, rfl, _⟩ := h
    rfl
  · obtain ⟨q, t, a, p, rfl, hq, hp, la, lp, k⟩ := h
    have hu := hu_of hr
    have big : 1000 ≤ sizeLine := by decide
    refine ⟨_, pss_one (ps_ret (pe_op op_add_str (pe_op op_add_str (pe_op op_add_str (pv 1) pe_str) (pe_orT (pe_dget hu (pv 0) (pv 1) (fun _ _ => rfl)) (pe_one pe_str))) pe_str)), ?_⟩
    have l1 : (a ++ " ").length = a.length + 1 := by rw [Str.length_append] <;> rfl
    refine ⟨_, rfl, _, _, rfl, rfl, by show a.length + 1 ≤ sizeLine; omega, ?_⟩
    refine ⟨_, rfl, _, rfl, q, V.str p, rfl, dget_prs hq hp, _, ⟨by omega, rfl⟩, ?_⟩
    have fin : ∀ x : Str, x = dashS p → x.length ≤ 8 → (a ++ " ").length + x.length ≤ sizeLine ∧ (a ++ " " ++ x).length + 1 ≤ sizeLine ∧ Q (.str (a ++ " " ++ x ++ "\n")) H := fun x e l => by
      have l2 : (a ++ " " ++ x).length = a.length + 1 + x.length := by rw [Str.length_append, l1]
      refine ⟨by omega, by omega, ?_⟩
      rw [e]
      exact k
    by_cases e : p = ""
    · obtain ⟨z1, z2, z3⟩ := fin "-" (if_pos e).symm (by decide)
      subst e
      exact iteF ⟨_, _, rfl, rfl, z1, _, _, rfl, rfl, z2, z3⟩
    · have nl : p.length ≠ 0 := fun z => e (ext_tl (by rw [len_tl] at z; rw [List.length_eq_zero_iff.mp z] <;> rfl))
      obtain ⟨z1, z2, z3⟩ := fin p (if_neg e).symm lp
      rw [show ((p.length : Int) != 0) = true by rw [bne_iff_ne]; omega, if_pos rfl]
      exact ⟨_, _, rfl, rfl, z1, _, _, rfl, rfl, z2, z3⟩
theorem ok_belowS {f : Addr} {fd : FuncData} (F : Fun K "_law_below" "_law_below" s__law_below f fd) (T : Nm mg) (m : Nat) (D : Dn P w K mg base CX0 (m + 1) "_law_below" ["_law_above", "_law_spot"] (spBelow m) f fd) : FnOk P w K mg base CX0 (m + 2) f fd ["_law_above", "_law_spot"] (spBelow (m + 1)) := by
  refine F.ok scBw (fun vs H Q E h => ?_) (fun cdv A outer s H vs Q E hr h => ?_)
  · obtain ⟨q, t, ts, a, rfl, _⟩ := h
    rfl
  · obtain ⟨q, t, ts, a, rfl, hq, pts, asc, o, pl, hm, few, k⟩ := h
    have hu := hu_of hr
    have nd := scBw.nd
    have big : 4000 ≤ sizeLine := by decide
    have ndt : (t.map Prod.fst).Nodup := (pts.map Prod.fst).nodup_iff.mp o.nd
    have lts := o.few
    refine ⟨_, pss_cons (ps_set (i := 2) nd rfl (.inl rfl) (pe_lst pa_nil))
      (pss_cons (ps_for PassesOwn.never rfl (pi_list (pe_callB (call_sortedD rfl) (by rfl) T.srt (by decide +kernel) (pa_cons (pv 0) pa_nil))) (pg_name (i := 3) nd rfl (.inl rfl))
        (pss_one (ps_if (pt_cmpR op_eq (pe_dget hu (pv 0) (pv 3) (fun _ _ => rfl)) (pv 1) (nomark _))
          (pss_one (ps_set (i := 2) nd rfl (.inl rfl) (pe_op op_cat (pe_op op_cat (pv 2) (pe_lst (pa_cons (pv 3) pa_nil))) (pe_call D.ok hr rfl D.mgn D.kp D.bn .nil pass0 (pa_cons (pv 0) (pa_cons (pv 3) pa_nil)))))) pss_nil)))
      (pss_one (ps_ret (pv 2)))), ?_⟩
    refine ⟨by show 0 ≤ sizeLine; omega, fun l nl => ?_⟩
    have sl := same_new (o := .lst ([] : List V)) nl
    have hl0 := upd_same (H := H) (a := l) (o := .lst ([] : List V))
    obtain ⟨H1, e1⟩ : ∃ X, X = upd H l (.lst ([] : List V)) := ⟨_, rfl⟩
    rw [← e1] at sl hl0 ⊢
    have hq1 := sl _ _ hq
    refine ⟨_, rfl, q, prs t, t.map Prod.fst, rfl, .inl hq1, prs_keys t, by rw [List.length_map]; have := pts.length_eq; omega, fun ks p perm srt np => ?_⟩
    have eks : ks = ts.map Prod.fst := sorted_one (perm.trans (pts.map Prod.fst).symm) srt asc
    subst eks
    have s2 : Same H (upd H1 p (.lst ((ts.map Prod.fst).map V.str))) := sl.trans (same_new np)
    have at2 := upd_same (H := H1) (a := p) (o := .lst ((ts.map Prod.fst).map V.str))
    have hl2 := (same_new (o := .lst ((ts.map Prod.fst).map V.str)) np) _ _ hl0
    obtain ⟨H2, e2⟩ : ∃ X, X = upd H1 p (.lst ((ts.map Prod.fst).map V.str)) := ⟨_, rfl⟩
    rw [← e2] at s2 at2 hl2 ⊢
    obtain ⟨G, eG⟩ : ∃ G : Str × Str → List Str, G = fun z => if z.2 = a then z.1 :: belowN ts m z.1 else [] := ⟨_, rfl⟩
    have eW : belowN ts (m + 1) a = ts.flatMap G := by rw [eG] <;> rfl
    rw [eW] at few k
    refine ⟨p, rfl, ⟨_, SqL.of at2⟩, ?_⟩
    refine for_it walk_list (fun i σ' H' => ∃ (l : Addr) (u3 : Option V), σ' = [some (.ref q), some (.str a), some (.ref l), u3] ∧ Same H2 H' ∧ H l = none ∧ H' l = some (.lst (((ts.take i).flatMap G).map V.str)))
      ⟨l, _, rfl, Same.refl, nl, hl2⟩ (fun i σ' H' _ z => by obtain ⟨_, _, _, z, _⟩ := z; exact SqL.of (z _ _ at2)) ?_ ?_
    · intro i y σ' Ha Hb hi ⟨l, u3, e, sa, nl, hl⟩ ⟨eb, ex⟩
      subst e
      subst eb
      rw [List.getElem?_map] at ex
      obtain ⟨n, hn, rfl⟩ := Option.map_eq_some_iff.mp ex
      rw [List.getElem?_map] at hn
      obtain ⟨⟨n', pn⟩, hb, en⟩ := Option.map_eq_some_iff.mp hn
      cases en
      have mn : n' ∈ ts.map Prod.fst := List.mem_map.mpr ⟨_, List.mem_of_getElem? hb, rfl⟩
      have hp := par_of o.nd (List.mem_of_getElem? hb)
      have hpt : par t n' = some pn := by rw [← par_perm o.nd pts]; exact hp
      have st := path_step o mn hp
      have ln := path_len ts n'
      have tm : (ts.take (i + 1)).flatMap G = (ts.take i).flatMap G ++ G (n', pn) := by
        rw [take_more hb, List.flatMap_append, List.flatMap_cons, List.flatMap_nil, List.append_nil]
      have tot : ((ts.take i).flatMap G).length + (G (n', pn)).length ≤ 1000 := by
        have e : (ts.flatMap G).length = ((ts.take (i + 1)).flatMap G).length + ((ts.drop (i + 1)).flatMap G).length := by
          rw [← List.length_append, ← List.flatMap_append, List.take_append_drop]
        rw [tm, List.length_append] at e
        omega
      have s0 := s2.trans sa
      have hqa := s0 _ _ hq
      refine ⟨_, rfl, _, rfl, q, _, rfl, by have z := DGet.k (k := Sum.inr n') hqa; rw [val_prs, hpt] at z; exact z, _, rfl, rfl, _, rfl, ?_⟩
      by_cases e : pn = a
      · subst e
        rw [decide_eq_true rfl]
        refine iteT ?_
        have eGp : G (n', pn) = n' :: belowN ts m n' := by rw [eG]; exact if_pos rfl
        rw [eGp, List.length_cons] at tot
        rw [st, List.length_append, List.length_singleton] at ln
        refine ⟨_, rfl, _, rfl, by show 1 ≤ sizeLine; omega, fun p1 n1 => ?_⟩
        have c1 := same_new (o := .lst [V.str n']) n1
        have hp1 := upd_same (H := Hb) (a := p1) (o := .lst [V.str n'])
        obtain ⟨Hc, ec⟩ : ∃ X, X = upd Hb p1 (.lst [V.str n']) := ⟨_, rfl⟩
        rw [← ec] at c1 hp1 ⊢
        refine ⟨l, p1, _, _, rfl, rfl, c1 _ _ hl, hp1, by rw [List.length_map]; show _ + 1 ≤ sizeLine; omega, fun p2 n2 => ?_⟩
        have c2 := c1.trans (same_new (o := .lst (((ts.take i).flatMap G).map V.str ++ [V.str n'])) n2)
        have hp2 := upd_same (H := Hc) (a := p2) (o := .lst (((ts.take i).flatMap G).map V.str ++ [V.str n']))
        obtain ⟨Hd, ed⟩ : ∃ X, X = upd Hc p2 (.lst (((ts.take i).flatMap G).map V.str ++ [V.str n'])) := ⟨_, rfl⟩
        rw [← ed] at c2 hp2 ⊢
        refine ⟨_, rfl, _, rfl, q, t, ts, n', rfl, c2 _ _ hqa, pts, asc, o, .inr mn, by rw [st, List.length_append, List.length_singleton]; omega, by omega, fun p3 H3 s3 n3 hp3 => ?_⟩
        refine ⟨p2, p3, _, _, rfl, rfl, s3 _ _ hp2, hp3, by rw [List.length_append, List.length_map, List.length_map]; show _ + 1 + _ ≤ sizeLine; omega, fun p4 n4 => ?_⟩
        have c4 := (c2.trans s3).trans (same_new (o := .lst ((((ts.take i).flatMap G).map V.str ++ [V.str n']) ++ (belowN ts m n').map V.str)) n4)
        refine ⟨p4, _, rfl, sa.trans c4, (s0.trans (c2.trans s3)).free n4, ?_⟩
        rw [upd_same, tm, eGp, List.map_append, List.append_assoc] <;> rfl
      · rw [decide_eq_false (show ¬ V.str pn = V.str a from fun z => e (V.str.inj z))]
        have eGp : G (n', pn) = [] := by rw [eG]; exact if_neg e
        refine iteF ⟨l, _, rfl, sa, nl, ?_⟩
        rw [tm, eGp, List.append_nil]
        exact hl
    · intro σ' H3 ⟨l, u3, e, sa, nl, hl⟩
      subst e
      rw [List.length_map, List.length_map, List.take_length] at hl
      exact ⟨_, rfl, k l H3 (s2.trans sa) nl hl⟩
/-- at every depth -/
theorem ok_below {f : Addr} {fd : FuncData} (F : Fun K "_law_below" "_law_below" s__law_below f fd) (T : Nm mg) (b : Binds K fd ["_law_above", "_law_spot"] []) (g : mg "_law_below" = some (.ref f)) : ∀ m, FnOk P w K mg base CX0 (m + 1) f fd ["_law_above", "_law_spot"] (spBelow m)
  | 0 => by
    refine F.ok scBw (fun vs H Q E h => ?_) (fun cdv A outer s H vs Q E hr h => ?_)
    · obtain ⟨q, t, ts, a, rfl, _⟩ := h
      rfl
    · obtain ⟨q, t, ts, a, rfl, hq, pts, asc, o, pl, hm, few, k⟩ := h
      have := path_len ts a
      omega
  | m + 1 => ok_belowS F T m ⟨ok_below F T b g m, F.kp, b, g⟩
end
end FT


/-! Forest.text -/
namespace FT
open PySem L2 TL ClX LiI
def rowAt (ts : List (Str × Str)) (n : Str) : Str := rowTx ((par ts n).getD "") n
def textRows (ts : List (Str × Str)) : List Str := (belowN ts (ts.length + 1) "").map (rowAt ts)
theorem dash_len {p : Str} (h : p.length ≤ 8) : (dashS p).length ≤ 8 := by
  unfold dashS
  split
  · show 1 ≤ 8
    decide
  · exact h
theorem rowTx_len {p a : Str} (h : p.length ≤ 8) (l : a.length ≤ 8) : (rowTx p a).length ≤ 18 := by
  have := dash_len h
  unfold rowTx
  rw [Str.length_append, Str.length_append, Str.length_append]
  show a.length + 1 + (dashS p).length + 1 ≤ 18
  omega
theorem par_len {ts : List (Str × Str)} (o : TreeOk ts) {a p : Str} (h : par ts a = some p) : p.length ≤ 8 := by
  obtain ⟨rk, r⟩ := o.up
  have ma : a ∈ ts.map Prod.fst := List.mem_map.mpr ⟨_, par_mem h, rfl⟩
  obtain ⟨p', e, hp, _⟩ := o.step r ma
  rw [h] at e
  cases e
  rcases hp with rfl | ⟨m, _⟩
  · show 0 ≤ 8
    decide
  · exact (o.nm _ m).len.2
theorem rowAt_len {ts : List (Str × Str)} (o : TreeOk ts) {n : Str} (h : n ∈ ts.map Prod.fst) : (rowAt ts n).length ≤ 18 := by
  obtain ⟨p, hp⟩ := par_some o.nd h
  unfold rowAt
  rw [hp]
  exact rowTx_len (par_len o hp) (o.nm _ h).len.2
theorem below_flags {ts : List (Str × Str)} (o : TreeOk ts) : ∀ n ∈ belowN ts (ts.length + 1) "", n ∈ ts.map Prod.fst := fun n hn => by
  rw [← walk_below ts _ _ 1] at hn
  obtain ⟨y, hy, rfl⟩ := List.mem_map.mp hn
  exact walk_flags o _ _ _ y hy
theorem below_len {ts : List (Str × Str)} (o : TreeOk ts) : (belowN ts (ts.length + 1) "").length = ts.length := by
  have := (rowsW_perm o).length_eq
  rw [List.length_map, List.length_map] at this
  rw [← walk_below ts _ _ 1, List.length_map]
  exact this
theorem sum_le {l : List Str} {m : Nat} (h : ∀ z ∈ l, z.length ≤ m) : (l.map (·.length)).sum ≤ l.length * m := by
  induction l with
  | nil => exact Nat.zero_le _
  | cons z l ih =>
    have h1 := h z (List.mem_cons_self ..)
    have h2 := ih fun y hy => h y (List.mem_cons_of_mem _ hy)
    rw [List.map_cons, List.sum_cons, List.length_cons, Nat.succ_mul]
    omega
theorem join_none_len : ∀ ls : List Str, (Txt.join "" ls).length = (ls.map (·.length)).sum := fun ls => by
  rw [TL.join_eq]
  induction ls with
  | nil => rfl
  | cons a l ih =>
    cases l with
    | nil => show a.length = a.length + 0; omega
    | cons b r =>
      show (a ++ "" ++ Str.join "" (b :: r)).length = _
      rw [Str.length_append, Str.length_append, ih, List.map_cons (l := b :: r), List.sum_cons]
      show a.length + 0 + _ = _
      omega
theorem textRows_sum {ts : List (Str × Str)} (o : TreeOk ts) : ((textRows ts).map (·.length)).sum ≤ ts.length * 18 := by
  have := sum_le (l := textRows ts) (m := 18) fun z hz => by
    obtain ⟨n, hn, rfl⟩ := List.mem_map.mp hz
    exact rowAt_len o (below_flags o n hn)
  rw [show (textRows ts).length = ts.length by unfold textRows; rw [List.length_map, below_len o]] at this
  exact this
def rAddS : R2 := fun x y H Q => ∃ i j : Str, x = .str i ∧ y = .str j ∧ i.length + j.length ≤ sizeLine ∧ Q (.str (i ++ j)) H
def spFText (CF : Addr) : Sp := fun vs H Q _ => ∃ (x : Addr) (ts : List (Str × Str)), vs = [.ref x] ∧ FAt CF H x ts ∧ TreeOk ts ∧ ∀ H', Same H H' → Q (.str (Txt.join "" (textRows ts))) H'
abbrev NFt : List Str := ["self", "rows", "name", "depth"]
section
variable {P : Program} {w : World} {K : PySem.W.Frag} {mg : Str → Option Value} {base : Heap}
theorem scFt : FnScope NFt ["self"] (defScope s_Forest_text) := ⟨rfl, rfl, rfl, by decide +kernel, rfl, by decide +kernel, by decide +kernel⟩
theorem ok_ftext {f fW CF : Addr} {mc : Value} {fd fdW : FuncData} (F : Fun K "text" "Forest.text" s_Forest_text f fd) (O : FoC K CF) (Z : Fc K mg CF mc)
    (DW : ∀ m, Dn P w K mg base CX0 (m + 1) "walked" ["above", "place", "depth"] (spWalked m) fW fdW) : FnOk P w K mg base CX0 15 f fd ["self"] (spFText CF) := by
  obtain ⟨ur, cr⟩ := Z.root
  refine F.ok scFt (fun vs H Q E h => ?_) (fun cdv A outer s H vs Q E hr h => ?_)
  · obtain ⟨x, ts, rfl, _⟩ := h
    rfl
  · obtain ⟨x, ts, rfl, fa, o, k⟩ := h
    have hu := hu_of hr
    have nd := scFt.nd
    have big : 1000 ≤ sizeLine := by decide
    have lts := o.few
    have hr2 : Room (ts.length + 1 + 1) _ := hr.mono (by omega)
    refine ⟨_, pss_cons (ps_setLc (i := 1) (own := [("name", 2), ("depth", 3)]) (g := gTup K 2 (gCons (gName 2) (gCons (gName 3) gNil))) (tt := tYes) (te := tOp rAddS (tOp rAddS (tOp rAddS (tVar 2) (tC (.str " "))) (tOrT K (tDGet (tFld K (tVar 0) "above") (tVar 2)) (tC (.str "-")))) (tC (.str "\n"))) rfl nd rfl rfl (sw_true rfl rfl rfl (by decide +kernel))
        (pi_list (pe_lock (pe_call (DW (ts.length + 1)).ok hr2 rfl (DW 0).mgn (DW 0).kp (DW 0).bn .nil pass0 (pa_cons (pe_fld (pv 0) rfl) (pa_cons (pe_cval (pe_glob (v := .ref CF) (by rfl) Z.gF rfl)) (pa_cons pe_int pa_nil))))))
        (blkOk_by (N := NFt) (sc := defScope s_Forest_text) (by decide +kernel))
        (fun _ _ _ _ _ => pg_tup rfl (pgs_cons (pg_name (i := 2) nd rfl (Or.inl rfl)) (pgs_cons (pg_name (i := 3) nd rfl (Or.inl rfl)) pgs_nil))) (fun _ _ _ _ _ => pts_nil)
        (fun _ _ _ _ _ => pe_op op_add_str (pe_op op_add_str (pe_op op_add_str (pv 2) pe_str) (pe_orT (pe_dget hu (pe_fld (pv 0) rfl) (pv 2) (fun _ _ => rfl)) (pe_one pe_str))) pe_str))
      (pss_one (ps_ret (pe_join pe_str (pv 1)))), ?_⟩
    obtain ⟨dx, dq, hx, hd⟩ := id fa
    have dx1 : x ≠ dq := ne_of hx hd (by intro z; cases z)
    refine ⟨dq, .dK (prs ts), hd, trivial, fun od => ⟨_, rfl, x, CF, dx, _, .ref dq, rfl, by rw [upd_ne dx1]; exact hx, O.cl, O.nA, rfl, CF, mc, _, ur, rfl, Z.rd, cr, dq, ts, od, "", 1, rfl, upd_same, o, .inl rfl, by rw [path_root]; show 0 + _ = _; omega, rowsW_few o, fun p rs H1 s1 np hp pr fr => ?_⟩⟩
    have hq1 := s1 _ _ (upd_same (H := H) (a := dq) (o := .frz od (.dK (prs ts))))
    have su := unlock_same hd s1
    have pq : p ≠ dq := (ne_of_none upd_same np).symm
    refine ⟨hq1, ?_⟩
    obtain ⟨H2, e2⟩ : ∃ X, X = upd H1 dq (.dK (prs ts)) := ⟨_, rfl⟩
    rw [← e2] at su ⊢
    have hp2 : H2 p = some (.lst (rs.map V.ref)) := by rw [e2, upd_ne pq]; exact hp
    have pr2 : Paired (RowW H2) rs (rowsW ts) := pair_impW (fun r z e => by
      show H2 r = _
      rw [e2, upd_ne (ne_of e hq1 (by intro z; cases z))]
      exact e) pr
    have lr := pair_lenZ pr2
    refine ⟨p, rfl, ⟨_, SqL.of hp2⟩, fun D nD => ?_⟩
    have nmz : ∀ (i : Nat) (n : Str) (d : Int), (rowsW ts)[i]? = some (n, d) → (belowN ts (ts.length + 1) "")[i]? = some n := fun i n d h => by
      rw [← walk_below ts _ _ 1, List.getElem?_map]
      show ((rowsW ts)[i]?).map Prod.fst = _
      rw [h] <;> rfl
    refine lc_it walk_list (fun i H' => Same H2 H' ∧ H' D = some (.lst (((textRows ts).take i).map V.str))) ⟨same_new nD, by rw [upd_same, List.take_zero] <;> rfl⟩ (fun i H' _ z => SqL.of (z.1 _ _ hp2)) ?_ ?_
    · intro i v Ha Hb hi ⟨q1, q2⟩ ⟨eb, ex⟩
      subst eb
      rw [List.getElem?_map] at ex
      obtain ⟨r, hr, rfl⟩ := Option.map_eq_some_iff.mp ex
      obtain ⟨⟨n, d⟩, hz, rz⟩ := LiI.paired_get pr2 hr
      have hn := nmz i n d hz
      have mn := below_flags o n (List.mem_of_getElem? hn)
      obtain ⟨pn, hpn⟩ := par_some o.nd mn
      have ln := (o.nm n mn).len.2
      have lp := par_len o hpn
      have hrow : (textRows ts)[i]? = some (rowTx pn n) := by
        unfold textRows
        rw [List.getElem?_map, hn]
        show some (rowAt ts n) = _
        unfold rowAt
        rw [hpn] <;> rfl
      have li : i < (textRows ts).length := (List.getElem?_eq_some_iff.mp hrow).1
      have lt : (textRows ts).length = ts.length := by unfold textRows; rw [List.length_map, below_len o]
      have s2b := su.trans q1
      refine ⟨r, _, rfl, .inl (.inl (q1 _ _ rz)), rfl, ?_⟩
      refine ⟨_, _, rfl, _, _, rfl, rfl, ?_⟩
      have fin : ∀ z : Str, z = rowTx pn n → ∃ acc, Hb D = some (.lst acc) ∧ acc.length < sizeLine ∧ Same H2 (upd Hb D (.lst (acc ++ [.str z]))) ∧ upd Hb D (.lst (acc ++ [.str z])) D = some (.lst (((textRows ts).take (i + 1)).map V.str)) := fun z ez => by
        refine ⟨_, q2, ?_, ?_, ?_⟩
        · rw [List.length_map, List.length_take]
          omega
        · exact Same.put q1 nD
        · rw [upd_same, take_more hrow, List.map_append, ez] <;> rfl
      refine ⟨rfl, ?_⟩
      refine ⟨_, rfl, _, _, rfl, rfl, by show n.length + 1 ≤ sizeLine; omega, ?_⟩
      refine ⟨_, rfl, x, CF, dx, _, .ref dq, rfl, s2b _ _ hx, O.cl, O.nA, rfl, _, rfl, dq, .str pn, rfl, dget_prs (.inl (s2b _ _ hd)) hpn, _, ⟨by omega, rfl⟩, ?_⟩
      have l1 : (n ++ " ").length = n.length + 1 := by rw [Str.length_append] <;> rfl
      have go : ∀ y : Str, y = dashS pn → y.length ≤ 8 → (n ++ " ").length + y.length ≤ sizeLine ∧ (n ++ " " ++ y).length + 1 ≤ sizeLine := fun y ey ly => by
        have l2 : (n ++ " " ++ y).length = n.length + 1 + y.length := by rw [Str.length_append, l1]
        exact ⟨by omega, by omega⟩
      by_cases e : pn = ""
      · have ey : ("-" : Str) = dashS pn := (if_pos e).symm
        obtain ⟨z1, z2⟩ := go "-" ey (by decide)
        have f := fin (n ++ " " ++ "-" ++ "\n") (by rw [ey] <;> rfl)
        subst e
        exact iteF ⟨_, _, rfl, rfl, z1, _, _, rfl, rfl, z2, f⟩
      · have nl : pn.length ≠ 0 := fun z => e (ext_tl (by rw [len_tl] at z; rw [List.length_eq_zero_iff.mp z] <;> rfl))
        have ey : pn = dashS pn := (if_neg e).symm
        obtain ⟨z1, z2⟩ := go pn ey lp
        have f := fin (n ++ " " ++ pn ++ "\n") (by unfold rowTx; rw [← ey])
        rw [show ((pn.length : Int) != 0) = true by rw [bne_iff_ne]; omega, if_pos rfl]
        exact ⟨_, _, rfl, rfl, z1, _, _, rfl, rfl, z2, f⟩
    · intro H3 ⟨q1, q2⟩
      have le : (rs.map V.ref).length = (textRows ts).length := by
        unfold textRows
        rw [List.length_map, lr, List.length_map, ← walk_below ts _ _ 1, List.length_map] <;> rfl
      rw [le, List.take_length] at q2
      refine ⟨⟨_, rfl⟩, _, rfl, "", D, textRows ts, rfl, rfl, .inl (SqL.of q2), ?_, k H3 (su.trans q1)⟩
      have := textRows_sum o
      show _ + _ * 0 ≤ 16777216
      omega
end
end FT


/-! == of two lists of other lengths -/
namespace L2
open PySem PySem.Spec PyProof.Rows
section
variable {X : Cx}
def rEqLen : R2 := fun x y H Q => ∃ a b xs ys, x = .ref a ∧ y = .ref b ∧ H a = some (.lst xs) ∧ H b = some (.lst ys) ∧ xs.length ≠ ys.length ∧ Q (.bl false) H
theorem op_eqLen (hu : X.A.units < cLine) : OpR X (compareOp .Eq) rEqLen := by
  intro pins s σ H x y v u Q I rx ry h
  obtain ⟨a, b, xs, ys, rfl, rfl, ea, eb, ne, q⟩ := h
  obtain rfl : v = Value.ref a := rx
  obtain rfl : u = Value.ref b := ry
  obtain ⟨za, ia, na, ra, la, da⟩ := I.lstM ea
  obtain ⟨zb, ib, nb, rb, lb, db⟩ := I.lstM eb
  refine PySem.SeqAt.eq_list_lengthsAt (items := ia.toArray) (items2 := ib.toArray) ⟨_, da, rfl, _, rfl⟩ ⟨_, db, rfl, _, rfl⟩ ?_ hu ⟨.bl _, H, I, rfl, q⟩
  rw [List.size_toArray, List.size_toArray, bne_iff_ne]
  have h1 : xs.length = ia.length := by first | exact la | exact ra.length | exact la.symm
  have h2 : ys.length = ib.length := by first | exact lb | exact rb.length | exact lb.symm
  omega
end
end L2


/-! xs == [] and xs != [], whatever the items -/
namespace L2
open PySem PySem.Spec PyProof.Rows
section
variable {X : Cx}
def rNeLen : R2 := fun x y H Q => ∃ a b xs ys, x = .ref a ∧ y = .ref b ∧ H a = some (.lst xs) ∧ H b = some (.lst ys) ∧ xs.length ≠ ys.length ∧ Q (.bl true) H
theorem op_neLen (hu : X.A.units < cLine) : OpR X (compareOp .NotEq) rNeLen := by
  intro pins s σ H x y v u Q I rx ry h
  obtain ⟨a, b, xs, ys, rfl, rfl, ea, eb, ne, q⟩ := h
  obtain rfl : v = Value.ref a := rx
  obtain rfl : u = Value.ref b := ry
  obtain ⟨za, ia, na, ra, la, da⟩ := I.lstM ea
  obtain ⟨zb, ib, nb, rb, lb, db⟩ := I.lstM eb
  refine PySem.SeqAt.RcNeAt.lists_lengths (items := ia.toArray) (items2 := ib.toArray) ⟨_, da, rfl, _, rfl⟩ ⟨_, db, rfl, _, rfl⟩ ?_ hu _ _ _ _ ⟨.bl _, H, I, rfl, q⟩
  rw [List.size_toArray, List.size_toArray, bne_iff_ne]
  have h1 : xs.length = ia.length := by first | exact la | exact ra.length | exact la.symm
  have h2 : ys.length = ib.length := by first | exact lb | exact rb.length | exact lb.symm
  omega
def rEqNil : R2 := fun x y H Q => ∃ a b xs, x = .ref a ∧ y = .ref b ∧ H a = some (.lst xs) ∧ H b = some (.lst []) ∧ Q (.bl (decide (xs.length = 0))) H
def rNeNil : R2 := fun x y H Q => ∃ a b xs, x = .ref a ∧ y = .ref b ∧ H a = some (.lst xs) ∧ H b = some (.lst []) ∧ Q (.bl (!decide (xs.length = 0))) H
theorem op_eqNil (hu : X.A.units + 64 < cLine) : OpR X (compareOp .Eq) rEqNil := by
  intro pins s σ H x y v u Q I rx ry h
  obtain ⟨a, b, xs, rfl, rfl, ea, eb, q⟩ := h
  cases xs with
  | nil => exact op_eqD hu pins s σ H _ _ v u Q I rx ry ⟨.list [], .list [], .lst (SqL.of ea) .nil, .lst (SqL.of eb) .nil, rfl, rfl, q⟩
  | cons x xs => exact op_eqLen (by omega) pins s σ H _ _ v u Q I rx ry ⟨a, b, _, _, rfl, rfl, ea, eb, Nat.succ_ne_zero _, q⟩
theorem op_neNil (hu : X.A.units + 64 < cLine) : OpR X (compareOp .NotEq) rNeNil := by
  intro pins s σ H x y v u Q I rx ry h
  obtain ⟨a, b, xs, rfl, rfl, ea, eb, q⟩ := h
  cases xs with
  | nil => exact op_neD hu pins s σ H _ _ v u Q I rx ry ⟨.list [], .list [], .lst (SqL.of ea) .nil, .lst (SqL.of eb) .nil, rfl, rfl, q⟩
  | cons x xs => exact op_neLen (by omega) pins s σ H _ _ v u Q I rx ry ⟨a, b, _, _, rfl, rfl, ea, eb, Nat.succ_ne_zero _, q⟩
end
end L2


/-! the law's own judgement: _law_is_name, _law_in_ring, _law_due -/
namespace FT
open PySem L2 TL ClX
def oddL (l : List Nat) : List Nat := l.filter fun c => !decide (c ∈ letters.cps.toList)
theorem oddL_none {l : List Nat} (h : oddL l = []) : ∀ c ∈ l, 97 ≤ c ∧ c ≤ 122 := fun c hc => by
  have h2 := List.filter_eq_nil_iff.mp h c hc
  simp only [Bool.not_eq_true', decide_eq_false_iff_not] at h2
  exact of_letters (Decidable.not_not.mp h2)
theorem oddL_some {l : List Nat} (h : oddL l ≠ []) : ¬ ∀ c ∈ l, 97 ≤ c ∧ c ≤ 122 := fun a => h (by
  refine List.filter_eq_nil_iff.mpr fun c hc => ?_
  have := a c hc
  rw [decide_eq_true (in_letters this.1 this.2)]
  exact Bool.false_ne_true)
theorem oddL_step {l : List Nat} {i : Nat} {c : Nat} (h : l[i]? = some c) : oddL (l.take (i + 1)) = oddL (l.take i) ++ (if c ∈ letters.cps.toList then [] else [c]) := by
  rw [take_more h]
  unfold oddL
  rw [List.filter_append]
  by_cases e : c ∈ letters.cps.toList
  · rw [if_pos e, List.filter_cons, decide_eq_true e, List.filter_nil] <;> rfl
  · rw [if_neg e, List.filter_cons, decide_eq_false e, List.filter_nil] <;> rfl
abbrev NLn : List Str := ["_law_item", "_law_sign"]
abbrev NIr : List Str := ["_law_above", "_law_start", "_law_spot", "_law_turn"]
abbrev NDe : List Str := ["_law_item", "_law_key"]
/-- a tuple with what is due, or None -/
def DueG (H : Hp) (Q : VK) : Option V → Prop
  | none => ∀ H', Same H H' → Q .non H'
  | some v => ∀ p H', Same H H' → H p = none → H' p = some (.tup [v]) → Q (.ref p) H'
def spDueL : Sp := fun vs H Q _ => ∃ (q : Addr) (t : List (Str × Str)), vs = [.ref q] ∧ H q = some (.dK (prs t)) ∧ (t.map Prod.fst).Nodup ∧ (∀ z ∈ t.map Prod.fst, NameL z) ∧ t.length ≤ 20000 ∧ ∀ o, DueF t o → DueG H Q o
section
variable {P : Program} {w : World} {K : PySem.W.Frag} {mg : Str → Option Value} {base : Heap}
theorem scLn : FnScope NLn ["_law_item"] (defScope s__law_is_name) := ⟨rfl, rfl, rfl, by decide +kernel, rfl, by decide +kernel, by decide +kernel⟩
theorem scIr : FnScope NIr ["_law_above", "_law_start"] (defScope s__law_in_ring) := ⟨rfl, rfl, rfl, by decide +kernel, rfl, by decide +kernel, by decide +kernel⟩
theorem scDe : FnScope NDe ["_law_item"] (defScope s__law_due) := ⟨rfl, rfl, rfl, by decide +kernel, rfl, by decide +kernel, by decide +kernel⟩
theorem ok_lawNm {f : Addr} {fd : FuncData} (F : Fun K "_law_is_name" "_law_is_name" s__law_is_name f fd) (T : Nm mg) : FnOk P w K mg base CX0 1 f fd ["_law_item"] spIsNameW := by
  refine F.ok scLn (fun vs H Q E h => ?_) (fun cdv A outer s H vs Q E hr h => ?_)
  · obtain ⟨z, rfl, _⟩ := h
    rfl
  · obtain ⟨z, rfl, lz, k⟩ := h
    have nd := scLn.nd
    refine ⟨_, pss_cons (ps_if (PW.pt (pw_or (pt_not (pt_val (pe_callB call_isi (by rfl) T.isi (by decide +kernel) (pa_cons (pv 0) (pa_cons (pe_bltn (v := .ty "str") (u := .type "str") (by rfl) T.str (by decide +kernel) rfl) pa_nil)))))
        (pw_or (pt_not (pt_chain op_le op_le pe_int (pe_callB call_len_str (by rfl) T.len PySem.boot_len (pa_cons (pv 0) pa_nil)) pe_int)) (pw_or1 (pt_cmpR op_eq (pv 0) pe_str (nomark _))))))
        (pss_one (ps_ret pe_bl)) pss_nil)
      (pss_one (ps_ret (pe_cmpR (op_eqNil hr.units) (pe_lc (own := [("_law_sign", 1)]) (g := gName 1) (tt := tTest (tOp (fun x y H Q => ∃ (c : Nat) (z : Str), x = .str ⟨#[c]⟩ ∧ y = .str z ∧ Q (.bl (!decide (c ∈ z.cps.toList))) H) (tVar 1) (tC (.str letters)))) (te := tVar 1) rfl nd (pi_str (pv 0))
        (blkOk_by (N := NLn) (sc := defScope s__law_is_name) (by decide +kernel)) (fun _ _ _ _ _ => pg_name (i := 1) nd rfl (Or.inl rfl)) (fun _ _ _ _ _ => pts_one (pt_cmpR op_notIn_sign (pv 1) pe_str rfl)) (fun _ _ _ _ _ => pv 1)) (pe_lst pa_nil) (nomark _)))), ?_⟩
    have big : 30000 ≤ sizeLine := by decide
    have k0 : ∀ H', Same H H' → nmB z = false → Q (.bl false) H' := fun H' s e => by have := k H' s; rw [e] at this; exact this
    refine ⟨_, rfl, .str z, _, _, _, true, rfl, .ty _, .base (.str z), kit_ty (by decide +kernel), true, rfl, ?_⟩
    refine iteF ?_
    refine ⟨_, rfl, z, rfl, by omega, _, _, rfl, rfl, _, rfl, ?_⟩
    by_cases l1 : 1 ≤ z.length
    case neg =>
      rw [if_neg (show ¬ decide ((1 : Int) ≤ (z.length : Int)) = true by rw [decide_eq_true_eq]; omega)]
      refine ⟨_, rfl, ?_⟩
      refine iteT ?_
      exact k0 H (fun _ _ h => h) (nmB_no fun nm => l1 nm.len.1)
    rw [if_pos (decide_eq_true (by omega))]
    refine ⟨_, _, rfl, rfl, _, rfl, ?_⟩
    by_cases l2 : z.length ≤ 8
    case neg =>
      rw [decide_eq_false (show ¬ (z.length : Int) ≤ 8 by omega)]
      refine iteT ?_
      exact k0 H (fun _ _ h => h) (nmB_no fun nm => l2 nm.len.2)
    rw [decide_eq_true (show (z.length : Int) ≤ 8 by omega)]
    refine iteF ?_
    refine ⟨_, rfl, rfl, _, rfl, ?_⟩
    by_cases es : z = "self"
    case pos =>
      subst es
      refine iteT ?_
      exact k0 H (fun _ _ h => h) (nmB_no fun nm => nm.self rfl)
    rw [decide_eq_false (show ¬ V.str z = V.str "self" from fun e => es (V.str.inj e))]
    refine iteF ?_
    refine ⟨_, rfl, z, rfl, fun D nD => lc_it walk_str (fun i H' => Same H H' ∧ H' D = some (.lst ((oddL ((tl z).take i)).map fun c => V.str ⟨#[c]⟩))) ⟨same_new nD, upd_same⟩ (fun _ _ _ _ => trivial) ?_ ?_⟩
    · intro i x Hd He hi ⟨q1, q2⟩ ⟨e, ch, hc, ex⟩
      subst e
      subst ex
      have hc' : (tl z)[i]? = some ch := by
        show z.cps.toList[i]? = some ch
        rw [Array.getElem?_toList]
        exact hc
      have il := (List.getElem?_eq_some_iff.mp hc').1
      rw [← len_tl] at il
      refine ⟨rfl, ?_⟩
      refine ⟨_, rfl, ch, letters, rfl, rfl, _, rfl, ?_⟩
      rw [oddL_step hc']
      by_cases m : ch ∈ letters.cps.toList
      · rw [if_pos m, decide_eq_true m, List.append_nil]
        exact iteF ⟨q1, q2⟩
      · rw [if_neg m, decide_eq_false m]
        show if true = true then _ else _
        rw [if_pos rfl]
        refine ⟨_, rfl, _, q2, ?_, Same.put q1 nD, ?_⟩
        · rw [List.length_map]
          have h1 : (oddL ((tl z).take i)).length ≤ ((tl z).take i).length := List.length_filter_le _ _
          rw [List.length_take] at h1
          omega
        · rw [upd_same, List.map_append] <;> rfl
    · intro H' ⟨q1, q2⟩
      rw [show z.cps.size = (tl z).length from rfl, List.take_length] at q2
      refine ⟨by show 0 ≤ sizeLine; omega, fun l nl => ?_⟩
      have sl := same_new (o := .lst ([] : List V)) nl
      refine ⟨D, l, _, rfl, rfl, sl _ _ q2, upd_same, ?_⟩
      rw [List.length_map]
      have e : decide ((oddL (tl z)).length = 0) = nmB z := by
        by_cases od : oddL (tl z) = []
        · rw [nmB_yes ⟨oddL_none od, by rw [← len_tl]; exact l1, by rw [← len_tl]; exact l2, es⟩, od] <;> rfl
        · rw [nmB_no fun nm => oddL_some od nm.1]
          exact decide_eq_false fun z => od (List.length_eq_zero_iff.mp z)
      rw [e]
      exact k _ (q1.trans sl)
theorem ok_inRing {f : Addr} {fd : FuncData} (F : Fun K "_law_in_ring" "_law_in_ring" s__law_in_ring f fd) (T : Nm mg) : FnOk P w K mg base CX0 1 f fd ["_law_above", "_law_start"] spIsAncR := by
  refine F.ok scIr (fun vs H Q E h => ?_) (fun cdv A outer s H vs Q E hr h => ?_)
  · obtain ⟨q, g, t, rfl, _⟩ := h
    rfl
  · obtain ⟨q, g, t, rfl, hq, ndt, few, hg, k⟩ := h
    have hu := hu_of hr
    have nd := scIr.nd
    refine ⟨_, pss_cons (ps_set (i := 2) nd rfl (.inl rfl) (pe_dget hu (pv 0) (pv 1) (fun _ _ => rfl)))
      (pss_cons (ps_for PassesOwn.never rfl (pi_range1 rfl T.rng (pa_cons pe_int pa_nil)) (pg_name (i := 3) nd rfl (.inl rfl))
        (pss_cons (ps_if (pt_cmpR op_eq (pv 2) (pv 1) (nomark _)) (pss_one (ps_ret pe_bl)) pss_nil)
        (pss_cons (ps_if (PW.pt (pw_or (pt_not (pt_val (pe_callB call_isi (by rfl) T.isi (by decide +kernel) (pa_cons (pv 2) (pa_cons (pe_bltn (v := .ty "str") (u := .type "str") (by rfl) T.str (by decide +kernel) rfl) pa_nil)))))
          (pw_or1 (pt_cmp (pc_dnotin hu (pv 2) (pv 0)))))) (pss_one (ps_ret pe_bl)) pss_nil)
        (pss_one (ps_set (i := 2) nd rfl (.inl rfl) (pe_dget hu (pv 0) (pv 2) (fun _ _ => rfl)))))))
      (pss_one (ps_ret pe_bl))), ?_⟩
    obtain ⟨p0, v0⟩ := par_some ndt hg
    have big : 1000 ≤ sizeLine := by decide
    have yes : Ring t g → ∀ H', Same H H' → Q (.bl true) H' := fun r H' s => by have := k H' s; rw [ringB_yes r] at this; exact this
    have no : ¬ Ring t g → ∀ H', Same H H' → Q (.bl false) H' := fun r H' s => by have := k H' s; rw [ringB_no r] at this; exact this
    refine ⟨_, rfl, _, rfl, q, V.str p0, rfl, by have z := DGet.k (k := Sum.inr g) hq; rw [val_prs, v0] at z; exact z, ?_⟩
    refine ⟨14, rfl, by omega, by omega, ?_⟩
    refine for_it (walk_range (lo := 0) (n := (14 : Int).toNat)) (fun j σ' H' => H' = H ∧ ∃ (a : Str) (u3 : Option V), σ' = [some (.ref q), some (.str g), some (.str a), u3] ∧ upK t (j + 1) g = some a ∧ ∀ i, i < j → upK t (i + 1) g ≠ some g)
      ⟨rfl, p0, _, rfl, v0, fun i h => absurd h (Nat.not_lt_zero _)⟩ (fun _ _ _ _ _ => trivial) ?_ ?_
    · intro j y σ' Ha Hb hj ⟨eh, a, u3, e, ua, oth⟩ ⟨eb, ey⟩
      subst e
      subst eb
      subst ey
      subst eh
      refine ⟨_, rfl, _, rfl, rfl, _, rfl, ?_⟩
      by_cases ag : a = g
      · subst ag
        rw [decide_eq_true rfl]
        exact iteT (yes ⟨_, ua⟩ _ Same.refl)
      rw [decide_eq_false (show ¬ V.str a = V.str g from fun e => ag (V.str.inj e))]
      refine iteF ?_
      refine ⟨_, rfl, .str a, _, _, _, true, rfl, .ty _, .base (.str a), kit_ty (by decide +kernel), true, rfl, ?_⟩
      refine iteF ?_
      have dg := DGet.k (k := Sum.inr a) hq
      rw [val_prs] at dg
      refine ⟨_, rfl, _, rfl, q, _, rfl, dg, _, rfl, ?_⟩
      by_cases ha : a ∈ t.map Prod.fst
      case neg =>
        rw [par_none ha]
        refine iteT (no (fun r => ?_) _ Same.refl)
        obtain ⟨c, e, m⟩ := ring_some r (j + 1)
        rw [ua] at e
        exact ha (by rw [Option.some.inj e]; exact m)
      obtain ⟨p, hv⟩ := par_some ndt ha
      rw [hv] at dg ⊢
      refine iteF ?_
      refine ⟨_, rfl, _, rfl, q, V.str p, rfl, dg, ?_⟩
      refine ⟨rfl, p, _, rfl, ?_, fun i hi => ?_⟩
      · show (upK t (j + 1) g).bind (par t) = _
        rw [ua]
        exact hv
      · rcases Nat.lt_or_ge i j with l | l
        · exact oth i l
        · have : i = j := by omega
          rw [this, ua]
          exact fun z => ag (Option.some.inj z)
    · intro σ' H' ⟨eh, a, u3, e, ua, oth⟩
      subst eh
      refine no (fun r => ?_) _ Same.refl
      obtain ⟨i, li, e⟩ := ring_few r
      exact oth i (by show i < 14; omega) e
end
end FT


/-! the law's own judgement: _law_due -/
namespace FT
open PySem L2 TL ClX
section
variable {P : Program} {w : World} {K : PySem.W.Frag} {mg : Str → Option Value} {base : Heap}
theorem ok_dueL {f fI fR : Addr} {fd fdI fdR : FuncData} (F : Fun K "_law_due" "_law_due" s__law_due f fd) (T : Nm mg)
    (FI : Dn P w K mg base CX0 1 "_law_is_name" ["_law_item"] spIsNameW fI fdI) (FR : Dn P w K mg base CX0 1 "_law_in_ring" ["_law_above", "_law_start"] spIsAncR fR fdR) : FnOk P w K mg base CX0 2 f fd ["_law_item"] spDueL := by
  refine F.ok scDe (fun vs H Q E h => ?_) (fun cdv A outer s H vs Q E hr h => ?_)
  · obtain ⟨q, t, rfl, _⟩ := h
    rfl
  · obtain ⟨q, t, rfl, hq, ndt, nm, lt, k⟩ := h
    have hu := hu_of hr
    have nd := scDe.nd
    have hr1 : Room 1 _ := hr.mono (by decide)
    refine ⟨_, pss_cons (ps_if (PW.pt (pw_or (pt_not (pt_val (pe_callB call_isi (by rfl) T.isi (by decide +kernel) (pa_cons (pv 0) (pa_cons (pe_bltn (v := .ty "dict") (u := .type "dict") (by rfl) T.dct (by decide +kernel) rfl) pa_nil)))))
        (pw_or1 (pt_not (pt_chain op_le op_le pe_int (pe_callB call_lenD (by rfl) T.len PySem.boot_len (pa_cons (pv 0) pa_nil)) pe_int))))) (pss_one (ps_ret (pe_tup (pa_cons pe_non pa_nil)))) pss_nil)
      (pss_cons (ps_if (pt_cmpR (op_neNil hr.units) (pe_lock (pe_lc (own := [("_law_key", 1)]) (g := gName 1) (te := tVar 1) rfl nd (pi_keys (pv 0))
        (blkOk_by (N := NDe) (sc := defScope s__law_due) (by decide +kernel))
        (fun _ _ _ _ _ => pg_name (i := 1) nd rfl (Or.inl rfl)) (fun _ _ _ _ _ => pts_one (pt_not (pt_val (pe_call FI.ok hr1 rfl FI.mgn FI.kp FI.bn .nil pass0 (pa_cons (pv 1) pa_nil))))) (fun _ _ _ _ _ => pv 1))) (pe_lst pa_nil) (nomark _)) (pss_one (ps_ret (pe_tup (pa_cons pe_non pa_nil)))) pss_nil)
      (pss_cons (ps_for PassesOwn.never rfl (pi_list (pe_callB (call_sortedD rfl) (by rfl) T.srt (by decide +kernel) (pa_cons (pv 0) pa_nil))) (pg_name (i := 1) nd rfl (.inl rfl))
        (pss_cons (ps_if (PW.pt (pw_or (pt_not (pt_val (pe_callB call_isi (by rfl) T.isi (by decide +kernel) (pa_cons (pe_dget hu (pv 0) (pv 1) (fun _ _ => rfl)) (pa_cons (pe_bltn (v := .ty "str") (u := .type "str") (by rfl) T.str (by decide +kernel) rfl) pa_nil)))))
          (pw_or1 (PW.pt (pw_and (pt_cmpR op_ne (pe_dget hu (pv 0) (pv 1) (fun _ _ => rfl)) pe_str (nomark _)) (pw_and1 (pt_cmp (pc_dnotin hu (pe_dget hu (pv 0) (pv 1) (fun _ _ => rfl)) (pv 0))))))))) (pss_one (ps_ret (pe_tup (pa_cons (pv 1) pa_nil)))) pss_nil)
        (pss_one (ps_if (pt_val (pe_call FR.ok hr1 rfl FR.mgn FR.kp FR.bn .nil pass0 (pa_cons (pv 0) (pa_cons (pv 1) pa_nil)))) (pss_one (ps_ret (pe_tup (pa_cons (pv 1) pa_nil)))) pss_nil))))
      (pss_one (ps_ret pe_non)))), ?_⟩
    have big : 30000 ≤ sizeLine := by decide
    have lp := prs_len t
    have give : ∀ v, DueF t (some v) → ∀ H', Same H H' → 1 ≤ sizeLine ∧ ∀ p, H' p = none → Q (.ref p) (upd H' p (.tup [v])) := fun v d H' s => ⟨by omega, fun p np => k (some v) d p _ (s.trans (same_new np)) (s.free np) upd_same⟩
    -- a dict, of one to twelve
    refine ⟨_, rfl, .ref q, _, _, _, true, rfl, .ty _, .base (.dK hq), kit_ty (by decide +kernel), true, rfl, ?_⟩
    refine iteF ?_
    refine ⟨_, rfl, q, _, rfl, hq, _, _, rfl, rfl, _, rfl, ?_⟩
    by_cases one : 1 ≤ t.length
    case neg =>
      rw [if_neg (show ¬ decide ((1 : Int) ≤ ((prs t).length : Int)) = true by rw [decide_eq_true_eq, lp]; omega)]
      refine ⟨_, rfl, ?_⟩
      exact iteT (give .non (.inl ⟨fun h => one h.1, rfl⟩) H Same.refl)
    rw [if_pos (decide_eq_true (by omega))]
    refine ⟨_, _, rfl, rfl, _, rfl, ?_⟩
    by_cases few : t.length ≤ 12
    case neg =>
      rw [decide_eq_false (show ¬ ((prs t).length : Int) ≤ 12 by omega)]
      exact iteT (give .non (.inl ⟨fun h => few h.2, rfl⟩) H Same.refl)
    rw [decide_eq_true (show ((prs t).length : Int) ≤ 12 by omega)]
    refine iteF ?_
    -- all are names
    refine ⟨q, .dK (prs t), hq, trivial, fun od => ⟨_, rfl, q, od, rfl, .inl ⟨prs t, upd_same, fun D nD => ?_⟩⟩⟩
    have Dq : D ≠ q := (ne_of_none upd_same nD).symm
    have key : ∀ {i : Nat} {k : Key} {v : V}, (prs t)[i]? = some (k, v) → ∃ a p : Str, k = Sum.inr a ∧ v = .str p ∧ t[i]? = some (a, p) := fun {i k v} h => by
      unfold prs kvT at h
      rw [List.map_map, List.getElem?_map] at h
      obtain ⟨⟨a, p⟩, hp, e⟩ := Option.map_eq_some_iff.mp h
      cases e
      exact ⟨a, p, rfl, rfl, hp⟩
    refine lc_it walk_keys (fun i H' => Same (upd H q (.frz od (.dK (prs t)))) H' ∧ H' D = some (.lst ([] : List V))) ⟨same_new nD, upd_same⟩ (fun i H' _ z => z.1 q _ upd_same) ?_ ?_
    · intro i x Ha Hb hi ⟨q1, q2⟩ ⟨e, k', v, hk, ex⟩
      subst e
      subst ex
      obtain ⟨a, p, rfl, rfl, hp⟩ := key hk
      refine ⟨rfl, ?_⟩
      have na := nm a (List.mem_map.mpr ⟨(a, p), List.mem_of_getElem? hp, rfl⟩)
      refine ⟨_, rfl, a, rfl, by have := na.len; omega, fun H' s' => ?_⟩
      rw [nmB_yes na]
      exact ⟨_, rfl, iteF ⟨q1.trans s', s' _ _ q2⟩⟩
    intro H1 ⟨q1, q2⟩
    refine ⟨q1 q _ upd_same, ?_⟩
    have s1 : Same H (upd H1 q (.dK (prs t))) := unlock_same hq q1
    have hD1 : (upd H1 q (.dK (prs t))) D = some (.lst ([] : List V)) := by rw [upd_ne Dq]; exact q2
    have hq1 : (upd H1 q (.dK (prs t))) q = some (.dK (prs t)) := upd_same
    obtain ⟨H2, e2⟩ : ∃ X, X = upd H1 q (.dK (prs t)) := ⟨_, rfl⟩
    rw [← e2] at s1 hD1 hq1 ⊢
    refine ⟨by show 0 ≤ sizeLine; omega, fun l nl => ?_⟩
    have sl := same_new (o := .lst ([] : List V)) nl
    refine ⟨D, l, _, rfl, rfl, sl _ _ hD1, upd_same, _, rfl, iteF ?_⟩
    have s2 := s1.trans sl
    have hq2 := sl _ _ hq1
    -- one by one, in their order
    refine ⟨_, rfl, q, prs t, t.map Prod.fst, rfl, .inl hq2, prs_keys t, by rw [List.length_map]; omega, fun ys p perm srt np => ⟨p, rfl, ⟨_, SqL.of upd_same⟩, ?_⟩⟩
    have s3 := s2.trans (same_new (o := .lst (ys.map V.str)) np)
    have at3 := upd_same (H := upd H2 l (.lst ([] : List V))) (a := p) (o := .lst (ys.map V.str))
    obtain ⟨H3, e3⟩ : ∃ X, X = upd (upd H2 l (.lst ([] : List V))) p (.lst (ys.map V.str)) := ⟨_, rfl⟩
    rw [← e3] at s3 at3 ⊢
    refine for_it walk_list (fun j σ' H' => (∃ u1, σ' = [some (.ref q), u1]) ∧ Same H3 H' ∧ ∀ (i : Nat) (b : Str), i < j → ys[i]? = some b → badF t b = false) ⟨⟨_, rfl⟩, fun _ _ e => e, fun i b h => absurd h (Nat.not_lt_zero _)⟩ (fun j σ' H' _ z => SqL.of (z.2.1 _ _ at3)) ?_ ?_
    · intro j x σ' Ha Hb hj ⟨⟨u1, e⟩, sa, okj⟩ ⟨eb, ex⟩
      subst e
      subst eb
      rw [List.getElem?_map] at ex
      obtain ⟨a, ha, rfl⟩ := Option.map_eq_some_iff.mp ex
      have ma : a ∈ t.map Prod.fst := perm.mem_iff.mp (List.mem_of_getElem? ha)
      obtain ⟨pa, hv⟩ := par_some ndt ma
      have s0a : Same H Hb := s3.trans sa
      have hit : badF t a = true → DueF t (some (V.str a)) := fun e => .inr ⟨⟨one, few⟩, ys, perm, srt, find_atF ha (fun i b l h => okj i b l h) e⟩
      have hqa := s0a _ _ hq
      have dga : DGet Hb q (.str a) (some (.str pa)) := by have z := DGet.k (k := Sum.inr a) hqa; rw [val_prs, hv] at z; exact z
      refine ⟨_, rfl, _, rfl, q, V.str pa, rfl, dga, ?_⟩
      refine ⟨.str pa, _, _, _, true, rfl, .ty _, .base (.str pa), kit_ty (by decide +kernel), true, rfl, ?_⟩
      refine iteF ?_
      refine ⟨_, rfl, _, rfl, q, V.str pa, rfl, dga, rfl, _, rfl, ?_⟩
      by_cases e : pa = ""
      case' pos =>
        have okn : ringB t a = false → ∀ (i : Nat) (b : Str), i < j + 1 → ys[i]? = some b → badF t b = false := fun er => ok_next okj ha (by unfold badF; rw [er, badB_root (by rw [hv, e])]; rfl)
        subst e
        rw [decide_eq_true rfl]
        refine iteF ?_
        refine iteF ?_
      case' neg =>
        rw [decide_eq_false (show ¬ V.str pa = V.str "" from fun z => e (V.str.inj z))]
        show if true = true then _ else _
        rw [if_pos rfl]
        have dg := DGet.k (k := Sum.inr pa) hqa
        rw [val_prs] at dg
        refine ⟨_, rfl, _, rfl, q, V.str pa, rfl, dga, _, rfl, q, _, rfl, dg, _, rfl, ?_⟩
        by_cases hp : pa ∈ t.map Prod.fst
        case neg =>
          rw [par_none hp]
          exact iteT ⟨_, rfl, give (.str a) (hit (by unfold badF; rw [badB_yes hv e hp, Bool.true_or])) _ s0a⟩
        obtain ⟨pp, hv2⟩ := par_some ndt hp
        have okn : ringB t a = false → ∀ (i : Nat) (b : Str), i < j + 1 → ys[i]? = some b → badF t b = false := fun er => ok_next okj ha (by unfold badF; rw [er, badB_key hv hp]; rfl)
        rw [hv2]
        refine iteF ?_
      all_goals
        refine ⟨_, rfl, _, rfl, q, a, t, rfl, hqa, ndt, few, ma, fun H' s' => ⟨_, rfl, ?_⟩⟩
        cases er : ringB t a with
        | true => exact iteT ⟨_, rfl, give (.str a) (hit (by unfold badF; rw [er, Bool.or_true])) _ (s0a.trans s')⟩
        | false => exact iteF ⟨⟨_, rfl⟩, sa.trans s', okn er⟩
    · intro σ' H' ⟨_, sa, okj⟩
      exact k none (.inr ⟨⟨one, few⟩, ys, perm, srt, find_non fun i b h => okj i b (by rw [List.length_map]; exact (List.getElem?_eq_some_iff.mp h).1) h⟩) H' (s3.trans sa)
end
end FT


/-! two dicts of flat values compared, equal or not -/
namespace L2
open PySem PySem.Spec PyProof.Rows
def rowEq (ls : List (Key × V)) (p : Key × V) : Bool := match valV ls p.1 with
  | some u => eqV p.2 u
  | none => false
def eqDK (ks ls : List (Key × V)) : Bool := ks.length == ls.length && ks.all (rowEq ls)
theorem valV_mem {ls : List (Key × V)} {k : Key} {u : V} (h : valV ls k = some u) : ∃ p ∈ ls, p.2 = u := by
  induction ls with
  | nil => cases h
  | cons p ls ih =>
    by_cases e : p.1 = k
    · rw [valV_pos e] at h
      exact ⟨p, List.mem_cons_self .., Option.some.inj h⟩
    · rw [valV_neg e] at h
      obtain ⟨q, hq, eq⟩ := ih h
      exact ⟨q, List.mem_cons_of_mem _ hq, eq⟩
theorem hits_any {A : Around} {s : Shared} {ls : List (Key × V)} {vb : List (Key × Value)} (rb : KV ls vb) (fl : ∀ p ∈ ls, flatV p.2 = true) {ks : List (Key × V)} {va : List (Key × Value)} (ra : KV ks va) : (∀ p ∈ ks, flatV p.2 = true) → PySem.W.KeqHits A s vb va (ks.all (rowEq ls)) := by
  unfold KV at ra
  induction ra with
  | nil => intro _; exact .nil
  | @cons p q ps qs h t ih =>
    intro fk
    obtain ⟨h1, h2⟩ := h
    have ih := ih fun p' hm => fk p' (List.mem_cons_of_mem _ hm)
    obtain ⟨k, v⟩ := q
    have h1' : p.1 = k := h1
    have rr := rb.val p.1
    rw [List.all_cons]
    cases e : valV ls p.1 with
    | none =>
      rw [e] at rr
      have z := rr.none_of
      rw [h1'] at z
      rw [show rowEq ls p = false by unfold rowEq; rw [e]]
      exact .miss z
    | some u =>
      rw [e] at rr
      obtain ⟨y, hy, ry⟩ := rr.some_of
      rw [h1'] at hy
      obtain ⟨p', hp', e'⟩ := valV_mem e
      have fu : flatV u = true := by rw [← e']; exact fl p' hp'
      rw [show rowEq ls p = eqV p.2 u by unfold rowEq; rw [e]]
      exact .hit hy (eqAt_V h2 ry (fk p (List.mem_cons_self ..)) fu) ih
section
variable {X : Cx}
def rEqDC : R2 := fun x y H Q => ∃ a b ks ls, x = .ref a ∧ y = .ref b ∧ H a = some (.dK ks) ∧ H b = some (.dK ls) ∧ (∀ p ∈ ks, flatV p.2 = true) ∧ (∀ p ∈ ls, flatV p.2 = true) ∧ Q (.bl (eqDK ks ls)) H
def rNeDC : R2 := fun x y H Q => ∃ a b ks ls, x = .ref a ∧ y = .ref b ∧ H a = some (.dK ks) ∧ H b = some (.dK ls) ∧ (∀ p ∈ ks, flatV p.2 = true) ∧ (∀ p ∈ ls, flatV p.2 = true) ∧ Q (.bl (!eqDK ks ls)) H
theorem op_eq_dictC (hu : X.A.units < cLine) : OpR X (compareOp .Eq) rEqDC := by
  intro pins s σ H x y v u Q I rx ry h
  obtain ⟨a, b, ks, ls, rfl, rfl, ea, eb, fk, fl, q⟩ := h
  obtain rfl : v = Value.ref a := rx
  obtain rfl : u = Value.ref b := ry
  obtain ⟨_, ya, va, ra, da⟩ := (show ObjOk X.prog X.w H s.heap a (.dK ks) from I.hok a _ ea)
  obtain ⟨_, yb, vb, rb, db⟩ := (show ObjOk X.prog X.w H s.heap b (.dK ls) from I.hok b _ eb)
  have e : eqDK ks ls = (va.length == vb.length && ks.all (rowEq ls)) := by unfold eqDK; rw [ra.length, rb.length]
  exact PySem.W.keq_eq (knd := mixKind X.prog X.w) (r := ks.all (rowEq ls)) ya yb da db hu (fun _ => hits_any rb fl ra fk) (fin_bl I q e)
theorem op_ne_dictC (hu : X.A.units < cLine) : OpR X (compareOp .NotEq) rNeDC := by
  intro pins s σ H x y v u Q I rx ry h
  obtain ⟨a, b, ks, ls, rfl, rfl, ea, eb, fk, fl, q⟩ := h
  obtain rfl : v = Value.ref a := rx
  obtain rfl : u = Value.ref b := ry
  obtain ⟨_, ya, va, ra, da⟩ := (show ObjOk X.prog X.w H s.heap a (.dK ks) from I.hok a _ ea)
  obtain ⟨_, yb, vb, rb, db⟩ := (show ObjOk X.prog X.w H s.heap b (.dK ls) from I.hok b _ eb)
  have e : (!eqDK ks ls) = !(va.length == vb.length && ks.all (rowEq ls)) := by unfold eqDK; rw [ra.length, rb.length]
  exact PySem.W.keq_ne (knd := mixKind X.prog X.w) (r := ks.all (rowEq ls)) ya yb da db hu (fun _ => hits_any rb fl ra fk) (fin_bl I q e)
end
end L2


/-! Forest.parse of any value -/
namespace FT
open PySem L2 TL ClX
def NoTx (K : PySem.W.Frag) (H : Hp) (v : V) : Prop := ∃ T, Dat K H v T ∧ T ≠ "str"
theorem cut_butL (xs : List V) : cutV xs none (some (-1)) = xs.dropLast := by
  have e : HT.sIx xs.length xs.length (some (-1)) = ((-1 : Int) + (xs.length : Int)).toNat := by
    show (if (-1 : Int) < 0 then ((-1 : Int) + (xs.length : Int)).toNat else min (-1 : Int).toNat xs.length) = _
    rw [if_pos (by decide)]
  show (xs.drop 0).take (HT.sIx xs.length xs.length (some (-1)) - 0) = _
  rw [e, List.drop_zero, List.dropLast_eq_take]
  congr 1
  omega
theorem prs_isInP (t : List (Str × Str)) (r : Str) : (valV (prs t) (Sum.inr r)).isSome = decide (r ∈ t.map Prod.fst) := by
  unfold prs
  rw [kvT_val, look_has, prs_fst]
theorem prs_flatF (t : List (Str × Str)) : ∀ p ∈ prs t, flatV p.2 = true := fun p hp => by
  unfold prs kvT at hp
  rw [List.map_map] at hp
  obtain ⟨z, _, rfl⟩ := List.mem_map.mp hp
  rfl
theorem prs_eqNil (t : List (Str × Str)) : eqDK (prs t) [] = decide (t = []) := by
  cases t with
  | nil => rfl
  | cons z t =>
    unfold eqDK
    rw [decide_eq_false (by simp), prs_len]
    rfl
theorem pars_bad {t : List (Str × Str)} {r : Str} {rs : List Str} {i : Nat} (h : ∀ p, rowOf r = some p → p.1 ∈ t.map Prod.fst) : pars t (r :: rs) i = .inl i := by
  cases e : rowOf r with
  | none => exact pars_none e
  | some p => exact pars_twice e (h p e)
theorem part_len (r : Str) : (Txt.partition r " ").1.length ≤ r.length ∧ (Txt.partition r " ").2.2.length ≤ r.length := by
  have e := congrArg PySem.Str.length (PySem.StrLaws.partition_sum r " ")
  rw [Str.length_append, Str.length_append] at e
  omega
def ParO (CF CT CI : Addr) (H : Hp) (Q : VK) (E : XK) : TDue → Prop
  | .line i => Out H E (.e1 CT "line" (.int (i : Nat)))
  | .name v => Out H E (.e1 CI "name" v)
  | .tree t => ∀ (y : Addr) (ts : List (Str × Str)) H', ts.Perm t → Asc ts → TreeOk t → FAt CF H' y ts → Same H H' → H y = none → Q (.ref y) H'
def spParse (K : PySem.W.Frag) (CF CT CI : Addr) : Sp := fun vs H Q E => ∃ v : V, vs = [v] ∧
  ((∃ z : Str, v = .str z ∧ z.length ≤ 19000 ∧ ∀ o, DueT z o → ParO CF CT CI H Q E o) ∨ (NoTx K H v ∧ Out H E (.e1 CT "line" (.int 0))))
abbrev NFp : List Str := ["text", "parents", "rows", "line", "row", "name", "blank", "above"]
section
variable {P : Program} {w : World} {K : PySem.W.Frag} {mg : Str → Option Value} {base : Heap}
theorem scFp : FnScope NFp ["text"] (defScope s_Forest_parse) := ⟨rfl, rfl, rfl, by decide +kernel, rfl, by decide +kernel, by decide +kernel⟩
theorem ok_parse {f fI fF CF CT CI IT : Addr} {mc : Value} {fd fdI fdF dT : FuncData} (F : Fun K "parse" "Forest.parse" s_Forest_parse f fd) (T : Nm mg) (Z : Fc K mg CF mc)
    (NI : Dn P w K mg base CX0 1 "is_name" ["value"] spIsNameW fI fdI) (M : Mk K CF fF) (GI : FnOk P w K mg base (L2.CX P w) 4 fF fdF ["self", "parents"] (spFInitR CF CI)) (bI : Binds K fdF ["self", "parents"] [])
    (ET : Er1 P w K mg base "InvalidText" "line" CT IT dT) : FnOk P w K mg base (L2.CX P w) 6 f fd ["text"] (spParse K CF CT CI) := by
  obtain ⟨ur, cr⟩ := Z.root
  refine F.okX scFp (fun vs H Q E h => ?_) (fun cdv A outer s H vs Q E hr h => ?_)
  · obtain ⟨v, rfl, _⟩ := h
    rfl
  · obtain ⟨v, rfl, h⟩ := h
    have hu := hu_of hr
    have hr1 : Room 1 _ := hr.mono (by decide)
    have hr2 : Room (1 + 1) _ := hr.mono (by decide)
    have nd := scFp.nd
    have big : 20000 ≤ sizeLine := by decide
    refine ⟨_, pss_cons (ps_if (pt_not (pt_val (pe_callB call_isi (by rfl) T.isi (by decide +kernel) (pa_cons (pv 0) (pa_cons (pe_bltn (v := .ty "str") (u := .type "str") (by rfl) T.str (by decide +kernel) rfl) pa_nil))))) (pss_one (ps_err1 ET rfl (takes_of rfl rfl rfl rfl) hr2 rfl pe_int)) pss_nil)
      (pss_cons (ps_set (i := 1) nd rfl (.inl rfl) pe_dnewK)
      (pss_cons (ps_set (i := 2) nd rfl (.inl rfl) (pe_split (pv 0) pe_str))
      (pss_cons (ps_for (passes_of rfl) rfl (pi_enum rfl T.enu (pa_cons (pe_slice sl_list (pv 2) po_none (po_some (pe_un un_neg pe_int))) pa_nil)) (pg_tup rfl (pgs_cons (pg_name (i := 3) nd rfl (.inl rfl)) (pgs_cons (pg_name (i := 4) nd rfl (.inl rfl)) pgs_nil)))
        (pss_cons (ps_asg (pe_partition (pv 4) pe_str) (pg_tup rfl (pgs_cons (pg_name (i := 5) nd rfl (.inl rfl)) (pgs_cons (pg_name (i := 6) nd rfl (.inl rfl)) (pgs_cons (pg_name (i := 7) nd rfl (.inl rfl)) pgs_nil)))))
        (pss_cons (ps_if (PW.pt (pw_or (pt_not (pt_val (pe_call NI.ok hr1 rfl NI.mgn NI.kp NI.bn .nil pass0 (pa_cons (pv 5) pa_nil)))) (pw_or (pt_cmp (pc_din hu (pv 5) (pv 1))) (pw_or1 (PW.pt (pw_and (pt_cmpR op_ne (pv 7) pe_str (nomark _)) (pw_and1 (pt_not (pt_val (pe_call NI.ok hr1 rfl NI.mgn NI.kp NI.bn .nil pass0 (pa_cons (pv 7) pa_nil)))))))))))
            (pss_one (ps_err1 ET rfl (takes_of rfl rfl rfl rfl) hr2 rfl (pv 3))) pss_nil)
        (pss_one (ps_dput hu (pv 1) (pv 5) (pe_ifExp (pt_cmpR op_eq (pv 7) pe_str (nomark _)) (pe_cval (pe_glob (v := .ref CF) (by rfl) Z.gF rfl)) (pv 7)) rfl)))))
      (pss_cons (ps_if (PW.pt (pw_or (pt_cmpR op_ne (pe_ix ix_list (pv 2) (pe_un un_neg pe_int) (fun _ _ => rfl)) pe_str (nomark _)) (pw_or1 (pt_cmpR (op_eq_dictC (Nat.lt_of_succ_lt hu)) (pv 1) pe_dnewK (nomark _))))) (pss_one (ps_err1 ET rfl (takes_of rfl rfl rfl rfl) hr2 rfl (pe_op op_sub (pe_callB call_len_seq (by rfl) T.len PySem.boot_len (pa_cons (pv 2) pa_nil)) pe_int))) pss_nil)
      (pss_one (ps_ret (pe_make M GI hr (by rfl) Z.gF bI .nil (passes_call (takes_of rfl rfl rfl rfl) (fun _ _ _ _ h => h)) (pa_cons (pv 1) pa_nil)))))))), ?_⟩
    rcases h with ⟨z, rfl, lz, k⟩ | ⟨⟨Tv, dv, nv⟩, kB⟩
    rotate_left
    · refine ⟨_, rfl, v, _, _, _, _, rfl, .ty _, dv.ty, dv.str_, _, rfl, ?_⟩
      rw [decide_eq_false nv]
      show if true = true then _ else _
      rw [if_pos rfl]
      exact out1 kB Same.refl
    refine ⟨_, rfl, .str z, _, _, _, true, rfl, .ty _, .base (.str z), kit_ty (by decide +kernel), true, rfl, ?_⟩
    refine iteF ?_
    refine fun fd nfd => ⟨_, rfl, ⟨_, rfl⟩, _, _, rfl, rfl, by decide +kernel, by omega, fun pw nw => ?_⟩
    obtain ⟨ws, ews⟩ : ∃ ws, ws = Txt.split z "\n" := ⟨_, rfl⟩
    have wne : ws ≠ [] := by rw [ews]; exact split_ne _ _
    have lws : ws.length ≤ z.length + 1 := by rw [ews]; exact split_few rfl
    have wz : wgt ws = z.length + 1 := by rw [ews]; exact split_wgt rfl
    unfold DueT at k
    rw [← ews] at k ⊢
    obtain ⟨rows, er⟩ : ∃ rows, rows = ws.dropLast := ⟨_, rfl⟩
    obtain ⟨last, el⟩ : ∃ last, last = ws.getLast wne := ⟨_, rfl⟩
    have split : ws = rows ++ [last] := by rw [er, el, List.dropLast_concat_getLast]
    have gl : ws.getLast? = some last := by rw [List.getLast?_eq_some_getLast wne, el]
    have lr : rows.length + 1 = ws.length := by rw [split, List.length_append] <;> rfl
    rw [← er, gl] at k
    obtain ⟨H1, e1⟩ : ∃ X, X = upd (upd H fd (.dK [])) pw (.lst (ws.map V.str)) := ⟨_, rfl⟩
    have s1 : Same H H1 := e1 ▸ (same_new nfd).trans (same_new nw)
    have ww : pw ≠ fd := (ne_of_none upd_same nw).symm
    have at1 : H1 pw = some (.lst (ws.map V.str)) := by rw [e1]; exact upd_same
    have hf1 : H1 fd = some (.dK (prs [])) := by rw [e1, upd_ne ww.symm, upd_same] <;> rfl
    rw [← e1]
    refine ⟨_, rfl, 1, rfl, _, rfl, pw, _, rfl, SqL.of at1, fun pr npr => ?_⟩
    rw [show cutV (ws.map V.str) none (some (-1)) = rows.map V.str by rw [cut_butL, er, List.map_dropLast]]
    obtain ⟨H2, e2⟩ : ∃ X, X = upd H1 pr (.lst (rows.map V.str)) := ⟨_, rfl⟩
    have s2 : Same H1 H2 := e2 ▸ same_new npr
    have at2 : H2 pr = some (.lst (rows.map V.str)) := by rw [e2]; exact upd_same
    have at2w := s2 _ _ at1
    have hf2 := s2 _ _ hf1
    rw [← e2]
    have s02 := s1.trans s2
    have kp2 : ∀ H', (∀ b u, b ≠ fd → H2 b = some u → H' b = some u) → Same H H' := fun H' k b u e => k b u (ne_of_none e nfd) (s02 _ _ e)
    have fpr : pr ≠ fd := (ne_of_none hf1 npr).symm
    refine ⟨pr, _, rfl, SqL.of at2, ?_⟩
    refine for_it walk_enum (fun j σ' H' => (∃ u3 u4 u5 u6 u7, σ' = [some (.str z), some (.ref fd), some (.ref pw), u3, u4, u5, u6, u7]) ∧ (∀ b u, b ≠ fd → H2 b = some u → H' b = some u) ∧ ∃ t : List (Str × Str), H' fd = some (.dK (prs t)) ∧ t.length = j ∧ ParT t ∧ pars [] rows 0 = pars t (rows.drop j) j)
      ⟨⟨_, _, _, _, _, rfl⟩, fun _ _ _ e => e, [], hf2, rfl, ParT.nil, by rw [List.drop_zero]⟩ (fun j σ' H' _ z => SqL.of (z.2.1 _ _ fpr at2)) ?_ ?_
    · intro j T' σ' Ha Hb hj ⟨⟨u3, u4, u5, u6, u7, e⟩, sa, t, hfa, ltj, pt, ept⟩ ⟨Tp, i, v, eT, nT, eH, ey, ez⟩
      subst e
      subst eT
      subst eH
      cases ey
      obtain ⟨r, hrw, rfl⟩ := map_of (show (rows.map V.str)[j]? = some v from ez)
      have jl := (List.getElem?_eq_some_iff.mp hrw).1
      have lrz : r.length ≤ z.length := by
        have := wgt_mem (ls := ws) (z := r) (by rw [split]; exact List.mem_append_left _ (List.mem_of_getElem? hrw))
        omega
      have dr : rows.drop j = r :: rows.drop (j + 1) := by
        rw [List.drop_eq_getElem_cons jl, (List.getElem?_eq_some_iff.mp hrw).2]
      rw [dr] at ept
      have sT := same_new (o := .tup [.int (j : Int), .str r]) nT
      obtain ⟨Hc, ec⟩ : ∃ X, X = upd Ha Tp (.tup [.int (j : Int), .str r]) := ⟨_, rfl⟩
      have hTc : Hc Tp = some (.tup [.int (j : Int), .str r]) := by rw [ec]; exact upd_same
      rw [← ec] at sT ⊢
      refine ⟨Tp, _, rfl, .inl (.inl hTc), rfl, ?_⟩
      refine ⟨_, _, rfl, _, _, rfl, rfl, ?_⟩
      have pl := part_len r
      have erow : rowOf r = if nmB (Txt.partition r " ").1 && okUp (Txt.partition r " ").2.2 then some ((Txt.partition r " ").1, plcF (Txt.partition r " ").2.2) else none := rfl
      obtain ⟨⟨n, bl, ab⟩, ep⟩ : ∃ p, Txt.partition r " " = p := ⟨_, rfl⟩
      rw [ep] at pl erow
      have pl1 : n.length ≤ r.length := pl.1
      have pl2 : ab.length ≤ r.length := pl.2
      have erow : rowOf r = if nmB n && okUp ab then some (n, plcF ab) else none := erow
      refine ⟨_, rfl, ⟨_, rfl⟩, _, _, rfl, rfl, by decide +kernel, by omega, fun pp npp => ?_⟩
      rw [ep]
      have sp := sT.trans (same_new (o := .tup [.str n, .str bl, .str ab]) npp)
      have hpp := upd_same (H := Hc) (a := pp) (o := .tup [.str n, .str bl, .str ab])
      obtain ⟨Hd, ed⟩ : ∃ X, X = upd Hc pp (.tup [.str n, .str bl, .str ab]) := ⟨_, rfl⟩
      rw [← ed] at sp hpp ⊢
      refine ⟨pp, _, rfl, .inl (.inl hpp), rfl, ?_⟩
      refine ⟨_, _, rfl, _, _, rfl, _, _, rfl, rfl, ?_⟩
      have s0d : Same H Hd := (kp2 _ sa).trans sp
      have bad : (∀ p, rowOf r = some p → p.1 ∈ t.map Prod.fst) → ∀ {H'}, Same Hd H' → Out H' E (.e1 CT "line" (.int (j : Nat))) := fun h {H'} s' => (k (.line j) (.inl (ept.trans (pars_bad h)))).mono (s0d.trans s')
      have hfd := sp _ _ hfa
      refine ⟨_, rfl, n, rfl, by omega, fun H4 s4 => ⟨_, rfl, ?_⟩⟩
      have hf4 := s4 _ _ hfd
      by_cases b1 : nmB n = true
      rotate_left
      · have b1 : nmB n = false := Bool.eq_false_iff.mpr b1
        rw [b1] at erow ⊢
        exact iteT ⟨_, rfl, out1 (bad (fun p hp => by rw [erow] at hp; cases hp) s4) Same.refl⟩
      rw [b1, Bool.true_and] at erow
      rw [b1]
      refine iteF ?_
      refine ⟨_, rfl, _, rfl, fd, _, rfl, DGet.k (k := Sum.inr n) hf4, _, rfl, ?_⟩
      rw [prs_isInP]
      by_cases mn : n ∈ t.map Prod.fst
      · rw [decide_eq_true mn]
        refine iteT ⟨_, rfl, out1 (bad (fun p hp => ?_) s4) Same.refl⟩
        rw [erow] at hp
        split at hp
        · cases hp
          exact mn
        · cases hp
      rw [decide_eq_false mn]
      refine iteF ?_
      have nn : NameL n := of_decide_eq_true b1
      have go : ∀ {H'} (x : Str), x = plcF ab → okUp ab = true → Same Hd H' → (∃ u3 u4 u5 u6 u7, [some (V.str z), some (V.ref fd), some (V.ref pw), some (V.int (j : Int)), some (V.str r), some (V.str n), some (V.str bl), some (V.str ab)] = [some (.str z), some (.ref fd), some (.ref pw), u3, u4, u5, u6, u7]) ∧ (∀ b u, b ≠ fd → H2 b = some u → (upd H' fd (.dK (putK (prs t) (Sum.inr n) (.str x)))) b = some u) ∧ ∃ t : List (Str × Str), (upd H' fd (.dK (putK (prs _) (Sum.inr n) (.str x)))) fd = some (.dK (prs t)) ∧ t.length = j + 1 ∧ ParT t ∧ pars [] rows 0 = pars t (rows.drop (j + 1)) (j + 1) := fun {H'} x ex ok s' => by
        rw [ok] at erow
        have erow : rowOf r = some (n, plcF ab) := erow
        refine ⟨⟨_, _, _, _, _, rfl⟩, fun b u nb e => ?_, t ++ [(n, plcF ab)], ?_, ?_, pt.snoc nn mn, ?_⟩
        · rw [upd_ne nb]
          exact s' _ _ (sp _ _ (sa b u nb e))
        · rw [upd_same, put_new mn, ex]
        · rw [List.length_append, ltj] <;> rfl
        · rw [ept]
          exact pars_next erow mn
      have room : (prs t).length < sizeLine := by
        rw [prs_len]
        omega
      refine ⟨_, rfl, rfl, _, rfl, ?_⟩
      by_cases ed : ab = "-"
      · rw [decide_eq_true (show V.str ab = V.str "-" by rw [ed])]
        refine iteF ?_
        refine iteF ?_
        refine ⟨_, rfl, rfl, _, rfl, ?_⟩
        show if decide (V.str ab = V.str "-") = true then _ else _
        rw [decide_eq_true (show V.str ab = V.str "-" by rw [ed]), if_pos rfl]
        refine ⟨CF, mc, _, ur, rfl, Z.rd, cr, ?_⟩
        refine ⟨_, rfl, _, rfl, fd, _, rfl, DPut.k (k := Sum.inr n) hf4 room, go "" (by rw [ed]; rfl) (by rw [ed]; rfl) s4⟩
      · rw [decide_eq_false (show ¬ V.str ab = V.str "-" from fun e => ed (V.str.inj e))]
        show if true = true then _ else _
        rw [if_pos rfl]
        refine ⟨_, rfl, ab, rfl, by omega, fun H5 s5 => ⟨_, rfl, ?_⟩⟩
        have hf5 := s5 _ _ hf4
        have eo : okUp ab = nmB ab := by
          unfold okUp
          rw [decide_eq_false ed, Bool.false_or]
        by_cases b2 : nmB ab = true
        rotate_left
        · have b2 : nmB ab = false := Bool.eq_false_iff.mpr b2
          rw [eo, b2] at erow
          rw [b2]
          exact iteT ⟨_, rfl, out1 (bad (fun p hp => by rw [erow] at hp; cases hp) (s4.trans s5)) Same.refl⟩
        rw [b2]
        refine iteF ?_
        refine ⟨_, rfl, rfl, _, rfl, ?_⟩
        show if decide (V.str ab = V.str "-") = true then _ else _
        rw [decide_eq_false (fun e => ed (V.str.inj e))]
        refine iteF ?_
        refine ⟨_, rfl, _, rfl, _, rfl, fd, _, rfl, DPut.k (k := Sum.inr n) hf5 room, go ab (if_neg ed).symm (by rw [eo, b2]) (s4.trans s5)⟩
    · intro σ' H3 ⟨⟨u3, u4, u5, u6, u7, e⟩, sa, t, hfa, ltj, pt, ept⟩
      subst e
      rw [List.length_map] at ltj ept
      rw [List.drop_length, pars_end] at ept
      have at3 := sa _ _ ww at2w
      have s03 := kp2 _ sa
      have lw : (ws.map V.str).length = rows.length + 1 := by rw [List.length_map, lr]
      have raised : (last ≠ "" ∨ t = []) → ∀ {H4}, Same H3 H4 → tMkO CT (spInit1 CT "line") [] (tCons (tOp (rI0 fun i j => V.int (i - j)) (tCB (fun xs H Q => ∃ (p : Addr) (ys : List V), xs = [V.ref p] ∧ (SqL K H p ys ∨ SqT K H p ys) ∧ Q (V.int (ys.length : Int)) H) (tCons (tVar 2) tNil)) (tC (V.int 1))) tNil) [some (.str z), some (.ref fd), some (.ref pw), u3, u4, u5, u6, u7] H4 fun cls d H' => E cls d H' := fun nb {H4} s4 => by
        refine ⟨_, rfl, pw, _, rfl, .inl (SqL.of (s4 _ _ at3)), _, _, rfl, rfl, ?_⟩
        rw [lw]
        have o := k (.line rows.length) (.inr ⟨t, ept, nb.imp (fun h e => h (Option.some.inj e)) id, rfl⟩)
        refine out1 ?_ Same.refl
        show Out H4 E (.e1 CT "line" (V.int (((rows.length + 1 : Nat) : Int) - 1)))
        rw [show (((rows.length + 1 : Nat) : Int) - 1) = (rows.length : Int) by omega]
        exact Out.mono (s03.trans s4) (show Out H E (.e1 CT "line" (.int (rows.length : Nat))) from o)
      refine ⟨_, rfl, 1, rfl, pw, _, _, .str last, rfl, rfl, SqL.of at3, ?_, rfl, _, rfl, ?_⟩
      · unfold atI ixN
        rw [if_neg (by decide), if_pos (by omega)]
        show (ws.map V.str)[_]? = _
        rw [show ((-1 : Int) + ((ws.map V.str).length : Int)).toNat = rows.length by omega, split, List.map_append, List.getElem?_append_right (by rw [List.length_map]; exact Nat.le_refl _), List.length_map, Nat.sub_self] <;> rfl
      by_cases e0 : last = ""
      rotate_left
      · rw [decide_eq_false (show ¬ V.str last = V.str "" from fun e => e0 (V.str.inj e))]
        exact iteT (raised (.inl e0) Same.refl)
      rw [decide_eq_true (show V.str last = V.str "" by rw [e0])]
      refine iteF ?_
      refine ⟨_, rfl, fun pe npe => ⟨fd, pe, prs t, [], rfl, rfl, ?_, upd_same, prs_flatF t, fun p hp => (by cases hp), _, rfl, ?_⟩⟩
      · exact (same_new npe) _ _ hfa
      rw [prs_eqNil]
      have s4 := same_new (o := .dK []) npe
      by_cases tn : t = []
      · rw [decide_eq_true tn]
        exact iteT (raised (.inr tn) s4)
      rw [decide_eq_false tn]
      refine iteF ?_
      have hf4 := s4 _ _ hfa
      have s04 := s03.trans s4
      refine ⟨_, rfl, ?_⟩
      intro y dy ny ndy yd
      have sN : Same (upd H3 pe (.dK [])) (upd (upd (upd H3 pe (.dK [])) dy (.own y)) y (.ins CF dy [])) := fun b u e => by
        rw [upd_ne (ne_of_none e ny), upd_ne (ne_of_none e ndy)]
        exact e
      refine ⟨y, fd, dy, t, rfl, upd_same, sN _ _ hf4, pt.nd, pt.nm, by omega, fun o due => ?_⟩
      cases o with
      | some v =>
        have o : Out H E (.e1 CI "name" v) := k (.name v) ⟨t, ept, by rw [e0], tn, due⟩
        exact Out.mono (s04.trans sN) o
      | none =>
        intro H5 ts perm asc fa oth
        refine ⟨rfl, ?_⟩
        exact k (.tree t) ⟨ept, by rw [e0], tn, due⟩ y ts H5 perm asc (due_tree pt.nd pt.nm due) fa (fun b u e => oth b u (ne_of_none (s04 _ _ e) ny) (sN _ _ (s04 _ _ e))) (s04.free ny)
end
end FT


/-! _law_parsed of any text -/
namespace FT
open PySem L2 TL ClX
theorem split_none {r : Str} (h : ∀ a b, Txt.split r " " = [a, b] → NameL a → upOk b → False) : rowOf r = none := by
  cases e : rowOf r with
  | none => rfl
  | some p =>
    obtain ⟨b, es, n, u, _⟩ := rowOf_split e
    exact absurd es fun es => h _ _ es n u
theorem split_some {r a b : Str} (h : Txt.split r " " = [a, b]) (n : NameL a) (u : upOk b) : rowOf r = some (a, plcF b) := rowOf_some ⟨n, u, split_row h⟩
theorem split_bad {r a b : Str} (h : Txt.split r " " = [a, b]) (c : ¬ NameL a ∨ ¬ upOk b) : rowOf r = none := split_none fun a' b' e n u => by
  rw [h] at e
  cases e
  exact c.elim (fun c => c n) fun c => c u
def ParG (H : Hp) (Q : VK) : TDue → Prop
  | .line i => ∀ p H', Same H H' → H p = none → H' p = some (.tup [.str "text", .int (i : Nat)]) → Q (.ref p) H'
  | .name v => ∀ p H', Same H H' → H p = none → H' p = some (.tup [.str "forest", v]) → Q (.ref p) H'
  | .tree t => ∀ p H', Same H H' → H p = none → H' p = some (.dK (prs t)) → Q (.ref p) H'
def spParsed : Sp := fun vs H Q _ => ∃ z : Str, vs = [.str z] ∧ z.length ≤ 19000 ∧ ∀ o, DueT z o → ParG H Q o
abbrev NPd : List Str := ["_law_said", "_law_found", "_law_rows", "_law_at", "_law_row_here", "_law_words", "_law_due_here"]
section
variable {P : Program} {w : World} {K : PySem.W.Frag} {mg : Str → Option Value} {base : Heap}
theorem scPd : FnScope NPd ["_law_said"] (defScope s__law_parsed) := ⟨rfl, rfl, rfl, by decide +kernel, rfl, by decide +kernel, by decide +kernel⟩
theorem ok_parsed {f fI fD : Addr} {fd fdI fdD : FuncData} (F : Fun K "_law_parsed" "_law_parsed" s__law_parsed f fd) (T : Nm mg)
    (NI : Dn P w K mg base CX0 1 "_law_is_name" ["_law_item"] spIsNameW fI fdI) (ND : Dn P w K mg base CX0 2 "_law_due" ["_law_item"] spDueL fD fdD) : FnOk P w K mg base CX0 3 f fd ["_law_said"] spParsed := by
  refine F.ok scPd (fun vs H Q E h => ?_) (fun cdv A outer s H vs Q E hr h => ?_)
  · obtain ⟨z, rfl, _⟩ := h
    rfl
  · obtain ⟨z, rfl, lz, k⟩ := h
    have hu := hu_of hr
    have hr1 : Room 1 _ := hr.mono (by decide)
    have nd := scPd.nd
    have big : 20000 ≤ sizeLine := by decide
    refine ⟨_, pss_cons (ps_if (pt_not (pt_val (pe_callB call_isi (by rfl) T.isi (by decide +kernel) (pa_cons (pv 0) (pa_cons (pe_bltn (v := .ty "str") (u := .type "str") (by rfl) T.str (by decide +kernel) rfl) pa_nil))))) (pss_one (ps_ret (pe_tup (pa_cons pe_str (pa_cons pe_int pa_nil))))) pss_nil)
      (pss_cons (ps_par (i := 1) (j := 2) rfl nd rfl rfl (by decide) rfl rfl (pa_cons pe_dnewK (pa_cons (pe_split (pv 0) pe_str) pa_nil)) (by rfl))
      (pss_cons (ps_for PassesOwn.never rfl (pi_enum rfl T.enu (pa_cons (pe_slice sl_list (pv 2) po_none (po_some (pe_un un_neg pe_int))) pa_nil)) (pg_tup rfl (pgs_cons (pg_name (i := 3) nd rfl (.inl rfl)) (pgs_cons (pg_name (i := 4) nd rfl (.inl rfl)) pgs_nil)))
        (pss_cons (ps_set (i := 5) nd rfl (.inl rfl) (pe_split (pv 4) pe_str))
        (pss_cons (ps_if (PW.pt (pw_or (pt_cmpR op_ne (pe_callB call_len_seq (by rfl) T.len PySem.boot_len (pa_cons (pv 5) pa_nil)) pe_int (nomark _)) (pw_or (pt_not (pt_val (pe_call NI.ok hr1 rfl NI.mgn NI.kp NI.bn .nil pass0 (pa_cons (pe_ix ix_list (pv 5) pe_int (fun _ _ => rfl)) pa_nil)))) (pw_or1 (pt_cmp (pc_din hu (pe_ix ix_list (pv 5) pe_int (fun _ _ => rfl)) (pv 1)))))))
            (pss_one (ps_ret (pe_tup (pa_cons pe_str (pa_cons (pv 3) pa_nil))))) pss_nil)
        (pss_cons (ps_if (PW.pt (pw_and (pt_cmpR op_ne (pe_ix ix_list (pv 5) pe_int (fun _ _ => rfl)) pe_str (nomark _)) (pw_and1 (pt_not (pt_val (pe_call NI.ok hr1 rfl NI.mgn NI.kp NI.bn .nil pass0 (pa_cons (pe_ix ix_list (pv 5) pe_int (fun _ _ => rfl)) pa_nil)))))))
            (pss_one (ps_ret (pe_tup (pa_cons pe_str (pa_cons (pv 3) pa_nil))))) pss_nil)
        (pss_one (ps_dput hu (pv 1) (pe_ix ix_list (pv 5) pe_int (fun _ _ => rfl)) (pe_ifExp (pt_cmpR op_eq (pe_ix ix_list (pv 5) pe_int (fun _ _ => rfl)) pe_str (nomark _)) pe_str (pe_ix ix_list (pv 5) pe_int (fun _ _ => rfl))) rfl))))))
      (pss_cons (ps_if (PW.pt (pw_or (pt_cmpR op_ne (pe_ix ix_list (pv 2) (pe_un un_neg pe_int) (fun _ _ => rfl)) pe_str (nomark _)) (pw_or1 (pt_cmpR (op_eq_dictC (Nat.lt_of_succ_lt hu)) (pv 1) pe_dnewK (nomark _))))) (pss_one (ps_ret (pe_tup (pa_cons pe_str (pa_cons (pe_op op_sub (pe_callB call_len_seq (by rfl) T.len PySem.boot_len (pa_cons (pv 2) pa_nil)) pe_int) pa_nil))))) pss_nil)
      (pss_cons (ps_set (i := 6) nd rfl (.inl rfl) (pe_call ND.ok hr rfl ND.mgn ND.kp ND.bn .nil pass0 (pa_cons (pv 1) pa_nil)))
      (pss_one (ps_ret (pe_ifExp (pt_cmpR op_isN (pv 6) pe_non (nomark _)) (pv 1) (pe_tup (pa_cons pe_str (pa_cons (pe_ix ix_tup (pv 6) pe_int (fun _ _ => rfl)) pa_nil)))))))))), ?_⟩
    refine ⟨_, rfl, .str z, _, _, _, true, rfl, .ty _, .base (.str z), kit_ty (by decide +kernel), true, rfl, ?_⟩
    refine iteF ?_
    refine fun fd nfd => ⟨_, rfl, ⟨_, rfl⟩, _, _, rfl, rfl, by decide +kernel, by omega, fun pw nw => ⟨_, _, rfl, ?_⟩⟩
    obtain ⟨ws, ews⟩ : ∃ ws, ws = Txt.split z "\n" := ⟨_, rfl⟩
    have wne : ws ≠ [] := by rw [ews]; exact split_ne _ _
    have lws : ws.length ≤ z.length + 1 := by rw [ews]; exact split_few rfl
    have wz : wgt ws = z.length + 1 := by rw [ews]; exact split_wgt rfl
    unfold DueT at k
    rw [← ews] at k ⊢
    obtain ⟨rows, er⟩ : ∃ rows, rows = ws.dropLast := ⟨_, rfl⟩
    obtain ⟨last, el⟩ : ∃ last, last = ws.getLast wne := ⟨_, rfl⟩
    have split : ws = rows ++ [last] := by rw [er, el, List.dropLast_concat_getLast]
    have gl : ws.getLast? = some last := by rw [List.getLast?_eq_some_getLast wne, el]
    have lr : rows.length + 1 = ws.length := by rw [split, List.length_append] <;> rfl
    rw [← er, gl] at k
    obtain ⟨H1, e1⟩ : ∃ X, X = upd (upd H fd (.dK [])) pw (.lst (ws.map V.str)) := ⟨_, rfl⟩
    have s1 : Same H H1 := e1 ▸ (same_new nfd).trans (same_new nw)
    have ww : pw ≠ fd := (ne_of_none upd_same nw).symm
    have at1 : H1 pw = some (.lst (ws.map V.str)) := by rw [e1]; exact upd_same
    have hf1 : H1 fd = some (.dK (prs [])) := by rw [e1, upd_ne ww.symm, upd_same] <;> rfl
    rw [← e1]
    refine ⟨_, rfl, 1, rfl, _, rfl, pw, _, rfl, SqL.of at1, fun pr npr => ?_⟩
    rw [show cutV (ws.map V.str) none (some (-1)) = rows.map V.str by rw [cut_butL, er, List.map_dropLast]]
    obtain ⟨H2, e2⟩ : ∃ X, X = upd H1 pr (.lst (rows.map V.str)) := ⟨_, rfl⟩
    have s2 : Same H1 H2 := e2 ▸ same_new npr
    have at2 : H2 pr = some (.lst (rows.map V.str)) := by rw [e2]; exact upd_same
    have at2w := s2 _ _ at1
    have hf2 := s2 _ _ hf1
    rw [← e2]
    have s02 := s1.trans s2
    have kp2 : ∀ H', (∀ b u, b ≠ fd → H2 b = some u → H' b = some u) → Same H H' := fun H' k b u e => k b u (ne_of_none e nfd) (s02 _ _ e)
    have fpr : pr ≠ fd := (ne_of_none hf1 npr).symm
    have lin : ∀ (i : Nat), (pars [] rows 0 = .inl i ∨ ∃ t, pars [] rows 0 = .inr t ∧ (some last ≠ some ("" : Str) ∨ t = []) ∧ i = rows.length) → ∀ {H'}, Same H H' → ∀ p, H' p = none → Q (.ref p) (upd H' p (.tup [.str "text", .int (i : Nat)])) := fun i d {H'} s p np => by
      have g : ∀ p H', Same H H' → H p = none → H' p = some (.tup [.str "text", .int (i : Nat)]) → Q (.ref p) H' := k (.line i) d
      exact g p _ (s.trans (same_new np)) (s.free np) upd_same
    refine ⟨pr, _, rfl, SqL.of at2, ?_⟩
    refine for_it walk_enum (fun j σ' H' => (∃ u3 u4 u5, σ' = [some (.str z), some (.ref fd), some (.ref pw), u3, u4, u5, none]) ∧ (∀ b u, b ≠ fd → H2 b = some u → H' b = some u) ∧ ∃ t : List (Str × Str), H' fd = some (.dK (prs t)) ∧ t.length = j ∧ ParT t ∧ pars [] rows 0 = pars t (rows.drop j) j)
      ⟨⟨_, _, _, rfl⟩, fun _ _ _ e => e, [], hf2, rfl, ParT.nil, by rw [List.drop_zero]⟩ (fun j σ' H' _ z => SqL.of (z.2.1 _ _ fpr at2)) ?_ ?_
    · intro j T' σ' Ha Hb hj ⟨⟨u3, u4, u5, e⟩, sa, t, hfa, ltj, pt, ept⟩ ⟨Tp, i, v, eT, nT, eH, ey, ez⟩
      subst e
      subst eT
      subst eH
      cases ey
      obtain ⟨r, hrw, rfl⟩ := map_of (show (rows.map V.str)[j]? = some v from ez)
      have jl := (List.getElem?_eq_some_iff.mp hrw).1
      have lrz : r.length ≤ z.length := by
        have := wgt_mem (ls := ws) (z := r) (by rw [split]; exact List.mem_append_left _ (List.mem_of_getElem? hrw))
        omega
      have dr : rows.drop j = r :: rows.drop (j + 1) := by
        rw [List.drop_eq_getElem_cons jl, (List.getElem?_eq_some_iff.mp hrw).2]
      rw [dr] at ept
      have sT := same_new (o := .tup [.int (j : Int), .str r]) nT
      obtain ⟨Hc, ec⟩ : ∃ X, X = upd Ha Tp (.tup [.int (j : Int), .str r]) := ⟨_, rfl⟩
      have hTc : Hc Tp = some (.tup [.int (j : Int), .str r]) := by rw [ec]; exact upd_same
      rw [← ec] at sT ⊢
      refine ⟨Tp, _, rfl, .inl (.inl hTc), rfl, ?_⟩
      refine ⟨_, _, rfl, _, _, rfl, rfl, ?_⟩
      refine ⟨_, rfl, ⟨_, rfl⟩, _, _, rfl, rfl, by decide +kernel, by omega, fun pp npp => ?_⟩
      obtain ⟨vs, evs⟩ : ∃ vs, vs = Txt.split r " " := ⟨_, rfl⟩
      have lvs : vs.length ≤ r.length + 1 := by rw [evs]; exact split_few rfl
      have wvs : wgt vs = r.length + 1 := by rw [evs]; exact split_wgt rfl
      rw [← evs]
      have sp := sT.trans (same_new (o := .lst (vs.map V.str)) npp)
      have hpp := upd_same (H := Hc) (a := pp) (o := .lst (vs.map V.str))
      obtain ⟨Hd, ed⟩ : ∃ X, X = upd Hc pp (.lst (vs.map V.str)) := ⟨_, rfl⟩
      rw [← ed] at sp hpp ⊢
      have s0d : Same H Hd := (kp2 _ sa).trans sp
      have bad : (∀ p, rowOf r = some p → p.1 ∈ t.map Prod.fst) → ∀ {H'}, Same Hd H' → ∀ p, H' p = none → Q (.ref p) (upd H' p (.tup [.str "text", .int (j : Nat)])) := fun h {H'} s' => lin j (.inl (ept.trans (pars_bad h))) (s0d.trans s')
      have none_bad : rowOf r = none → ∀ p, rowOf r = some p → p.1 ∈ t.map Prod.fst := fun e p h => by rw [e] at h; cases h
      have hfd := sp _ _ hfa
      have ppf : pp ≠ fd := (ne_of_none (sT _ _ hfa) npp).symm
      refine ⟨_, rfl, pp, _, rfl, .inl (SqL.of hpp), rfl, _, rfl, ?_⟩
      rw [List.length_map]
      by_cases l2 : vs.length = 2
      rotate_left
      · rw [decide_eq_false (show ¬ V.int (vs.length : Int) = V.int 2 from fun e => l2 (by have := V.int.inj e; omega))]
        exact iteT ⟨_, rfl, by show 2 ≤ sizeLine; omega, bad (none_bad (split_none fun a b e n u => l2 (by rw [evs, e] <;> rfl))) Same.refl⟩
      rw [decide_eq_true (show V.int (vs.length : Int) = V.int 2 by rw [l2] <;> rfl)]
      refine iteF ?_
      obtain ⟨a, b, eab⟩ : ∃ a b, vs = [a, b] := by
        match vs, l2 with
        | [a, b], _ => exact ⟨a, b, rfl⟩
      subst eab
      have es : Txt.split r " " = [a, b] := evs.symm
      have la : a.length ≤ r.length := by
        have := wgt_mem (ls := [a, b]) (z := a) (List.mem_cons_self ..)
        omega
      have lb : b.length ≤ r.length := by
        have := wgt_mem (ls := [a, b]) (z := b) (List.mem_cons_of_mem _ (List.mem_cons_self ..))
        omega
      have at0 : ∀ {H'}, Same Hd H' → H' pp = some (.lst [.str a, .str b]) := fun {H'} s => s _ _ hpp
      refine ⟨_, rfl, pp, _, _, .str a, rfl, rfl, SqL.of hpp, rfl, a, rfl, by omega, fun H4 s4 => ⟨_, rfl, ?_⟩⟩
      have hf4 := s4 _ _ hfd
      by_cases b1 : nmB a = true
      rotate_left
      · have b1' : nmB a = false := Bool.eq_false_iff.mpr b1
        rw [b1']
        exact iteT ⟨_, rfl, by show 2 ≤ sizeLine; omega, bad (none_bad (split_bad es (.inl fun n => b1 (nmB_yes n)))) s4⟩
      rw [b1]
      refine iteF ?_
      have nn : NameL a := of_decide_eq_true b1
      refine ⟨_, rfl, pp, _, _, .str a, rfl, rfl, SqL.of (at0 s4), rfl, _, rfl, fd, _, rfl, DGet.k (k := Sum.inr a) hf4, _, rfl, ?_⟩
      rw [prs_isInP]
      by_cases mn : a ∈ t.map Prod.fst
      · rw [decide_eq_true mn]
        refine iteT ⟨_, rfl, by show 2 ≤ sizeLine; omega, bad (fun p hp => ?_) s4⟩
        obtain ⟨b', es', _⟩ := rowOf_split hp
        rw [es] at es'
        rw [← (List.cons.inj es').1]
        exact mn
      rw [decide_eq_false mn]
      refine iteF ?_
      refine ⟨_, rfl, pp, _, _, .str b, rfl, rfl, SqL.of (at0 s4), rfl, rfl, _, rfl, ?_⟩
      have go : ∀ {H'} (x : Str), x = plcF b → upOk b → Same Hd H' → (∃ u3 u4 u5, [some (V.str z), some (V.ref fd), some (V.ref pw), some (V.int (j : Int)), some (V.str r), some (V.ref pp), none] = [some (.str z), some (.ref fd), some (.ref pw), u3, u4, u5, none]) ∧ (∀ b u, b ≠ fd → H2 b = some u → (upd H' fd (.dK (putK (prs t) (Sum.inr a) (.str x)))) b = some u) ∧ ∃ t' : List (Str × Str), (upd H' fd (.dK (putK (prs t) (Sum.inr a) (.str x)))) fd = some (.dK (prs t')) ∧ t'.length = j + 1 ∧ ParT t' ∧ pars [] rows 0 = pars t' (rows.drop (j + 1)) (j + 1) := fun {H'} x ex ok s' => by
        refine ⟨⟨_, _, _, rfl⟩, fun b u nb e => ?_, t ++ [(a, plcF b)], ?_, ?_, pt.snoc nn mn, ?_⟩
        · rw [upd_ne nb]
          exact s' _ _ (sp _ _ (sa b u nb e))
        · rw [upd_same, put_new mn, ex]
        · rw [List.length_append, ltj] <;> rfl
        · rw [ept]
          exact pars_next (split_some es nn ok) mn
      have room : (prs t).length < sizeLine := by
        rw [prs_len]
        omega
      by_cases ed : b = "-"
      · rw [decide_eq_true (show V.str b = V.str "-" by rw [ed])]
        refine iteF ?_
        refine iteF ?_
        refine ⟨_, rfl, pp, _, _, .str b, rfl, rfl, SqL.of (at0 s4), rfl, rfl, _, rfl, ?_⟩
        show if decide (V.str b = V.str "-") = true then _ else _
        rw [decide_eq_true (show V.str b = V.str "-" by rw [ed]), if_pos rfl]
        refine ⟨_, rfl, _, rfl, pp, _, _, .str a, rfl, rfl, SqL.of (at0 s4), rfl, fd, _, rfl, DPut.k (k := Sum.inr a) hf4 room, go "" (by rw [ed]; rfl) (.inl ed) s4⟩
      · rw [decide_eq_false (show ¬ V.str b = V.str "-" from fun e => ed (V.str.inj e))]
        show if true = true then _ else _
        rw [if_pos rfl]
        refine ⟨_, rfl, pp, _, _, .str b, rfl, rfl, SqL.of (at0 s4), rfl, b, rfl, by omega, fun H5 s5 => ⟨_, rfl, ?_⟩⟩
        have hf5 := s5 _ _ hf4
        by_cases b2 : nmB b = true
        rotate_left
        · have b2' : nmB b = false := Bool.eq_false_iff.mpr b2
          rw [b2']
          exact iteT ⟨_, rfl, by show 2 ≤ sizeLine; omega, bad (none_bad (split_bad es (.inr fun u => u.elim ed fun n => b2 (nmB_yes n)))) (s4.trans s5)⟩
        rw [b2]
        refine iteF ?_
        have s45 := s4.trans s5
        refine ⟨_, rfl, pp, _, _, .str b, rfl, rfl, SqL.of (at0 s45), rfl, rfl, _, rfl, ?_⟩
        show if decide (V.str b = V.str "-") = true then _ else _
        rw [decide_eq_false (fun e => ed (V.str.inj e))]
        refine iteF ?_
        refine ⟨_, rfl, pp, _, _, .str b, rfl, rfl, SqL.of (at0 s45), rfl, _, rfl, _, rfl, pp, _, _, .str a, rfl, rfl, SqL.of (at0 s45), rfl, fd, _, rfl, DPut.k (k := Sum.inr a) hf5 room, go b (if_neg ed).symm (.inr (of_decide_eq_true b2)) s45⟩
    · intro σ' H3 ⟨⟨u3, u4, u5, e⟩, sa, t, hfa, ltj, pt, ept⟩
      subst e
      rw [List.length_map] at ltj ept
      rw [List.drop_length, pars_end] at ept
      have at3 := sa _ _ ww at2w
      have s03 := kp2 _ sa
      have lw : (ws.map V.str).length = rows.length + 1 := by rw [List.length_map, lr]
      have told : (last ≠ "" ∨ t = []) → ∀ {H4}, Same H3 H4 → tOp (rI0 fun i j => V.int (i - j)) (tCB (fun xs H Q => ∃ (p : Addr) (ys : List V), xs = [V.ref p] ∧ (SqL K H p ys ∨ SqT K H p ys) ∧ Q (V.int (ys.length : Int)) H) (tCons (tVar 2) tNil)) (tC (V.int 1)) [some (.str z), some (.ref fd), some (.ref pw), u3, u4, u5, none] H4 fun v H5 => [V.str "text", v].length ≤ sizeLine ∧ ∀ p, H5 p = none → Q (.ref p) (upd H5 p (.tup [V.str "text", v])) := fun nb {H4} s4 => by
        refine ⟨_, rfl, pw, _, rfl, .inl (SqL.of (s4 _ _ at3)), _, _, rfl, rfl, ?_⟩
        rw [lw]
        refine ⟨by show 2 ≤ sizeLine; omega, ?_⟩
        show ∀ p, H4 p = none → Q (.ref p) (upd H4 p (.tup [V.str "text", V.int (((rows.length + 1 : Nat) : Int) - 1)]))
        rw [show (((rows.length + 1 : Nat) : Int) - 1) = (rows.length : Int) by omega]
        exact lin rows.length (.inr ⟨t, ept, nb.imp (fun h e => h (Option.some.inj e)) id, rfl⟩) (s03.trans s4)
      refine ⟨_, rfl, 1, rfl, pw, _, _, .str last, rfl, rfl, SqL.of at3, ?_, rfl, _, rfl, ?_⟩
      · unfold atI ixN
        rw [if_neg (by decide), if_pos (by omega)]
        show (ws.map V.str)[_]? = _
        rw [show ((-1 : Int) + ((ws.map V.str).length : Int)).toNat = rows.length by omega, split, List.map_append, List.getElem?_append_right (by rw [List.length_map]; exact Nat.le_refl _), List.length_map, Nat.sub_self] <;> rfl
      by_cases e0 : last = ""
      rotate_left
      · rw [decide_eq_false (show ¬ V.str last = V.str "" from fun e => e0 (V.str.inj e))]
        exact iteT (told (.inl e0) Same.refl)
      rw [decide_eq_true (show V.str last = V.str "" by rw [e0])]
      refine iteF ?_
      refine ⟨_, rfl, fun pe npe => ⟨fd, pe, prs t, [], rfl, rfl, ?_, upd_same, prs_flatF t, fun p hp => (by cases hp), _, rfl, ?_⟩⟩
      · exact (same_new npe) _ _ hfa
      rw [prs_eqNil]
      have s4 := same_new (o := .dK []) npe
      by_cases tn : t = []
      · rw [decide_eq_true tn]
        exact iteT (told (.inr tn) s4)
      rw [decide_eq_false tn]
      refine iteF ?_
      have hf4 := s4 _ _ hfa
      have s04 := s03.trans s4
      have gt : last = "" := e0
      refine ⟨_, rfl, fd, t, rfl, hf4, pt.nd, pt.nm, by omega, fun o due => ?_⟩
      cases o with
      | some v =>
        intro pt_ H5 s5 np5 hp5
        have g : ∀ p H', Same H H' → H p = none → H' p = some (.tup [.str "forest", v]) → Q (.ref p) H' := k (.name v) ⟨t, ept, by rw [e0], tn, due⟩
        refine ⟨_, rfl, rfl, _, rfl, ?_⟩
        refine iteF ?_
        refine ⟨_, rfl, pt_, _, _, v, rfl, rfl, SqT.of hp5, rfl, by show 2 ≤ sizeLine; omega, fun p np => ?_⟩
        exact g p _ ((s04.trans s5).trans (same_new np)) ((s04.trans s5).free np) upd_same
      | none =>
        intro H5 s5
        have g : ∀ p H', Same H H' → H p = none → H' p = some (.dK (prs t)) → Q (.ref p) H' := k (.tree t) ⟨ept, by rw [e0], tn, due⟩
        refine ⟨_, rfl, rfl, _, rfl, ?_⟩
        refine iteT ⟨_, rfl, ?_⟩
        exact g fd H5 (s04.trans s5) nfd (s5 _ _ hf4)
end
end FT


/-! _law_bent of k02: some text, not too long -/
namespace FT
open PySem L2 TL ClX
def spBentF : Sp := fun vs H Q _ => ∃ (d c : Addr) (z : Str), vs = [.ref d, .str z] ∧ DrawAt H d c ∧ z.length ≤ 4000 ∧ ∀ (y : Str) (H' : Hp), y.length ≤ 4 * z.length + 80 → DrawAt H' d c → Keep d c H H' → Q (.str y) H'
abbrev NBf : List Str := ["_law_draw", "_law_said", "_law_way", "_law_at", "_law_sign", "_law_rows", "_law_one", "_law_two", "_law_words", "_law_odd"]
theorem cut_strsF (A : List Str) (lo hi : Option Int) : ∃ L : List Str, cutV (A.map V.str) lo hi = L.map V.str ∧ L.length ≤ A.length ∧ wgt L ≤ wgt A := by
  unfold cutV
  generalize HT.sIx (A.map V.str).length 0 lo = i
  generalize HT.sIx (A.map V.str).length (A.map V.str).length hi - i = k
  refine ⟨(A.drop i).take k, by rw [List.map_take, List.map_drop], ?_, ?_⟩
  · rw [List.length_take, List.length_drop]
    omega
  · have h1 : wgt A = wgt (A.take i) + wgt (A.drop i) := by rw [← wgt_app, List.take_append_drop]
    have h2 : wgt (A.drop i) = wgt ((A.drop i).take k) + wgt ((A.drop i).drop k) := by rw [← wgt_app, List.take_append_drop]
    omega
theorem set_wgt (A : List Str) (j : Nat) (x : Str) : wgt (A.set j x) ≤ wgt A + (x.length + 1) := by
  induction A generalizing j with
  | nil => exact Nat.zero_le _
  | cons a A ih =>
    cases j with
    | zero => rw [List.set_cons_zero, wgt_cons, wgt_cons]; omega
    | succ j =>
      have := ih j
      rw [List.set_cons_succ, wgt_cons, wgt_cons]
      omega
/-- a text that ends with a blank has two parts -/
theorem split_two (x : Str) : 2 ≤ (Txt.split (x ++ " ") " ").length := by
  have ne := split_ne (x ++ " ") " "
  have jn := PySem.StrLaws.join_split (x ++ " ") " "
  have fr := PySem.StrLaws.split_free (x ++ " ") 32
  match h : Txt.split (x ++ " ") " ", ne with
  | [p], _ =>
    exfalso
    rw [h] at jn
    have e : p = x ++ " " := jn
    refine fr p ?_ ?_
    · show p ∈ Txt.split (x ++ " ") " "
      rw [h]
      exact List.mem_singleton.mpr rfl
    · show 32 ∈ tl p
      rw [e, tl_append]
      exact List.mem_append_right _ (List.mem_singleton.mpr rfl)
  | p :: q :: r, _ => show 2 ≤ r.length + 1 + 1; omega
/-- a list of texts of some weight -/
def LsF (H : Hp) (l : Addr) (W : Nat) : Prop := ∃ A : List Str, H l = some (.lst (A.map V.str)) ∧ wgt A ≤ W
theorem LsF.mono {H H' : Hp} {l : Addr} {W : Nat} (s : Same H H') (h : LsF H l W) : LsF H' l W := let ⟨A, e, w⟩ := h; ⟨A, s _ _ e, w⟩
theorem catF {H : Hp} {l1 l2 : Addr} {W1 W2 : Nat} {Q : VK} (h1 : LsF H l1 W1) (h2 : LsF H l2 W2) (few : W1 + W2 ≤ 100000) (k : ∀ p H', Same H H' → H p = none → LsF H' p (W1 + W2) → Q (.ref p) H') : rCat (.ref l1) (.ref l2) H Q := by
  obtain ⟨A, e1, w1⟩ := h1
  obtain ⟨B, e2, w2⟩ := h2
  have big : 100000 ≤ sizeLine := by decide
  have la := wgt_len A
  have lb := wgt_len B
  refine ⟨l1, l2, _, _, rfl, rfl, e1, e2, by rw [List.length_map, List.length_map]; omega, fun p np => ?_⟩
  exact k p _ (same_new np) np ⟨A ++ B, by rw [upd_same, List.map_append], by rw [wgt_app]; omega⟩
theorem cutF {K : PySem.W.Frag} {H : Hp} {l : Addr} {W : Nat} {lo hi : Option Int} {Q : VK} (h : LsF H l W) (k : ∀ p H', Same H H' → H p = none → LsF H' p W → Q (.ref p) H') : rSlL K (.ref l) lo hi H Q := by
  obtain ⟨A, e, w⟩ := h
  obtain ⟨L, el, _, wl⟩ := cut_strsF A lo hi
  refine ⟨l, _, rfl, SqL.of e, fun p np => ?_⟩
  rw [el]
  exact k p _ (same_new np) np ⟨L, upd_same, by omega⟩
theorem cutNF {K : PySem.W.Frag} {σ : St} {H : Hp} {l : Addr} {W : Nat} {lo : Option Int} {Q : VK} (h : LsF H l W) (k : ∀ p H', Same H H' → H p = none → LsF H' p W → Q (.ref p) H') : tNoPart σ H fun u H3 => rSlL K (.ref l) lo u H3 Q := cutF h k
theorem one_lsF {H : Hp} {z : Str} {p : Addr} : LsF (upd H p (.lst [.str z])) p (z.length + 1) := ⟨[z], upd_same, by rw [wgt_cons]; exact Nat.le_refl _⟩
section
variable {P : Program} {w : World} {K : PySem.W.Frag} {mg : Str → Option Value} {base : Heap}
theorem scBf : FnScope NBf ["_law_draw", "_law_said"] (defScope s__law_bent) := ⟨rfl, rfl, rfl, by decide +kernel, rfl, by decide +kernel, by decide +kernel⟩
theorem ok_bentF {f f1 f2 : Addr} {fd fd1 fd2 : FuncData} (F : Fun K "_law_bent" "_law_bent" s__law_bent f fd) (N : Nm mg) (DD : Dn P w K mg base CX0 1 "_law_take" ["_law_draw", "_law_size"] spDraw f1 fd1) (DP : Dn P w K mg base CX0 2 "_law_pick" ["_law_draw", "_law_some"] (spPick K) f2 fd2) : FnOk P w K mg base CX0 3 f fd ["_law_draw", "_law_said"] spBentF := by
  refine F.ok scBf (fun vs H Q E h => ?_) (fun cdv A outer s H vs Q E hr h => ?_)
  · obtain ⟨d, c, z, rfl, _⟩ := h
    rfl
  · obtain ⟨d, c, z, rfl, dr, lz, k⟩ := h
    have hr1 : Room 1 _ := hr.mono (by decide)
    have hr2 : Room 2 _ := hr.mono (by decide)
    have nd := scBf.nd
    have big : 100000 ≤ sizeLine := by decide
    have half : ∀ n : Nat, n ≤ 10000 → ((n : Int)).natAbs < 2 ^ 300 := fun n hn => by
      rw [Int.natAbs_natCast]
      exact Nat.lt_of_le_of_lt hn (by decide)
    refine ⟨_, pss_cons (ps_par (i := 2) (j := 3) rfl nd rfl rfl (by decide) rfl rfl (pa_cons (pe_call DD.ok hr1 rfl DD.mgn DD.kp DD.bn .nil pass0 (pa_cons (pv 0) (pa_cons pe_int pa_nil))) (pa_cons (pe_call DD.ok hr1 rfl DD.mgn DD.kp DD.bn .nil pass0 (pa_cons (pv 0) (pa_cons (pe_op op_add (pe_callB call_len_str (by rfl) N.len PySem.boot_len (pa_cons (pv 1) pa_nil)) pe_int) pa_nil))) pa_nil)) (by rfl))
      (pss_cons (ps_set (i := 4) nd rfl (.inl rfl) (pe_call DP.ok hr2 rfl DP.mgn DP.kp DP.bn .nil pass0 (pa_cons (pv 0) (pa_cons pe_str pa_nil))))
      (pss_cons (ps_if (pt_cmpR op_lt (pv 2) pe_int (nomark _)) (pss_one (ps_ret (pe_op op_add_str (pe_op op_add_str (pe_slice sl_str (pv 1) po_none (po_some (pv 3))) (pe_ix ix_list (pe_lst (pa_cons (pv 4) (pa_cons pe_str (pa_cons (pv 4) pa_nil)))) (pv 2) (fun _ _ => rfl)))
          (pe_slice sl_str (pv 1) (po_some (pe_op op_add (pv 3) (pe_ix ix_list (pe_lst (pa_cons pe_int (pa_cons pe_int (pa_cons pe_int pa_nil)))) (pv 2) (fun _ _ => rfl)))) po_none)))) pss_nil)
      (pss_cons (ps_set (i := 5) nd rfl (.inl rfl) (pe_split (pv 1) pe_str))
      (pss_cons (ps_par (i := 6) (j := 7) rfl nd rfl rfl (by decide) rfl rfl (pa_cons (pe_call DD.ok hr1 rfl DD.mgn DD.kp DD.bn .nil pass0 (pa_cons (pv 0) (pa_cons (pe_callB call_len_seq (by rfl) N.len PySem.boot_len (pa_cons (pv 5) pa_nil)) pa_nil))) (pa_cons (pe_call DD.ok hr1 rfl DD.mgn DD.kp DD.bn .nil pass0 (pa_cons (pv 0) (pa_cons (pe_callB call_len_seq (by rfl) N.len PySem.boot_len (pa_cons (pv 5) pa_nil)) pa_nil))) pa_nil)) (by rfl))
      (pss_cons (ps_if (pt_cmpR op_eq (pv 2) pe_int (nomark _)) (pss_one (ps_ret (pe_join pe_str (pe_op op_cat (pe_slice sl_list (pv 5) po_none (po_some (pv 6))) (pe_slice sl_list (pv 5) (po_some (pe_op op_add (pv 6) pe_int)) po_none))))) pss_nil)
      (pss_cons (ps_if (pt_cmpR op_eq (pv 2) pe_int (nomark _)) (pss_one (ps_ret (pe_join pe_str (pe_op op_cat (pe_op op_cat (pe_slice sl_list (pv 5) po_none (po_some (pv 6))) (pe_lst (pa_cons (pe_ix ix_list (pv 5) (pv 7) (fun _ _ => rfl)) pa_nil))) (pe_slice sl_list (pv 5) (po_some (pv 6)) po_none))))) pss_nil)
      (pss_cons (ps_if (pt_cmpR op_lt (pv 2) pe_int (nomark _))
        (pss_cons (ps_set (i := 8) nd rfl (.inl rfl) (pe_split (pe_op op_add_str (pe_ix ix_list (pv 5) (pv 6) (fun _ _ => rfl)) pe_str) pe_str))
        (pss_cons (ps_set (i := 9) nd rfl (.inl rfl) (pe_lst (pa_cons pe_str (pa_cons pe_str (pa_cons pe_str (pa_cons pe_str (pa_cons pe_str (pa_cons pe_str (pa_cons pe_str (pa_cons (pe_ix ix_list (pe_split (pe_ix ix_list (pv 5) (pv 7) (fun _ _ => rfl)) pe_str) pe_int (fun _ _ => rfl)) pa_nil))))))))))
        (pss_cons (ps_asg (pe_call DP.ok hr2 rfl DP.mgn DP.kp DP.bn .nil pass0 (pa_cons (pv 0) (pa_cons (pv 9) pa_nil))) (pg_sub (pv 8) (pe_call DD.ok hr1 rfl DD.mgn DD.kp DD.bn .nil pass0 (pa_cons (pv 0) (pa_cons pe_int pa_nil))) set_list))
        (pss_one (ps_ret (pe_join pe_str (pe_op op_cat (pe_op op_cat (pe_slice sl_list (pv 5) po_none (po_some (pv 6))) (pe_lst (pa_cons (pe_join pe_str (pe_slice sl_list (pv 8) po_none (po_some pe_int))) pa_nil))) (pe_slice sl_list (pv 5) (po_some (pe_op op_add (pv 6) pe_int)) po_none)))))))) pss_nil)
      (pss_one (ps_ret (pe_call DP.ok hr2 rfl DP.mgn DP.kp DP.bn .nil pass0 (pa_cons (pv 0) (pa_cons (pe_lst (pa_cons pe_str (pa_cons pe_str (pa_cons (pe_slice sl_str (pv 1) po_none (po_some (pe_un un_neg pe_int))) (pa_cons (pe_op op_add_str (pv 1) pe_str) (pa_cons (pe_op op_add_str (pv 1) pe_str) (pa_cons (pe_op op_add_str (pv 1) (pv 1)) pa_nil))))))) pa_nil)))))))))))), ?_⟩
    refine ⟨_, rfl, d, c, 9, rfl, dr, by decide, by decide, fun way H1 w0 w9 dr1 k1 => ?_⟩
    refine ⟨_, rfl, _, rfl, z, rfl, by omega, _, _, rfl, rfl, d, c, (z.length : Int) + 1, rfl, dr1, by omega, half (z.length + 1) (by omega), fun at_ H2 a0 a1 dr2 k2 => ⟨_, _, rfl, ?_⟩⟩
    refine ⟨_, rfl, d, c, _, 9, (fun _ x => ∃ s : Nat, x = .str ⟨#[s]⟩), rfl, dr2, .inr ⟨"abz- A1\n~", rfl, rfl, fun i s hs => ⟨s, rfl⟩⟩, by decide, by decide, fun i' x H3 px dr3 k3 => ?_⟩
    obtain ⟨sg, rfl⟩ := px
    have k03 := (k1.trans k2).trans k3
    have cz : ∀ lo hi, (cutS z lo hi).length ≤ z.length := cut_any_len z
    refine ⟨_, rfl, _, _, rfl, rfl, _, rfl, ?_⟩
    refine ite2 (fun h3 => ?_) (fun h3 => ?_)
    · have w3 : way < 3 := of_decide_eq_true h3
      have c1 := cz none (some at_)
      have sgl : (⟨#[sg]⟩ : Str).length = 1 := rfl
      obtain ⟨x1, ex1, lx1⟩ : ∃ x : Str, atI [V.str ⟨#[sg]⟩, .str "", .str ⟨#[sg]⟩] way = some (.str x) ∧ x.length ≤ 1 := by
        have cs : way = 0 ∨ way = 1 ∨ way = 2 := by omega
        rcases cs with rfl | rfl | rfl
        · exact ⟨_, rfl, by rw [sgl]; exact Nat.le_refl _⟩
        · exact ⟨_, rfl, Nat.zero_le _⟩
        · exact ⟨_, rfl, by rw [sgl]; exact Nat.le_refl _⟩
      obtain ⟨n1, en1, ln1⟩ : ∃ n : Int, atI [V.int 0, .int 1, .int 1] way = some (.int n) ∧ 0 ≤ n := by
        have cs : way = 0 ∨ way = 1 ∨ way = 2 := by omega
        rcases cs with rfl | rfl | rfl
        · exact ⟨_, rfl, by decide⟩
        · exact ⟨_, rfl, by decide⟩
        · exact ⟨_, rfl, by decide⟩
      refine ⟨_, rfl, _, rfl, _, rfl, z, rfl, by omega, ?_⟩
      refine ⟨_, rfl, _, rfl, by show 3 ≤ sizeLine; omega, fun l1 nl1 => ?_⟩
      refine ⟨_, rfl, l1, _, _, _, rfl, rfl, SqL.of upd_same, ex1, _, _, rfl, rfl, by omega, ?_⟩
      refine ⟨_, rfl, _, rfl, by show 3 ≤ sizeLine; omega, fun l2 nl2 => ?_⟩
      refine ⟨_, rfl, l2, _, _, _, rfl, rfl, SqL.of upd_same, en1, _, _, rfl, rfl, ?_⟩
      have c2 := cz (some (at_ + n1)) none
      have s12 := (same_new (o := .lst [V.str ⟨#[sg]⟩, .str "", .str ⟨#[sg]⟩]) nl1).trans (same_new (o := .lst [V.int 0, .int 1, .int 1]) nl2)
      refine ⟨_, rfl, z, rfl, by omega, _, _, rfl, rfl, ?_, ?_⟩
      · rw [Str.length_append]
        omega
      · refine k _ _ ?_ (dr3.mono s12) (k03.trans (Keep.of_same s12))
        rw [Str.length_append, Str.length_append]
        omega
    have w3 : 3 ≤ way := Int.not_lt.mp fun h => h3 (decide_eq_true h)
    clear h3
    obtain ⟨W, eW⟩ : ∃ W, W = z.length + 1 := ⟨_, rfl⟩
    obtain ⟨ps, eps⟩ : ∃ ps, ps = Txt.split z "\n" := ⟨_, rfl⟩
    have pne : ps ≠ [] := by rw [eps]; exact split_ne _ _
    have wps : wgt ps = W := by rw [eps, eW]; exact split_wgt rfl
    have lps : ps.length ≤ W := by rw [← wps]; exact wgt_len ps
    have pps : 0 < ps.length := List.length_pos_iff.mpr pne
    refine ⟨_, rfl, ⟨_, rfl⟩, _, _, rfl, rfl, by decide +kernel, by omega, fun pw nw => ?_⟩
    rw [← eps]
    obtain ⟨H4, e4⟩ : ∃ X, X = upd H3 pw (.lst (ps.map V.str)) := ⟨_, rfl⟩
    have s4 : Same H3 H4 := e4 ▸ same_new nw
    have at4 : H4 pw = some (.lst (ps.map V.str)) := by rw [e4]; exact upd_same
    have pwd := dr3.apart nw
    have dr4 := dr3.mono s4
    rw [← e4]
    have lpm : (ps.map V.str).length = ps.length := List.length_map ..
    refine ⟨_, rfl, _, rfl, pw, _, rfl, .inl (SqL.of at4), d, c, _, rfl, dr4, by rw [lpm]; omega, by rw [lpm]; exact half _ (by omega), fun sp H5 sp0 sp1 dr5 k5 => ?_⟩
    have at5 := k5 _ _ pwd.1 pwd.2 at4
    refine ⟨_, rfl, _, rfl, pw, _, rfl, .inl (SqL.of at5), d, c, _, rfl, dr5, by rw [lpm]; omega, by rw [lpm]; exact half _ (by omega), fun mt H6 mt0 mt1 dr6 k6 => ⟨_, _, rfl, ?_⟩⟩
    have at6 := k6 _ _ pwd.1 pwd.2 at5
    have k06 : Keep d c H H6 := ((k03.trans (Keep.of_same s4)).trans k5).trans k6
    rw [lpm] at sp1 mt1
    have item : ∀ i : Int, 0 ≤ i → i < (ps.length : Int) → ∃ y : Str, atI (ps.map V.str) i = some (.str y) ∧ y.length + 1 ≤ W := fun i h0 h1 => by
      have hi : i.toNat < ps.length := by omega
      refine ⟨ps[i.toNat], ?_, ?_⟩
      · have := atI_nat (map_at (f := V.str) (List.getElem?_eq_getElem hi))
        rw [show ((i.toNat : Nat) : Int) = i by omega] at this
        exact this
      · rw [← wps]
        exact wgt_mem (List.getElem_mem hi)
    obtain ⟨y1, ey1, ly1⟩ := item sp sp0 sp1
    obtain ⟨y2, ey2, ly2⟩ := item mt mt0 mt1
    have P6 : LsF H6 pw W := ⟨ps, at6, by omega⟩
    have fin : ∀ {r : Addr} {M : Nat} {H' : Hp}, LsF H' r M → M ≤ 4 * W + 20 → Keep d c H H' → DrawAt H' d c → ∃ a p, ∃ ys : List Str, V.str "\n" = .str a ∧ [V.ref r] = [.ref p] ∧ (SqL K H' p (ys.map V.str) ∨ SqT K H' p (ys.map V.str)) ∧ (ys.map (·.length)).sum + ys.length * a.length ≤ 16777216 ∧ Q (.str (Txt.join a ys)) H' := fun {r M H'} h le kk dd => by
      obtain ⟨B, eB, wB⟩ := h
      refine ⟨"\n", r, B, rfl, rfl, .inl (SqL.of eB), ?_, ?_⟩
      · have := wgt_sum B
        show _ + B.length * 1 ≤ _
        omega
      · refine k _ H' ?_ dd kk
        have := join_wgt_le "\n" rfl B
        omega
    refine ⟨_, rfl, rfl, _, rfl, ?_⟩
    refine ite2 (fun _ => ?_) (fun h4 => ?_)
    · refine ⟨⟨_, rfl⟩, _, rfl, _, rfl, _, rfl, cutF P6 fun pa H7 s7 na hA => ⟨_, rfl, _, rfl, _, _, rfl, rfl, _, rfl, cutNF (P6.mono s7) fun pb H8 s8 nb hB => catF (hA.mono s8) hB (by omega) fun r0 H9 s9 n0 h0 => ?_⟩⟩
      have s69 := (s7.trans s8).trans s9
      exact fin h0 (by omega) (k06.trans (Keep.of_same s69)) (dr6.mono s69)
    refine ⟨_, rfl, rfl, _, rfl, ?_⟩
    refine ite2 (fun _ => ?_) (fun h5 => ?_)
    · refine ⟨⟨_, rfl⟩, _, rfl, _, rfl, _, rfl, cutF P6 fun pa H7 s7 na hA => ⟨_, rfl, _, rfl, pw, _, _, _, rfl, rfl, SqL.of (s7 _ _ at6), ey2, by show 1 ≤ sizeLine; omega, fun q1 nq1 => ?_⟩⟩
      have s8 := same_new (o := .lst [V.str y2]) nq1
      refine catF (hA.mono s8) one_lsF (by omega) fun q2 H9 s9 n9 h9 => ?_
      have s69 := (s7.trans s8).trans s9
      refine ⟨_, rfl, _, rfl, _, rfl, cutNF (P6.mono s69) fun q3 H10 s10 n10 h10 => catF (h9.mono s10) h10 (by omega) fun r0 H11 s11 n11 h11 => ?_⟩
      have s611 := (s69.trans s10).trans s11
      exact fin h11 (by omega) (k06.trans (Keep.of_same s611)) (dr6.mono s611)
    clear h4 h5
    refine ⟨_, rfl, _, _, rfl, rfl, _, rfl, ?_⟩
    refine ite2 (fun _ => ?_) (fun _ => ?_)
    · -- a word exchanged
      refine ⟨_, rfl, _, rfl, pw, _, _, _, rfl, rfl, SqL.of at6, ey1, _, _, rfl, rfl, by show y1.length + 1 ≤ sizeLine; omega, ⟨_, rfl⟩, _, _, rfl, rfl, by decide +kernel, by rw [Str.length_append]; show y1.length + 1 + 2 ≤ sizeLine; omega, fun l8 n8 => ?_⟩
      obtain ⟨us, eus⟩ : ∃ us, us = Txt.split (y1 ++ " ") " " := ⟨_, rfl⟩
      have lus : 2 ≤ us.length := by rw [eus]; exact split_two y1
      have wus : wgt us ≤ W + 1 := by
        rw [eus, split_wgt rfl, Str.length_append]
        show y1.length + 1 + 1 ≤ _
        omega
      rw [← eus]
      have s7 := same_new (o := .lst (us.map V.str)) n8
      have at8 := upd_same (H := H6) (a := l8) (o := .lst (us.map V.str))
      obtain ⟨H7, e7⟩ : ∃ X, X = upd H6 l8 (.lst (us.map V.str)) := ⟨_, rfl⟩
      rw [← e7] at s7 at8 ⊢
      refine ⟨_, rfl, _, rfl, pw, _, _, _, rfl, rfl, SqL.of (s7 _ _ at6), ey2, ⟨_, rfl⟩, _, _, rfl, rfl, by decide +kernel, by omega, fun l9 n9 => ?_⟩
      obtain ⟨ts, ets⟩ : ∃ ts, ts = Txt.split y2 " " := ⟨_, rfl⟩
      have tne : ts ≠ [] := by rw [ets]; exact split_ne _ _
      have wts : wgt ts = y2.length + 1 := by rw [ets]; exact split_wgt rfl
      obtain ⟨t0, ts', et0⟩ := List.exists_cons_of_ne_nil tne
      have lt0 : t0.length ≤ W := by
        have := wgt_mem (ls := ts) (z := t0) (by rw [et0]; exact List.mem_cons_self ..)
        omega
      rw [← ets]
      have s8 := same_new (o := .lst (ts.map V.str)) n9
      have at9 := upd_same (H := H7) (a := l9) (o := .lst (ts.map V.str))
      obtain ⟨H8, e8⟩ : ∃ X, X = upd H7 l9 (.lst (ts.map V.str)) := ⟨_, rfl⟩
      rw [← e8] at s8 at9 ⊢
      refine ⟨l9, _, _, .str t0, rfl, rfl, SqL.of at9, by rw [et0]; exact atI_nat (j := 0) rfl, by show 8 ≤ sizeLine; omega, fun lo nlo => ?_⟩
      obtain ⟨OD, eOD⟩ : ∃ OD, OD = [V.str "-", .str "a", .str "", .str "b", .str "self", .str "abcdefghi", .str "zzzzzzzzzz", .str t0] := ⟨_, rfl⟩
      have s9 := (s7.trans s8).trans (same_new (o := .lst OD) nlo)
      have ato := upd_same (H := H8) (a := lo) (o := .lst OD)
      have lod := (dr6.mono (s7.trans s8)).apart nlo
      rw [← eOD]
      obtain ⟨H9, e9⟩ : ∃ X, X = upd H8 lo (.lst OD) := ⟨_, rfl⟩
      have s89 : Same H7 H9 := e9 ▸ (s8.trans (same_new nlo))
      rw [← e9] at s9 ato ⊢
      have dr9 := dr6.mono s9
      have l8d := dr6.apart n8
      have at89 := s89 _ _ at8
      refine ⟨_, rfl, _, rfl, d, c, _, 8, (fun _ x => ∃ w : Str, x = .str w ∧ w.length ≤ W + 10), rfl, dr9, .inl ⟨lo, OD, rfl, lod.1, lod.2, ato, by rw [eOD] <;> rfl, fun i x hx => ?_⟩, by decide, by decide, fun i x H10 px dr10 k10 => ?_⟩
      · have hm := List.mem_of_getElem? hx
        rw [eOD] at hm
        simp only [List.mem_cons, List.not_mem_nil, or_false] at hm
        rcases hm with rfl | rfl | rfl | rfl | rfl | rfl | rfl | rfl
        · exact ⟨_, rfl, by show 1 ≤ _; omega⟩
        · exact ⟨_, rfl, by show 1 ≤ _; omega⟩
        · exact ⟨_, rfl, by show 0 ≤ _; omega⟩
        · exact ⟨_, rfl, by show 1 ≤ _; omega⟩
        · exact ⟨_, rfl, by show 4 ≤ _; omega⟩
        · exact ⟨_, rfl, by show 9 ≤ _; omega⟩
        · exact ⟨_, rfl, by show 10 ≤ _; omega⟩
        · exact ⟨_, rfl, by omega⟩
      obtain ⟨wd, rfl, lwd⟩ := px
      have at10 := k10 _ _ l8d.1 l8d.2 at89
      have pw10 := k10 _ _ pwd.1 pwd.2 (s9 _ _ at6)
      refine ⟨_, rfl, _, rfl, d, c, 2, rfl, dr10, by decide, by decide, fun j H11 j0 j1 dr11 k11 => ?_⟩
      have at11 := k11 _ _ l8d.1 l8d.2 at10
      have pw11 := k11 _ _ pwd.1 pwd.2 pw10
      have l8pw : pw ≠ l8 := ne_of_none at6 n8
      have jl : j.toNat < us.length := by omega
      refine ⟨l8, _, _, j.toNat, rfl, rfl, at11, ?_, ?_⟩
      · have := ixN_nat (n := (us.map V.str).length) (j := j.toNat) (by rw [List.length_map]; exact jl)
        rw [show ((j.toNat : Nat) : Int) = j by omega] at this
        exact this
      rw [show (us.map V.str).set j.toNat (.str wd) = (us.set j.toNat wd).map V.str by rw [List.map_set]]
      have k011 := ((k06.trans (Keep.of_same s9)).trans k10).trans k11
      have nl8 : H l8 = none := by
        cases e : H l8 with
        | none => rfl
        | some u =>
          have := k06 _ _ l8d.1 l8d.2 e
          rw [this] at n8
          cases n8
      obtain ⟨H12, e12⟩ : ∃ X, X = upd H11 l8 (.lst ((us.set j.toNat wd).map V.str)) := ⟨_, rfl⟩
      have k12 : Keep d c H H12 := fun b u b1 b2 e => by
        rw [e12, upd_ne (ne_of_none e nl8)]
        exact k011 b u b1 b2 e
      have dr12 : DrawAt H12 d c := by
        obtain ⟨nx, mx, ct, cells, h1, h2, r⟩ := dr11
        refine ⟨nx, mx, ct, cells, ?_, ?_, r⟩
        · rw [e12, upd_ne l8d.1.symm]
          exact h1
        · rw [e12, upd_ne l8d.2.symm]
          exact h2
      have P12 : LsF H12 pw W := ⟨ps, by rw [e12, upd_ne l8pw]; exact pw11, by omega⟩
      have L12 : LsF H12 l8 (2 * W + 12) := ⟨us.set j.toNat wd, by rw [e12, upd_same], by have := set_wgt us j.toNat wd; omega⟩
      rw [← e12]
      refine ⟨⟨_, rfl⟩, _, rfl, _, rfl, _, rfl, cutF P12 fun pa H13 s13 na hA => ⟨⟨_, rfl⟩, _, rfl, _, rfl, cutF (L12.mono s13) fun pb H14 s14 nb hB => ?_⟩⟩
      obtain ⟨B, eB, wB⟩ := hB
      have jB := join_wgt_le " " rfl B
      refine ⟨" ", pb, B, rfl, rfl, .inl (SqL.of eB), ?_, by show 1 ≤ sizeLine; omega, fun q1 nq1 => ?_⟩
      · have := wgt_sum B
        show _ + B.length * 1 ≤ _
        omega
      have s15 := same_new (o := .lst [V.str (Txt.join " " B)]) nq1
      refine catF ((hA.mono s14).mono s15) one_lsF (by omega) fun q2 H16 s16 n16 h16 => ?_
      have s1216 := ((s13.trans s14).trans s15).trans s16
      refine ⟨_, rfl, _, rfl, _, _, rfl, rfl, _, rfl, cutNF (P12.mono s1216) fun q3 H17 s17 n17 h17 => catF (h16.mono s17) h17 (by omega) fun r0 H18 s18 n18 h18 => ?_⟩
      have s1218 := (s1216.trans s17).trans s18
      exact fin h18 (by omega) (k12.trans (Keep.of_same s1218)) (dr12.mono s1218)
    · have c1 := cz none (some (-1))
      refine ⟨_, rfl, _, rfl, 1, rfl, _, rfl, z, rfl, by omega, _, rfl, _, _, rfl, rfl, by show z.length + 1 ≤ sizeLine; omega, _, rfl, _, _, rfl, rfl, by show z.length + 1 ≤ sizeLine; omega, _, rfl, _, rfl, _, _, rfl, rfl, by omega, by show 6 ≤ sizeLine; omega, fun lo nlo => ?_⟩
      obtain ⟨OD, eOD⟩ : ∃ OD, OD = [V.str "", .str "\n", .str (cutS z none (some (-1))), .str (z ++ "\n"), .str (z ++ "a"), .str (z ++ z)] := ⟨_, rfl⟩
      have s7 := same_new (o := .lst OD) nlo
      have lod := dr6.apart nlo
      refine ⟨d, c, _, 6, (fun _ x => ∃ w : Str, x = .str w ∧ w.length ≤ 2 * z.length + 2), rfl, ?_, .inl ⟨lo, OD, rfl, lod.1, lod.2, ?_, by rw [eOD] <;> rfl, fun i x hx => ?_⟩, by decide, by decide, fun i x H10 px dr10 k10 => ?_⟩
      · rw [eOD] at s7
        exact dr6.mono s7
      · rw [eOD]
        exact upd_same
      · have hm := List.mem_of_getElem? hx
        rw [eOD] at hm
        simp only [List.mem_cons, List.not_mem_nil, or_false] at hm
        rcases hm with rfl | rfl | rfl | rfl | rfl | rfl
        · exact ⟨_, rfl, by show 0 ≤ _; omega⟩
        · exact ⟨_, rfl, by show 1 ≤ _; omega⟩
        · exact ⟨_, rfl, by omega⟩
        · exact ⟨_, rfl, by rw [Str.length_append]; show z.length + 1 ≤ _; omega⟩
        · exact ⟨_, rfl, by rw [Str.length_append]; show z.length + 1 ≤ _; omega⟩
        · exact ⟨_, rfl, by rw [Str.length_append]; omega⟩
      obtain ⟨wd, rfl, lwd⟩ := px
      rw [eOD] at s7
      exact k wd H10 (by omega) dr10 ((k06.trans (Keep.of_same s7)).trans k10)
end
end FT


/-! names, parents: the names are of the two pools -/
namespace FT
open PySem L2 TL ClX
def spNamesP : Sp := fun vs H Q _ => ∃ (d c : Addr) (n : Nat), vs = [.ref d, .int (n : Int)] ∧ DrawAt H d c ∧ 1 ≤ n ∧ n ≤ 12 ∧
  ∀ (l : Addr) (fs : List Str) (H' : Hp), fs.length = n → fs.Nodup → (∀ z ∈ fs, NameL z) → (∀ z ∈ fs, PyData.strOk z = true) → (∀ z ∈ fs, z ∈ pool1 ∨ z ∈ pool2) → H l = none → H' l = some (.lst (fs.map V.str)) → DrawAt H' d c → Keep d c H H' → Q (.ref l) H'
def spParentsP : Sp := fun vs H Q _ => ∃ (d c : Addr) (n : Nat), vs = [.ref d, .int (n : Int)] ∧ DrawAt H d c ∧ 1 ≤ n ∧ n ≤ 12 ∧
  ∀ (q : Addr) (t : List (Str × Str)) (H' : Hp), TreeOk t → t.length = n → (∀ a ∈ t.map Prod.fst, a ∈ pool1 ∨ a ∈ pool2) → H q = none → H' q = some (.dK (prs t)) → DrawAt H' d c → Keep d c H H' → Q (.ref q) H'
section
variable {P : Program} {w : World} {K : PySem.W.Frag} {mg : Str → Option Value} {base : Heap}
theorem ok_namesP {f fT fO : Addr} {fd fdT fdO : FuncData} (F : Fun K "_law_names" "_law_names" s__law_names f fd) (T : Nm mg) (FT : Fun K "_law_take" "_law_take" s__law_take fT fdT) (bT : Binds K fdT ["_law_draw", "_law_size"] []) (gT : mg "_law_take" = some (.ref fT))
    (FO : Fun K "_law_order" "_law_order" s__law_order fO fdO) (bO : Binds K fdO ["_law_draw", "_law_some"] []) (gO : mg "_law_order" = some (.ref fO)) : FnOk P w K mg base CX0 3 f fd ["_law_draw", "_law_many"] spNamesP := by
  have GT : FnOk P w K mg base CX0 1 fT fdT ["_law_draw", "_law_size"] spDraw := ok_draw FT T
  have GO : FnOk P w K mg base CX0 2 fO fdO ["_law_draw", "_law_some"] (spOrder K) := ok_order FO T FT bT gT
  refine F.ok scNames (fun vs H Q E h => ?_) (fun cdv A outer s H vs Q E hr h => ?_)
  · obtain ⟨d, c, n, rfl, _⟩ := h
    rfl
  · obtain ⟨d, c, n, rfl, hD, n1, n12, k⟩ := h
    have hr1 : Room 1 _ := hr.mono (by decide)
    have hr2 : Room 2 _ := hr.mono (by decide)
    refine ⟨_, pss_cons (ps_set (i := 2) scNames.nd rfl (.inl rfl) (pe_lst (pa_cons pe_str (pa_cons pe_str (pa_cons pe_str (pa_cons pe_str (pa_cons pe_str (pa_cons pe_str (pa_cons pe_str (pa_cons pe_str (pa_cons pe_str (pa_cons pe_str (pa_cons pe_str (pa_cons pe_str (pa_cons pe_str (pa_cons pe_str (pa_cons pe_str pa_nil)))))))))))))))))
      (pss_cons (ps_if (pt_cmpR op_eq (pe_call GT hr1 rfl gT FT.kp bT .nil pass0 (pa_cons (pv 0) (pa_cons pe_int pa_nil))) pe_int (nomark _))
        (pss_one (ps_set (i := 2) scNames.nd rfl (.inl rfl) (pe_lst (pa_cons pe_str (pa_cons pe_str (pa_cons pe_str (pa_cons pe_str (pa_cons pe_str (pa_cons pe_str (pa_cons pe_str (pa_cons pe_str (pa_cons pe_str (pa_cons pe_str (pa_cons pe_str (pa_cons pe_str pa_nil))))))))))))))) pss_nil)
      (pss_one (ps_ret (pe_slice sl_list (pe_call GO hr2 rfl gO FO.kp bO .nil pass0 (pa_cons (pv 0) (pa_cons (pv 2) pa_nil))) po_none (po_some (pv 1)))))), ?_⟩
    have big : 1000 ≤ sizeLine := by decide
    -- the rest, from any pool
    have rest : ∀ (pool : List Str) (p : Addr) (H1 : Hp), H1 p = some (.lst (pool.map V.str)) → p ≠ d → p ≠ c → DrawAt H1 d c → Keep d c H H1 → 12 ≤ pool.length → pool.length < 900 → pool.Nodup → (∀ z ∈ pool, NameL z) → (∀ z ∈ pool, PyData.strOk z = true) → (∀ z ∈ pool, z ∈ pool1 ∨ z ∈ pool2) →
        tRet (tSl (rSlL K) (tCall (spOrder K) [] E0 (tCons (tVar 0) (tCons (tVar 2) tNil))) tNoPart (tPart (tVar 1))) { nx := fun _ H' => Q .non H', rt := Q } [some (.ref d), some (.int (n : Int)), some (.ref p)] H1 := by
      intro pool p H1 e1 pd pc d1 k1 l12 few nd ok sok inp
      refine ⟨_, rfl, _, rfl, d, c, p, pool, rfl, d1, .inl (SqL.of e1), few, sok, fun r ys H2 pm nr er d2 k2 => ?_⟩
      have ly := pm.length_eq
      have rd := d1.apart nr
      refine ⟨_, rfl, _, rfl, r, ys.map V.str, rfl, SqL.of er, fun q nq => ?_⟩
      rw [cut_take (by rw [List.length_map]; omega), ← List.map_take]
      have qd := d2.apart nq
      have sub : ∀ z ∈ ys.take n, z ∈ pool := fun z hz => pm.mem_iff.mp (List.mem_of_mem_take hz)
      exact k q _ _ (by rw [List.length_take]; omega) ((pm.nodup_iff.mpr nd).sublist (List.take_sublist _ _)) (fun z hz => ok z (sub z hz)) (fun z hz => sok z (sub z hz)) (fun z hz => inp z (sub z hz)) ((k1.trans k2).free nq qd.1 qd.2) upd_same (d2.mono (same_new nq)) ((k1.trans k2).trans (Keep.of_same (same_new nq)))
    refine ⟨by show 15 ≤ sizeLine; omega, fun p np => ?_⟩
    have s1 := same_new (o := .lst (pool1.map V.str)) np
    have pd := hD.apart np
    refine ⟨_, rfl, d, c, 2, rfl, hD.mono s1, by decide, by decide, fun i H2 i0 i1 d2 k2 => ?_⟩
    have e2 := k2 p _ pd.1 pd.2 (upd_same : upd H p (.lst (pool1.map V.str)) p = some (.lst (pool1.map V.str)))
    have K2 : Keep d c H H2 := (Keep.of_same s1).trans k2
    refine ⟨rfl, _, rfl, ?_⟩
    refine ite2 (fun _ => ?_) (fun _ => ?_)
    · refine ⟨by show 12 ≤ sizeLine; omega, fun q nq => ?_⟩
      have qd := d2.apart nq
      exact rest pool2 q _ upd_same qd.1 qd.2 (d2.mono (same_new nq)) (K2.trans (Keep.of_same (same_new nq))) (by decide) (by decide) pool_nd.2 pool_ok.2 pool_str.2 fun z hz => .inr hz
    · exact rest pool1 p _ e2 pd.1 pd.2 d2 K2 (by decide) (by decide) pool_nd.1 pool_ok.1 pool_str.1 fun z hz => .inl hz
theorem ok_parentsP {f fT fP fO fN : Addr} {fd fdT fdP fdO fdN : FuncData} (F : Fun K "_law_parents" "_law_parents" s__law_parents f fd) (T : Nm mg) (DT : Dn P w K mg base CX0 1 "_law_take" ["_law_draw", "_law_size"] spDraw fT fdT) (DP : Dn P w K mg base CX0 2 "_law_pick" ["_law_draw", "_law_some"] (spPick K) fP fdP)
    (DO : Dn P w K mg base CX0 2 "_law_order" ["_law_draw", "_law_some"] (spOrder K) fO fdO) (DN : Dn P w K mg base CX0 3 "_law_names" ["_law_draw", "_law_many"] spNamesP fN fdN) : FnOk P w K mg base CX0 4 f fd ["_law_draw", "_law_many"] spParentsP := by
  refine F.ok scPa (fun vs H Q E h => ?_) (fun cdv A outer s H vs Q E hr h => ?_)
  · obtain ⟨d, c, n, rfl, _⟩ := h
    rfl
  · obtain ⟨d, c, n, rfl, hD, n1, n12, k⟩ := h
    have hu := hu_of hr
    have hr1 : Room 1 _ := hr.mono (by decide)
    have hr2 : Room 2 _ := hr.mono (by decide)
    have big : 1000 ≤ sizeLine := by decide
    refine ⟨_, pss_cons (ps_asg (pe_tup (pa_cons (pe_call DN.ok hr rfl DN.mgn DN.kp DN.bn .nil pass0 (pa_cons (pv 0) (pa_cons (pv 1) pa_nil))) (pa_cons (pe_call DT.ok hr1 rfl DT.mgn DT.kp DT.bn .nil pass0 (pa_cons (pv 0) (pa_cons pe_int pa_nil))) (pa_cons pe_dnewK pa_nil))))
        (pg_tup rfl (pgs_cons (pg_name (i := 2) scPa.nd rfl (.inl rfl)) (pgs_cons (pg_name (i := 3) scPa.nd rfl (.inl rfl)) (pgs_cons (pg_name (i := 4) scPa.nd rfl (.inr rfl)) pgs_nil)))))
      (pss_cons (ps_for PassesOwn.never rfl (pi_enum rfl T.enu (pa_cons (pv 2) pa_nil)) (pg_tup rfl (pgs_cons (pg_name (i := 5) scPa.nd rfl (.inl rfl)) (pgs_cons (pg_name (i := 6) scPa.nd rfl (.inl rfl)) pgs_nil)))
        (pss_cons (ps_dput hu (pv 4) (pv 6) (pe_call DP.ok hr2 rfl DP.mgn DP.kp DP.bn .nil pass0 (pa_cons (pv 0) (pa_cons (pe_op op_cat (pe_lst (pa_cons pe_str pa_nil)) (pe_slice sl_list (pv 2) po_none (po_some (pv 5)))) pa_nil))) rfl)
        (pss_cons (ps_if (pt_cmpR op_eq (pv 3) pe_int (nomark _)) (pss_one (ps_dput hu (pv 4) (pv 6) (pe_ix ix_list (pe_op op_cat (pe_lst (pa_cons pe_str pa_nil)) (pv 2)) (pv 5) (fun _ _ => rfl)) rfl)) pss_nil)
        (pss_one (ps_if (pt_cmpR op_eq (pv 3) pe_int (nomark _)) (pss_one (ps_dput hu (pv 4) (pv 6) (pe_ix ix_list (pe_op op_cat (pe_lst (pa_cons pe_str (pa_cons pe_str pa_nil))) (pv 2)) (pv 5) (fun _ _ => rfl)) rfl)) pss_nil)))))
      (pss_one (ps_ret (pe_callTy (call_dictP rfl) (by rfl) T.dct (by decide +kernel) (pa_cons (pe_lc (own := [("_law_name", 6)]) (g := gName 6) (tt := tYes) (te := tTup (tCons (tVar 6) (tCons (tDGet (tVar 4) (tVar 6)) tNil))) rfl scPa.nd (pi_list (pe_call DO.ok hr2 rfl DO.mgn DO.kp DO.bn .nil pass0 (pa_cons (pv 0) (pa_cons (pv 2) pa_nil))))
        (blkOk_by (N := NPa) (sc := defScope s__law_parents) (by decide +kernel))
        (fun _ _ _ _ _ => pg_name (i := 6) scPa.nd rfl (Or.inl rfl)) (fun _ _ _ _ _ => pts_nil) (fun _ _ _ _ _ => pe_tup (pa_cons (pv 6) (pa_cons (pe_dget hu (pv 4) (pv 6) (fun _ _ => rfl)) pa_nil)))) pa_nil))))), ?_⟩
    refine ⟨_, rfl, _, rfl, d, c, n, rfl, hD, n1, n12, fun pn fs H1 ln nd ok sok inp npn hn dr1 k1 => ?_⟩
    have pnd := hD.apart npn
    refine ⟨_, rfl, d, c, 5, rfl, dr1, by decide, by decide, fun way H2 w0 w5 dr2 k2 q nq => ⟨by show 3 ≤ sizeLine; omega, fun tp ntp => ⟨tp, _, rfl, .inl (.inl upd_same), rfl, ?_⟩⟩⟩
    have hn2 := k2 pn _ pnd.1 pnd.2 hn
    have K2 : Keep d c H H2 := k1.trans k2
    obtain ⟨H3, e3⟩ : ∃ X, X = upd (upd H2 q (.dK [])) tp (.tup [.ref pn, .int way, .ref q]) := ⟨_, rfl⟩
    have s23 : Same H2 H3 := e3 ▸ (same_new nq).trans (same_new ntp)
    have dr3 := dr2.mono s23
    have qd := dr2.apart nq
    have hq3 : H3 q = some (.dK []) := by rw [e3]; exact same_new ntp _ _ upd_same
    have hn3 := s23 _ _ hn2
    rw [← e3]
    have nq0 : H q = none := K2.free nq qd.1 qd.2
    refine ⟨_, _, rfl, _, _, rfl, _, _, rfl, rfl, ?_⟩
    refine ⟨_, rfl, pn, fs.map V.str, rfl, SqL.of hn3, ?_⟩
    refine for_it walk_enum (fun j σ' H' => (∃ u5 u6, σ' = [some (.ref d), some (.int (n : Int)), some (.ref pn), some (.int way), some (.ref q), u5, u6]) ∧ DrawAt H' d c ∧ H' pn = some (.lst (fs.map V.str)) ∧ Keep d c H H' ∧
      ∃ t : List (Str × Str), H' q = some (.dK (prs t)) ∧ t.map Prod.fst = fs.take j ∧ ∀ (i : Nat) (p : Str × Str), t[i]? = some p → p.2 = "" ∨ p.2 ∈ fs.take i)
      ⟨⟨_, _, rfl⟩, dr3, hn3, K2.trans (Keep.of_same s23), [], hq3, by rw [List.take_zero] <;> rfl, fun i p h => by simp at h⟩ (fun j σ' H' _ q => SqL.of q.2.2.1) ?_ ?_
    · intro j TT σ' Ha Hb hj ⟨⟨u5, u6, e⟩, da, hna, ka, t, hq, et, up⟩ ⟨T', y, z, eT, nT, eH, ey, ez⟩
      subst e
      subst eT
      subst eH
      cases ey
      rw [List.length_map] at hj
      obtain ⟨f, hf, rfl⟩ := map_of (show (fs.map V.str)[j]? = some z from ez)
      have tlen := congrArg List.length et
      rw [List.length_map, List.length_take] at tlen
      have fresh : f ∉ t.map Prod.fst := fresh_at nd hf et
      obtain ⟨H4, e4⟩ : ∃ X, X = upd Ha T' (.tup [.int (j : Int), .str f]) := ⟨_, rfl⟩
      have sT : Same Ha H4 := e4 ▸ same_new nT
      have a4 : H4 T' = some (.tup [.int (j : Int), .str f]) := by rw [e4]; exact upd_same
      rw [← e4]
      have hna4 := sT _ _ hna
      have hq4 := sT _ _ hq
      have da4 := da.mono sT
      refine ⟨T', _, rfl, .inl (.inl a4), rfl, ?_⟩
      refine ⟨_, _, rfl, _, _, rfl, rfl, ?_⟩
      -- the drawn parent
      refine ⟨_, rfl, by show 1 ≤ sizeLine; omega, fun p1 m1 => ⟨_, rfl, _, rfl, _, rfl, pn, fs.map V.str, rfl, SqL.of (by rw [upd_ne (ne_of_none hna4 m1)]; exact hna4), fun p2 m2 => ⟨p1, p2, [.str ""], _, rfl, rfl, by rw [upd_ne (ne_of_none upd_same m2), upd_same], upd_same, ?_, fun pa ma => ?_⟩⟩⟩
      · have := cutV_length (fs.map V.str) none (some (j : Int))
        rw [List.length_map] at this
        show 1 + _ ≤ sizeLine
        omega
      rw [cut_take (by rw [List.length_map]; omega), ← List.map_take] at ma ⊢
      obtain ⟨H5, e5⟩ : ∃ X, X = upd (upd (upd H4 p1 (.lst [.str ""])) p2 (.lst ((fs.take j).map V.str))) pa (.lst ([.str ""] ++ (fs.take j).map V.str)) := ⟨_, rfl⟩
      have s5 : Same H4 H5 := e5 ▸ ((same_new m1).trans (same_new m2)).trans (same_new ma)
      have at5 : H5 pa = some (.lst ((("" : Str) :: fs.take j).map V.str)) := by rw [e5, upd_same] <;> rfl
      have pad : pa ≠ d ∧ pa ≠ c := ((da4.mono (same_new m1)).mono (same_new m2)).apart ma
      rw [← e5]
      have dr5 := da4.mono s5
      refine ⟨d, c, _, (("" : Str) :: fs.take j).length, (fun _ x => ∃ z, x = .str z ∧ z ∈ (("" : Str) :: fs.take j)), rfl, dr5, .inl ⟨pa, _, rfl, pad.1, pad.2, at5, by rw [List.length_map], items_strs fun z hz => hz⟩, Nat.succ_pos _, by rw [List.length_cons, List.length_take]; omega, fun i x H6 px dr6 k6 => ?_⟩
      obtain ⟨z, rfl, mz⟩ := px
      have hz0 : z = "" ∨ z ∈ fs.take j := List.mem_cons.mp mz
      have hq6 := k6 q _ qd.1 qd.2 (s5 _ _ hq4)
      have hn6 := k6 pn _ pnd.1 pnd.2 (s5 _ _ hna4)
      refine ⟨_, rfl, _, rfl, q, _, rfl, DPut.k (k := Sum.inr f) hq6 (by rw [prs_len]; omega), ?_⟩
      rw [put_new fresh]
      have K6 : Keep d c H H6 := ((ka.trans (Keep.of_same sT)).trans (Keep.of_same s5)).trans k6
      obtain ⟨H7, e7⟩ : ∃ X, X = upd H6 q (.dK (prs (t ++ [(f, z)]))) := ⟨_, rfl⟩
      have hq7 : H7 q = some (.dK (prs (t ++ [(f, z)]))) := by rw [e7]; exact upd_same
      have dr7 : DrawAt H7 d c := by rw [e7]; exact dr6.off qd.1 qd.2
      have qn : pn ≠ q := ne_of hn6 hq6 (by intro z; cases z)
      have hn7 : H7 pn = some (.lst (fs.map V.str)) := by rw [e7, upd_ne qn]; exact hn6
      have K7 : Keep d c H H7 := by rw [e7]; exact K6.put nq0
      rw [← e7]
      have lj : j < fs.length := by omega
      -- an item of the list with roots in front
      have row : ∀ (m : Nat) (hm : 1 ≤ m), ∃ zz, ((List.replicate m (V.str "")) ++ fs.map V.str)[j]? = some (.str zz) ∧ (zz = "" ∨ zz ∈ fs.take j) := fun m hm => by
        by_cases lt : j < m
        · exact ⟨"", by rw [List.getElem?_append_left (by rw [List.length_replicate]; exact lt), List.getElem?_replicate, if_pos lt], .inl rfl⟩
        · refine ⟨fs[j - m]'(by omega), ?_, .inr ?_⟩
          · rw [List.getElem?_append_right (by rw [List.length_replicate]; omega), List.length_replicate, List.getElem?_map, List.getElem?_eq_getElem (by omega)] <;> rfl
          · rw [List.mem_take_iff_getElem]
            exact ⟨j - m, by omega, rfl⟩
      -- the end of a turn
      have fin : ∀ (z' : Str) (H' : Hp), (z' = "" ∨ z' ∈ fs.take j) → DrawAt H' d c → H' pn = some (.lst (fs.map V.str)) → Keep d c H H' → H' q = some (.dK (prs (t ++ [(f, z')]))) →
          (∃ u5 u6, ([some (.ref d), some (.int (n : Int)), some (.ref pn), some (.int way), some (.ref q), some (.int (j : Int)), some (.str f)] : St) = [some (.ref d), some (.int (n : Int)), some (.ref pn), some (.int way), some (.ref q), u5, u6]) ∧ DrawAt H' d c ∧ H' pn = some (.lst (fs.map V.str)) ∧ Keep d c H H' ∧
          ∃ t : List (Str × Str), H' q = some (.dK (prs t)) ∧ t.map Prod.fst = fs.take (j + 1) ∧ ∀ (i : Nat) (p : Str × Str), t[i]? = some p → p.2 = "" ∨ p.2 ∈ fs.take i := fun z' H' hz' d' n' k' q' => by
        refine ⟨⟨_, _, rfl⟩, d', n', k', t ++ [(f, z')], q', by rw [List.map_append, et, take_more hf] <;> rfl, fun i p h => ?_⟩
        by_cases hi : i < t.length
        · rw [List.getElem?_append_left hi] at h
          exact up i p h
        · have hl := (List.getElem?_eq_some_iff.mp h).1
          rw [List.length_append] at hl
          have one : ([(f, z')] : List (Str × Str)).length = 1 := rfl
          have ei : i = t.length := by omega
          subst ei
          rw [List.getElem?_append_right (Nat.le_refl _), Nat.sub_self] at h
          have ep : (f, z') = p := Option.some.inj h
          subst ep
          rw [show t.length = j by omega]
          exact hz'
      refine ⟨_, rfl, rfl, _, rfl, ?_⟩
      refine ite2 (fun y0 => ?_) (fun n0 => ?_)
      · -- a chain
        have e0 : way = 0 := V.int.inj (of_decide_eq_true y0)
        subst e0
        obtain ⟨zz, hz, hz'⟩ := row 1 (Nat.le_refl _)
        refine ⟨by show 1 ≤ sizeLine; omega, fun p1 m1 => ⟨_, rfl, p1, pn, [.str ""], fs.map V.str, rfl, rfl, upd_same, by rw [upd_ne (ne_of_none hn7 m1)]; exact hn7, by rw [List.length_map]; show 1 + _ ≤ sizeLine; omega, fun p2 m2 => ?_⟩⟩
        obtain ⟨H8, e8⟩ : ∃ X, X = upd (upd H7 p1 (.lst [.str ""])) p2 (.lst ([.str ""] ++ fs.map V.str)) := ⟨_, rfl⟩
        have s8 : Same H7 H8 := e8 ▸ (same_new m1).trans (same_new m2)
        have a8 : H8 p2 = some (.lst ([.str ""] ++ fs.map V.str)) := by rw [e8]; exact upd_same
        rw [← e8]
        refine ⟨_, rfl, p2, _, _, .str zz, rfl, rfl, SqL.of a8, atI_nat hz, ?_⟩
        have hq8 := s8 _ _ hq7
        refine ⟨_, rfl, _, rfl, q, _, rfl, DPut.k (k := Sum.inr f) hq8 (by rw [prs_len, List.length_append]; show _ + 1 < _; omega), ?_⟩
        rw [put_old fresh]
        refine ⟨_, rfl, rfl, _, rfl, iteF ?_⟩
        exact fin zz _ hz' ((dr7.mono s8).off qd.1 qd.2) (by rw [upd_ne qn]; exact s8 _ _ hn7) ((K7.trans (Keep.of_same s8)).put nq0) upd_same
      · refine ⟨_, rfl, rfl, _, rfl, ?_⟩
        refine ite2 (fun y1 => ?_) (fun n1 => ?_)
        · -- two chains
          have e0 : way = 1 := V.int.inj (of_decide_eq_true y1)
          subst e0
          obtain ⟨zz, hz, hz'⟩ := row 2 (by omega)
          refine ⟨by show 2 ≤ sizeLine; omega, fun p1 m1 => ⟨_, rfl, p1, pn, [.str "", .str ""], fs.map V.str, rfl, rfl, upd_same, by rw [upd_ne (ne_of_none hn7 m1)]; exact hn7, by rw [List.length_map]; show 2 + _ ≤ sizeLine; omega, fun p2 m2 => ?_⟩⟩
          obtain ⟨H8, e8⟩ : ∃ X, X = upd (upd H7 p1 (.lst [.str "", .str ""])) p2 (.lst ([.str "", .str ""] ++ fs.map V.str)) := ⟨_, rfl⟩
          have s8 : Same H7 H8 := e8 ▸ (same_new m1).trans (same_new m2)
          have a8 : H8 p2 = some (.lst ([.str "", .str ""] ++ fs.map V.str)) := by rw [e8]; exact upd_same
          rw [← e8]
          refine ⟨_, rfl, p2, _, _, .str zz, rfl, rfl, SqL.of a8, atI_nat hz, ?_⟩
          have hq8 := s8 _ _ hq7
          refine ⟨_, rfl, _, rfl, q, _, rfl, DPut.k (k := Sum.inr f) hq8 (by rw [prs_len, List.length_append]; show _ + 1 < _; omega), ?_⟩
          rw [put_old fresh]
          exact fin zz _ hz' ((dr7.mono s8).off qd.1 qd.2) (by rw [upd_ne qn]; exact s8 _ _ hn7) ((K7.trans (Keep.of_same s8)).put nq0) upd_same
        · exact fin z H7 hz0 dr7 hn7 K7 hq7
    · intro σ' H4 ⟨⟨u5, u6, e⟩, da, hna, ka, t, hq, et, up⟩
      subst e
      rw [List.length_map, List.take_length] at et
      have lt := congrArg List.length et
      rw [List.length_map] at lt
      have tr : TreeOk t := tree_of (by omega) (by omega) (by rw [et]; exact nd) (by rw [et]; exact ok) (by rw [et]; exact up)
      refine ⟨_, rfl, _, rfl, d, c, pn, fs, rfl, da, .inl (SqL.of hna), by omega, sok, fun r ys H5 pm nr er d5 k5 => ⟨r, rfl, ⟨_, SqL.of er⟩, fun D nD => ?_⟩⟩
      have hq5 := k5 q _ qd.1 qd.2 hq
      have rd := da.apart nr
      have Dd := d5.apart nD
      have ly := pm.length_eq
      refine lc_it walk_list (fun i H' => Same H5 H' ∧ ∃ rs : List Addr, H' D = some (.lst (rs.map V.ref)) ∧ PrG (fun a => .str ((par t a).getD "")) H' rs (ys.take i)) ⟨same_new nD, [], upd_same, .nil⟩ (fun i H' _ z => SqL.of (z.1 _ _ er)) ?_ ?_
      · intro i y Ha Hb hi ⟨q1, rs, hD, pr⟩ ⟨eb, ex⟩
        subst eb
        obtain ⟨a, ha, rfl⟩ := map_of ex
        have ma : a ∈ t.map Prod.fst := by rw [et]; exact pm.mem_iff.mp (List.mem_of_getElem? ha)
        obtain ⟨pa, hp⟩ := par_some tr.nd ma
        have lr := pr.len
        rw [List.length_take] at lr
        refine ⟨rfl, ?_⟩
        refine ⟨_, rfl, _, rfl, _, rfl, q, .str pa, rfl, ?_, by show 2 ≤ sizeLine; omega, fun tq ntq => ?_⟩
        · have z := DGet.k (k := Sum.inr a) (q1 _ _ hq5)
          rw [val_prs, hp] at z
          exact z
        · have sq : Same Hb (upd Hb tq (.tup [.str a, .str pa])) := same_new ntq
          refine ⟨_, sq _ _ hD, by rw [List.length_map]; omega, (q1.trans sq).put nD, rs ++ [tq], by rw [upd_same, List.map_append] <;> rfl, ?_⟩
          rw [take_more ha]
          refine PrG.push (sq _ _ hD) (PrG.snoc ?_ (pr.mono sq))
          rw [upd_same, hp] <;> rfl
      · intro H6 ⟨q1, rs, hD, pr⟩
        rw [List.length_map, List.take_length] at pr
        refine ⟨D, rs, _, rfl, SqL.of hD, pr.kvs, fun p np => ?_⟩
        have ndy : ys.Nodup := pm.nodup_iff.mpr nd
        rw [merge_nd (by rw [map_fst]; exact ndy)]
        have K5 : Keep d c H H6 := (ka.trans k5).trans (Keep.of_same q1)
        have d6 := d5.mono q1
        have pd := d6.apart np
        have pairs : (ys.map fun a => (a, (par t a).getD "")).Perm t := by
          refine perm_pairs tr.nd ?_ fun x hx => ?_
          · rw [List.map_map, et]
            have e : (Prod.fst ∘ fun a : Str => (a, (par t a).getD "")) = id := rfl
            rw [e, List.map_id]
            exact pm
          · obtain ⟨a, ha, rfl⟩ := List.mem_map.mp hx
            obtain ⟨pa, hp⟩ := par_some tr.nd (show a ∈ t.map Prod.fst by rw [et]; exact pm.mem_iff.mp ha)
            rw [hp]
            exact par_mem hp
        refine k p (ys.map fun a => (a, (par t a).getD "")) _ (tr.perm pairs.symm) (by rw [List.length_map]; omega) (fun a ha => by
          obtain ⟨q0, hq0, e0⟩ := List.mem_map.mp ha
          obtain ⟨b0, hb0, e1⟩ := List.mem_map.mp hq0
          rw [← e0, ← e1]
          exact inp b0 (pm.mem_iff.mp hb0)) (K5.free np pd.1 pd.2) ?_ (d6.mono (same_new np)) (K5.trans (Keep.of_same (same_new np)))
        rw [upd_same]
        unfold prs
        rw [List.map_map] <;> rfl
end
end FT


/-! Own: C.m(..) where m is a staticmethod of the class. -/
namespace L2
open PySem PySem.Spec PyProof.Rows
/-- C.m is a staticmethod: its record at p, its def at f -/
structure SMet (K : PySem.W.Frag) (C : Addr) (mc : Value) (m : Str) (p f : Addr) : Prop where
  at_ : PySem.W.findCls K (.ref C) mc m = some (.get (.builtin "staticmethod.__get__") (.ref p) .none (.ref C))
  rc : ∃ rest, PySem.W.recIn K p "staticmethod" = some (.ref f :: rest)
def tSMeth (C : Addr) (sp : Sp) (dvs : List V) (E : XK) (ta : TE) (t : TA) : TE := fun σ H Q => ta σ H fun x H1 => x = .ref C ∧ t σ H1 fun vs H2 => sp (vs ++ dvs) H2 Q E
section
variable {X : Cx} {CX : CXT} {k : Nat} {C p f : Addr} {mc : Value} {fd : FuncData} {ps : List Str} {sp : Sp} {dvs : List V} {ds : List Value} {E : XK} {o e : Expr} {es : List Expr} {m : Str} {pos apos : Pos} {ta : TE} {t : TA} {pl : Sem Bool}
theorem pe_smeth (he : PE X o ta) (r : ClX.CRead X.K C mc) (c : SMet X.K C mc m p f) (F : FnOk X.prog X.w X.K X.mg X.base CX k f fd ps sp) (hr : Room k X.A) (hk : PySem.W.keepIn X.K (.ref f) = true) (hb : Binds X.K fd ps ds) (hd : Vals dvs ds) (hx : Passes CX X E) (ha : PA X (e :: es) t)
    (one : starEach (e :: es) X.env = (false, eval e X.env) :: starEach es X.env := by rfl) (plain : (backTo pos (starEach es X.env)).any (·.1) = false := by rfl)
    (ev : eval (.Call (.Attribute o m apos) (e :: es) [] pos) X.env = (do
      let u ← eval o X.env
      standAt apos.atName
      let (g, first) ← holding [u] (getMethod u m pl)
      callWith pos g first (backTo pos (starEach (e :: es) X.env)) (backToKw pos (keywordEach [] X.env))) := by rfl) :
    PE X (.Call (.Attribute o m apos) (e :: es) [] pos) (tSMeth C sp dvs E ta t) := by
  refine ⟨fun pins s σ H Q I h => ?_⟩
  refine PySem.W.methodCall_KW (pl := pl) (thn (he.run pins s σ H _ I h) fun u s1 ⟨x, H1, J, rx, ex, q⟩ => ?_) ev
  subst ex
  obtain rfl : u = Value.ref C := rx
  obtain ⟨rest, hp⟩ := c.rc
  refine PySem.W.method_cls J.kIn r.ga (PySem.W.cls_bind J.kIn r.rd c.at_ (wpAny_call (PySem.W.sm_get (s := { s1 with toks := s1.toks + 1 }) J.kIn hp (PySem.W.handed_on rfl ?_))))
  refine PySem.W.callWith_K (h₀ := X.base) J.ok.mod.kin hk (thn (ha.run pos pins _ σ H1 _ (J.tok _) q) fun us s2 ⟨vs, H2, J2, rel, want⟩ => ⟨J2.kIn, ?_⟩) one plain
  have r2 : Vals (vs ++ dvs) (us ++ ds) := rel.append hd
  have len : (us ++ ds).length = ps.length := r2.length.symm.trans (F.len _ _ _ _ want)
  refine wpAny_call (codeAny_mono (F.run X.A X.stack s2 H2 ⟨us, []⟩ (us ++ ds) (vs ++ dvs) Q E hr J2.env0 (hb s2 us J2.kIn len) r2 want) fun r s' z => ?_)
  match r, z with
  | .error er, z => exact hx pins σ H2 s2 er s' J2 z
  | .ok (.ret u), z => exact J2.after z
  | .ok .next, z => exact z.elim
  | .ok .brk, z => exact z.elim
  | .ok .cont, z => exact z.elim
end
end L2


/-! Own: o.m(k = v), a method called by keyword alone. -/
namespace FT
open PySem L2 TL ClX
def tMethK (C : Addr) (m : Str) (n : Nat) (sp : Sp) (gV : List V → List V → List V) (E : XK) (ta : TE) (tk : TA) : TE := fun σ H Q => ta σ H fun x H1 => ∃ a dx fs, x = .ref a ∧ H1 a = some (.ins C dx fs) ∧ fs.lookup m = none ∧ tk σ H1 fun zs H2 => zs.length = n ∧ sp (gV [.ref a] zs) H2 Q E
end FT


/-! Own: C.m(k = v, ..): a static method called by keywords alone -/
namespace FT
open PySem PySem.Spec PyProof.Rows L2 TL ClX
def tSMethK (C : Addr) (n : Nat) (sp : Sp) (gV : List V → List V → List V) (E : XK) (ta : TE) (tk : TA) : TE := fun σ H Q => ta σ H fun x H1 => x = .ref C ∧ tk σ H1 fun zs H2 => zs.length = n ∧ sp (gV [] zs) H2 Q E
theorem pe_smethK {X : Cx} {CX : CXT} {k : Nat} {C p f : Addr} {mc : Value} {fd : FuncData} {ps ks : List Str} {sp : Sp} {E : XK} {o : Expr} {m : Str} {pos apos : Pos} {kw : Keyword} {kws : List Keyword} {ta : TE} {tk : TA} {g : List Value → List Value → List Value} {gV : List V → List V → List V} {pl : Sem Bool}
    (he : PE X o ta) (r : ClX.CRead X.K C mc) (c : SMet X.K C mc m p f) (F : FnOk X.prog X.w X.K X.mg X.base CX k f fd ps sp) (hr : Room k X.A) (hk : PySem.W.keepIn X.K (.ref f) = true) (hb : KBn X.K fd ps 0 ks g gV) (hx : Passes CX X E)
    (hkw : PK X (kw :: kws) tk) (hall : (backToKw pos (keywordEach (kw :: kws) X.env)).all (·.1.isSome) = true := by rfl) (hks : (backToKw pos (keywordEach (kw :: kws) X.env)).filterMap (·.1) = ks := by rfl)
    (hpl : ((backTo pos (starEach [] X.env)).any (·.1) || (backToKw pos (keywordEach (kw :: kws) X.env)).any (·.1.isNone)) = false := by rfl)
    (ev : eval (.Call (.Attribute o m apos) [] (kw :: kws) pos) X.env = (do
      let u ← eval o X.env
      standAt apos.atName
      let (g, first) ← holding [u] (getMethod u m pl)
      callWith pos g first (backTo pos (starEach [] X.env)) (backToKw pos (keywordEach (kw :: kws) X.env))) := by rfl) :
    PE X (.Call (.Attribute o m apos) [] (kw :: kws) pos) (tSMethK C ks.length sp gV E ta tk) := by
  refine ⟨fun pins s σ H Q I h => ?_⟩
  refine PySem.W.methodCall_KW (pl := pl) (thn (he.run pins s σ H _ I h) fun u s1 ⟨x, H1, J, rx, ex, q⟩ => ?_) ev
  subst ex
  obtain rfl : u = Value.ref C := rx
  obtain ⟨rest, hp⟩ := c.rc
  refine PySem.W.method_cls J.kIn r.ga (PySem.W.cls_bind J.kIn r.rd c.at_ (wpAny_call (PySem.W.sm_get (s := { s1 with toks := s1.toks + 1 }) J.kIn hp (PySem.W.handed_on rfl ?_))))
  refine PySem.W.callWith_KW0 (first := []) (h₀ := X.base) J.ok.mod.kin hk hall ?_ hpl
  refine thn (hkw.run pos pins _ σ H1 _ (J.tok _) q) fun ws s2 ⟨zs, H2, J2, rz, l2, want⟩ => ⟨J2.kIn, ?_⟩
  rw [hks]
  exact run_fnN (us := []) (vs := []) F hr hb hx J2 .nil rz rfl l2 want
end FT


/-! own __eq__; Forest.__eq__; (need_match: FtEqM) -/
namespace FT
open PySem L2 TL ClX LiI
def strKey (e : DictEntry) : Bool := match e.key with
  | .str _ _ => true
  | _ => false
/-- a class of the text with its own __eq__ and no __ne__ -/
structure EqF (K : PySem.W.Frag) (C f : Addr) : Prop where
  at_ : ∃ nm q N bs sn sub ab col dd k0 k1 k2 k3 k5 newId, K.lookup C = some (excClassObj nm q C N bs [.type "object"] true sn sub ab col dd k0 k1 k2 k3 k5 newId) ∧
    ∃ (oc : Value) (od : Option Addr) (es : Array DictEntry) (ep : Nat) (sl : Array (Option Value)), K.lookup N = some ⟨oc, od, .dict es ep, sl⟩ ∧ es.toList.all strKey = true ∧ nsFind es "__eq__" = some (.ref f) ∧ nsFind es "__ne__" = none
  ty : ∃ o : Obj, K.lookup f = some o ∧ o.cls = .type "function"
theorem EqF.own {K : PySem.W.Frag} {C f : Addr} (e : EqF K C f) {h : Heap} (X : K.In h) {a : Addr} {o : Obj} (ho : h.get? a = some o) (hc : o.cls = .ref C) : h.OwnEqNoNe a C f "object" [.type "object"] := by
  obtain ⟨nm, q, N, bs, sn, sub, ab, col, dd, k0, k1, k2, k3, k5, newId, hC, oc, od, es, ep, sl, hN, hk, h1, h2⟩ := e.at_
  obtain ⟨of, hf, tf⟩ := e.ty
  have keys : StrKeys es := fun x hx => by
    have := List.all_eq_true.mp hk x (Array.mem_toList_iff.mpr hx)
    unfold strKey at this
    cases ek : x.key with
    | str n t => exact ⟨n, t, rfl⟩
    | _ => rw [ek] at this; cases this
  exact ⟨o, of, nm, q, N, bs, true, sn, sub, ab, col, dd, k0, k1, k2, k3, k5, newId, nsFind es, _, ho, hc, X _ _ hC, ⟨_, es, ep, X _ _ hN, rfl, keys, fun _ => rfl⟩, h1, X _ _ hf, tf, PySem.F.cmp_object.mro, PySem.F.cmp_object.eq.lookup, h2⟩
/-- x != y, two instances that are equal by their own __eq__ -/
def rNeG (D : Eqv) : R2 := fun x y H Q => D x y H ∧ ∀ H', Ext H H' → Q (.bl false) H'
/-- what isinstance asks of an own class -/
structure IsF (K : PySem.W.Frag) (C : Addr) : Prop where
  ha : PySem.W.findIn K (.ref C) "__class__" = some (some (.builtin "object.__class__"))
  hn : PySem.W.specialIn K (.builtin "object.__class__") "__get__" = some (some (.builtin "getset_descriptor.__get__"))
  ht : PySem.W.takesIn K (.builtin "object.__class__") = some true
  hm : PySem.W.mroIn K C (.type "object") = some true
theorem kit_self {K : PySem.W.Frag} {C : Addr} : PySem.W.kitOne K (.ref C) (.ref C) = some true := if_pos (beq_self_eq_true _)
def RFo (CF : Addr) : Addr → Addr → Hp → Prop := fun a b H => ∃ ts, FAt CF H a ts ∧ FAt CF H b ts ∧ TreeOk ts
section
variable {P : Program} {w : World} {K : PySem.W.Frag} {mg : Str → Option Value} {base : Heap}
theorem scFEq : FnScope ["self", "other"] ["self", "other"] (defScope s_Forest___eq__) := ⟨rfl, rfl, rfl, by decide +kernel, rfl, by decide +kernel, by decide +kernel⟩
end
end FT


/-! own __eq__ with either answer; Forest.__eq__ -/
namespace FT
open PySem L2 TL ClX LiI
/-- what an own == promises, equal or not -/
def spEqB (R : Addr → Addr → Bool → Hp → Prop) : Sp := fun vs H Q _ => ∃ a b v, vs = [.ref a, .ref b] ∧ R a b v H ∧ ∀ H', Ext H H' → Q (.bl v) H'
def rNeB (C : Addr) (R : Addr → Addr → Bool → Hp → Prop) : R2 := fun x y H Q => ∃ a b dx dy fs gs v, x = .ref a ∧ y = .ref b ∧ H a = some (.ins C dx fs) ∧ H b = some (.ins C dy gs) ∧ R a b v H ∧ ∀ H', Ext H H' → Q (.bl (!v)) H'
def RFoB (CF : Addr) : Addr → Addr → Bool → Hp → Prop := fun a b v H => ∃ ts us, FAt CF H a ts ∧ FAt CF H b us ∧ v = eqDK (prs ts) (prs us)
theorem prs_flat (ts : List (Str × Str)) : ∀ p ∈ prs ts, flatV p.2 = true := fun p hp => by
  unfold prs kvT at hp
  rw [List.map_map] at hp
  obtain ⟨q, _, rfl⟩ := List.mem_map.mp hp
  rfl
section
variable {P : Program} {w : World} {K : PySem.W.Frag} {mg : Str → Option Value} {base : Heap}
theorem ok_feqB {f CF : Addr} {mc : Value} {fd : FuncData} (F : Fun K "__eq__" "Forest.__eq__" s_Forest___eq__ f fd) (T : Nm mg) (O : FoC K CF) (Z : Fc K mg CF mc) (S : IsF K CF) : FnOk P w K mg base CX0 1 f fd ["self", "other"] (spEqB (RFoB CF)) := by
  refine F.ok scFEq (fun vs H Q E h => ?_) (fun cdv A outer s H vs Q E hr h => ?_)
  · obtain ⟨a, b, v, rfl, _⟩ := h
    rfl
  · obtain ⟨a, b, v, rfl, ⟨ts, us, ⟨da, qa, ha, hda⟩, ⟨db, qb, hb, hdb⟩, rfl⟩, k⟩ := h
    have hu := hu_of hr
    refine ⟨_, pss_one (ps_ret (pe_and (pe_callB call_isi (by rfl) T.isi (by decide +kernel) (pa_cons (pv 1) (pa_cons (pe_glob (v := .ref CF) (by rfl) Z.gF rfl) pa_nil))) (pe_one (pe_cmpR (op_eq_dictC (Nat.lt_of_succ_lt hu)) (pe_fld (pv 0) rfl) (pe_fld (pv 1) rfl) (nomark _))))), ?_⟩
    refine ⟨_, rfl, .ref b, _, .ref CF, _, true, rfl, .own _, .base (.ins hb O.cl S.ha S.hn S.ht S.hm), kit_self, true, rfl, ?_⟩
    show if true = true then _ else _
    rw [if_pos rfl]
    exact ⟨_, rfl, a, CF, da, _, .ref qa, rfl, ha, O.cl, O.nA, rfl, _, rfl, b, CF, db, _, .ref qb, rfl, hb, O.cl, O.nA, rfl, qa, qb, _, _, rfl, rfl, hda, hdb, prs_flat _, prs_flat _, k _ fun _ _ e => e⟩
end
end FT


namespace FT
open PySem L2 TL ClX
section
variable {P : Program} {w : World} {K : PySem.W.Frag} {mg : Str → Option Value} {base : Heap}
abbrev NRes : List Str := ["forest", "users", "sizes", "found", "parents", "name", "place"]
end
end FT


namespace FT
open PySem L2 TL ClX
section
variable {P : Program} {w : World} {K : PySem.W.Frag} {mg : Str → Option Value} {base : Heap}
abbrev NFe : List Str := ["forest", "users", "sizes", "name", "left", "place"]
end
end FT


/-! a dict with one key that is None or a tuple beside ints and texts: it is stored, counted, walked by keys, its class is asked -/
namespace PySem
open Sem (wp)
section
variable {prog : Program} {w : World} {A : Around} {E : Value → Shared → Prop} {s : Shared}
/-- no stored key is this one: what is stored is carried by value -/
structure Missed (s : Shared) (k : NestedKey) (es : Array DictEntry) : Prop where
  all : ∀ e ∈ es, carriedByValue e.key = true ∧ ∃ k', NestedIs s.heap k' e.key ∧ k'.depth = 0 ∧ NestedKey.beq k' k = false
end
end PySem
namespace PySem
open Sem (wp)
section
variable {prog : Program} {w : World} {A : Around} {E : Value → Shared → Prop} {s : Shared}
end
end PySem
namespace L2
open PySem PySem.Spec PyProof.Rows
/-- a plain dict whose keys may be of any kind: what is stored, in order -/
def RawO (d : Addr) (rows : List (V × V)) : HO := .ext fun h => (d == sysModules) = false ∧ rows.length ≤ sizeLine ∧ ∃ es ep, h.DictRaw d es ep ∧ Paired (fun (r : V × V) (e : DictEntry) => RelV r.1 e.key ∧ RelV r.2 e.val) rows es.toList
def rowsK (kvs : List (Key × V)) : List (V × V) := kvs.map fun p => (kV p.1, p.2)
/-- None, or a tracked tuple of ints and texts -/
def OddK (H : Hp) (y : V) : Prop := y = .non ∨ ∃ (b : Addr) (ks : List Key), y = .ref b ∧ H b = some (.tup (ks.map kV))
def nkK : Key → NestedKey
  | .inl i => .num i
  | .inr x => .text x
/-- d[y] = v, y None or a tuple, d a dict of ints and texts -/
def RPut (H : Hp) (a : Addr) (y v : V) (H' : Hp) : Prop := ∃ kvs, H a = some (.dK kvs) ∧ OddK H y ∧ kvs.length < sizeLine ∧ H' = upd H a (RawO a (rowsK kvs ++ [(y, v)]))
section
variable {X : Cx} {pins : List (Addr × Obj)} {σ : St} {H : Hp} {s : Shared} {a : Addr} {y v : V} {u r : Value} {A : Around} {E : Value → Shared → Prop}
end
end L2
namespace L2
open PySem PySem.Spec PyProof.Rows
/-- d[y] = v, y of any kind -/
def sRPut (td ty tv : TE) : TS := fun D σ H => tv σ H fun v H1 => td σ H1 fun x H2 => ty σ H2 fun y H3 => ∃ a H4, x = .ref a ∧ (DPut H3 a y v H4 ∨ RPut H3 a y v H4) ∧ D.nx σ H4
/-- the rows of a dict: of ints and texts, or of any keys -/
def RowsO (d : Addr) (u : HO) (rows : List (V × V)) : Prop := (∃ kvs, u = .dK kvs ∧ rows = rowsK kvs) ∨ u = RawO d rows
def Itkr (d : Addr) (o : Obj) (rows : List (V × V)) : It :=
  ⟨fun i H => H d = some (.frz o (RawO d rows)) ∧ i < rows.length, fun i H x H' => H' = H ∧ ∃ v, rows[i]? = some (x, v), fun i H => H d = some (.frz o (RawO d rows)) ∧ rows.length ≤ i⟩
section
variable {X : Cx} {pins : List (Addr × Obj)} {σ : St} {H : Hp} {s : Shared} {d : Addr} {o : Obj} {rows : List (V × V)}
end
section
variable {P : Program} {w : World} {K : PySem.W.Frag} {tg : Expr} {d : Addr} {o : Obj} {es : Array DictEntry} {ep : Nat}
end
/-- for k in d: d of ints and texts, or of any keys (locked) -/
def iKeysO (td : TE) : TI := fun σ H R => td σ H fun x H1 => ∃ (d : Addr) (o : Obj) (u : HO) (rows : List (V × V)), x = .ref d ∧ H1 d = some (.frz o u) ∧ RowsO d u rows ∧
  ∀ J, Walk J rows.length (fun H => H d = some (.frz o u)) (fun i H x H' => H' = H ∧ ∃ v, rows[i]? = some (x, v)) → R J H1
section
variable {X : Cx} {tg e : Expr} {td : TE}
def rLenR : List V → Hp → VK → Prop := fun xs H Q => ∃ (a : Addr) (rows : List (V × V)), xs = [V.ref a] ∧ H a = some (RawO a rows) ∧ Q (.int ((rows.length : Nat) : Int)) H
end
end L2


/-! need_feasible, where the sizes may be a dict with a key of another kind -/
namespace FT
open PySem L2 TL ClX
theorem FnOk.or {P : Program} {w : World} {K : PySem.W.Frag} {mg : Str → Option Value} {base : Heap} {CX : CXT} {k : Nat} {f : Addr} {fd : FuncData} {ps : List Str} {sp sp' : Sp} (h : FnOk P w K mg base CX k f fd ps sp) (h' : FnOk P w K mg base CX k f fd ps sp') :
    FnOk P w K mg base CX k f fd ps (fun vs H Q E => sp vs H Q E ∨ sp' vs H Q E) := by
  refine ⟨fun vs H Q E q => ?_, fun A outer s H args us vs Q E r e0 b v q => ?_⟩
  · rcases q with q | q
    · exact h.len _ _ _ _ q
    · exact h'.len _ _ _ _ q
  · rcases q with q | q
    · exact h.run A outer s H args us vs Q E r e0 b v q
    · exact h'.run A outer s H args us vs Q E r e0 b v q
def spFeasR (CF CS : Addr) : Sp := fun vs H _ E => ∃ (x b : Addr) (n : Int) (ts : List (Str × Str)) (rows : List (V × V)), vs = [.ref x, .int n, .ref b] ∧ FAt CF H x ts ∧ TreeOk ts ∧ H b = some (RawO b rows) ∧ rows.length ≠ ts.length ∧ Out H E (.e1 CS "place" .non)
def spFeasM (K : PySem.W.Frag) (CF CS : Addr) : Sp := fun vs H Q E => spFeas K CF CS vs H Q E ∨ spFeasR CF CS vs H Q E
section
variable {P : Program} {w : World} {K : PySem.W.Frag} {mg : Str → Option Value} {base : Heap}
end
end FT


/-! sizes of any kind: data, or a dict with a key of another kind -/
namespace FT
open PySem L2 TL ClX
/-- a value for sizes of m flags: a dict with the entries o, or no dict of as many entries -/
def SzM (K : PySem.W.Frag) (H : Hp) (m : Nat) (sv : V) (o : Option (List (Key × V))) : Prop := SzV K H sv o ∨ (o = none ∧ ∃ b rows, sv = .ref b ∧ H b = some (RawO b rows) ∧ rows.length ≠ m)
theorem SzM.mono {K : PySem.W.Frag} {H H' : Hp} {m : Nat} {sv : V} {o : Option (List (Key × V))} (s : Same H H') (h : SzM K H m sv o) : SzM K H' m sv o := by
  rcases h with h | ⟨e, b, rows, e1, e2, e3⟩
  · exact .inl (h.mono s)
  · exact .inr ⟨e, b, rows, e1, s _ _ e2, e3⟩
theorem SzM.some {K : PySem.W.Frag} {H : Hp} {m : Nat} {sv : V} {kvs : List (Key × V)} (h : SzM K H m sv (some kvs)) : SzV K H sv (some kvs) := by
  rcases h with h | ⟨e, _⟩
  · exact h
  · cases e
def spFeasZ (K : PySem.W.Frag) (CF CS : Addr) : Sp := fun vs H Q E => ∃ (x : Addr) (n : Int) (sv : V) (ts : List (Str × Str)) (o : Option (List (Key × V))), vs = [.ref x, .int n, sv] ∧ FAt CF H x ts ∧ TreeOk ts ∧ SzM K H ts.length sv o ∧ Res H Q E (feE CS ts n o)
/-! ### sizes that a law has bent -/
def KeyB : Key → Prop
  | .inl i => i = 3
  | .inr z => NameL z ∨ z = ""
def RawK (H : Hp) (x : V) : Prop := x = .non ∨ (∃ z, x = .str z ∧ NameL z) ∨ ∃ c, x = .ref c ∧ H c = some (.tup [.str "a"])
def BentV (K : PySem.W.Frag) (H : Hp) (m : Nat) (sv : V) : Option (List (Key × V)) → Prop
  | some kvs => ∃ q, sv = .ref q ∧ H q = some (.dK kvs) ∧ (∀ p ∈ kvs, IsDat K H p.2) ∧ (kvs.map (·.1)).Nodup ∧ kvs.length ≤ 13 ∧ ∀ p ∈ kvs, KeyB p.1
  | none => (∃ T, Dat K H sv T ∧ T ≠ "dict") ∨ ∃ b rows, sv = .ref b ∧ H b = some (RawO b rows) ∧ rows.length = m + 1 ∧ rows.length ≤ 13 ∧ ∀ r ∈ rows, RawK H r.1
theorem BentV.mono {K : PySem.W.Frag} {H H' : Hp} {m : Nat} {sv : V} {o : Option (List (Key × V))} (s : Same H H') (h : BentV K H m sv o) : BentV K H' m sv o := by
  cases o with
  | some kvs =>
    obtain ⟨q, e, h1, h2, h3⟩ := h
    exact ⟨q, e, s _ _ h1, fun p hp => (h2 p hp).mono s, h3⟩
  | none =>
    rcases h with ⟨T, d, n⟩ | ⟨b, rows, e, h1, h2, h4, h3⟩
    · exact .inl ⟨T, d.mono s, n⟩
    · refine .inr ⟨b, rows, e, s _ _ h1, h2, h4, fun r hr => ?_⟩
      rcases h3 r hr with z | z | ⟨c, z, hc⟩
      · exact .inl z
      · exact .inr (.inl z)
      · exact .inr (.inr ⟨c, z, s _ _ hc⟩)
end FT


/-! what repr shows of a key: different keys, different texts -/
namespace FT
open PySem L2 TL ClX
theorem subset_perm {α : Type} [DecidableEq α] : ∀ {a b : List α}, a.Nodup → (∀ x ∈ a, x ∈ b) → b.length ≤ a.length → a.Perm b
  | [], b, _, _, h => by
    have : b = [] := List.length_eq_zero_iff.mp (Nat.le_zero.mp h)
    rw [this]
  | x :: a, b, nd, sub, h => by
    obtain ⟨h1, h2⟩ := List.nodup_cons.mp nd
    have hx := sub x List.mem_cons_self
    have p := List.perm_cons_erase hx
    refine List.Perm.trans (.cons x (subset_perm h2 (fun y hy => ?_) ?_)) p.symm
    · exact (List.mem_erase_of_ne fun e => h1 (by rw [← e]; exact hy)).mpr (sub y (List.mem_cons_of_mem _ hy))
    · rw [List.length_erase_of_mem hx]
      rw [List.length_cons] at h
      omega
def Low (z : Str) : Prop := ∀ c ∈ tl z, 97 ≤ c ∧ c ≤ 122
/-- what is shown of a key -/
def keyD : Key → PyData
  | .inl i => .int i
  | .inr z => .str z
def shK (k : Key) : Str := (keyD k).shown
end FT


/-! == of two dicts of parents (plain) -/
namespace FT
open PySem L2 TL ClX
theorem dkPairs {t : List (Str × Str)} (nd : (t.map Prod.fst).Nodup) : t.Nodup := by
  rw [List.nodup_iff_pairwise_ne] at nd ⊢
  exact (List.pairwise_map.mp nd).imp fun h e => h (by rw [e])
theorem dkRow {t : List (Str × Str)} (a z : Str) : rowEq (prs t) (Sum.inr a, V.str z) = decide (par t a = some z) := by
  unfold rowEq
  show (match valV (prs t) (Sum.inr a) with | some u => eqV (.str z) u | none => false) = _
  rw [val_prs]
  cases h : par t a with
  | none => rfl
  | some p =>
    show eqV (.str z) (.str p) = decide (some p = some z)
    by_cases e : p = z
    · rw [e, decide_eq_true rfl]
      simp [eqV]
    · rw [decide_eq_false fun y => e (Option.some.inj y)]
      simp [eqV]
      exact fun y => e y.symm
theorem dkLen (t : List (Str × Str)) : (prs t).length = t.length := by unfold prs kvT; rw [List.length_map, List.length_map]
theorem dkIff {a b : List (Str × Str)} (na : (a.map Prod.fst).Nodup) (nb : (b.map Prod.fst).Nodup) : eqDK (prs a) (prs b) = true ↔ a.Perm b := by
  unfold eqDK
  rw [Bool.and_eq_true, dkLen, dkLen, List.all_eq_true]
  constructor
  · rintro ⟨h1, h2⟩
    refine subset_perm (dkPairs na) (fun p hp => ?_) (Nat.le_of_eq (beq_iff_eq.mp h1).symm)
    have m : (Sum.inr p.1, V.str p.2) ∈ prs a := by
      unfold prs kvT
      rw [List.map_map]
      exact List.mem_map.mpr ⟨p, hp, rfl⟩
    have z := h2 _ m
    rw [dkRow, decide_eq_true_eq] at z
    exact par_mem z
  · intro h
    refine ⟨by rw [h.length_eq]; simp, fun p hp => ?_⟩
    unfold prs kvT at hp
    rw [List.map_map] at hp
    obtain ⟨q, hq, rfl⟩ := List.mem_map.mp hp
    show rowEq (prs b) (Sum.inr q.1, V.str q.2) = true
    rw [dkRow, decide_eq_true_eq]
    exact par_of nb (h.mem_iff.mp hq)
end FT


/-! own == with either answer, the right side an instance or a list -/
namespace L2
open PySem PySem.Spec PyProof.Rows
/-- what stands on the right -/
def RightL (C : Addr) (H : Hp) (y : V) : Prop := ∃ b, y = .ref b ∧ ((∃ dy fs, H b = some (.ins C dy fs)) ∨ ∃ xs, H b = some (.lst xs))
def spEqOl (R : Addr → V → Bool → Hp → Prop) : Sp := fun vs H Q _ => ∃ a y v, vs = [.ref a, y] ∧ R a y v H ∧ ∀ H', Ext H H' → Q (.bl v) H'
def rEqOl (C : Addr) (R : Addr → V → Bool → Hp → Prop) : R2 := fun x y H Q => ∃ a dx fs v, x = .ref a ∧ H a = some (.ins C dx fs) ∧ RightL C H y ∧ R a y v H ∧ ∀ H', Ext H H' → Q (.bl v) H'
theorem notFirst_lst {K : PySem.W.Frag} {C : Addr} : PySem.W.notFirst K C (.type "list") = true := by
  have h : ∃ l, PySem.fastBuiltinMro "list" = some l ∧ l.contains (.ref C) = false := by
    have e : (PySem.fastBuiltinMro "list").any (fun l => l.all fun v => match v with | .type _ => true | _ => false) = true := by decide +kernel
    cases h : PySem.fastBuiltinMro "list" with
    | none => rw [h] at e; cases e
    | some l =>
      refine ⟨l, rfl, ?_⟩
      rw [h] at e
      cases hc : l.contains (Value.ref C) with
      | false => rfl
      | true =>
        have z := List.all_eq_true.mp e _ (List.contains_iff_mem.mp hc)
        cases z
  obtain ⟨l, h1, h2⟩ := h
  show ((Value.type "list" == Value.ref C) || (((PySem.fastBuiltinMro "list").map fun l => l.contains (Value.ref C)) == some false)) = true
  rw [h1]
  show (_ || ((some (l.contains (Value.ref C))) == some false)) = true
  rw [h2]
  simp
theorem op_eqOl {X : Cx} {CX : CXT} {C f : Addr} {fd : FuncData} {ps : List Str} {R : Addr → V → Bool → Hp → Prop} {E : XK} {n : Nat} (F : FnOk X.prog X.w X.K X.mg X.base CX n f fd ps (spEqOl R))
    (hs : PySem.W.findIn X.K (.ref C) "__eq__" = some (some (.ref f))) (hf : PySem.W.isFn X.K (.ref f) = true) (hb : Binds X.K fd ps []) (hx : Passes CX X E) (hr : Room n X.A) : OpR X (compareOp .Eq) (rEqOl C R) := by
  intro pins s σ H x y v u Q I rx ry hq
  obtain ⟨a, dx, fs, v0, rfl, ha, ⟨b, rfl, hr'⟩, rel, q⟩ := hq
  cases rx
  cases ry
  obtain ⟨mA, J, _⟩ := ins_get I.hok ha
  obtain ⟨od, J, _⟩ := J.look
  obtain ⟨m, hF⟩ := I.fr
  have ty : ∃ tb, PySem.W.Looks (model X.prog X.w) s.heap (typeOf (.ref b)) tb ∧ PySem.W.notFirst X.K C tb = true := by
    rcases hr' with ⟨dy, gs, hb'⟩ | ⟨xs, hb'⟩
    · obtain ⟨mB, J', _⟩ := ins_get I.hok hb'
      obtain ⟨od', J', _⟩ := J'.look
      exact ⟨.ref C, J'.type, by simp [PySem.W.notFirst]⟩
    · obtain ⟨its, n', r', e', hz'⟩ := I.lst hb'
      exact ⟨.type "list", fun A Q E s k q => wpAny_typeOf_ref (k _ _ e') q, notFirst_lst⟩
  obtain ⟨tb, t1, t2⟩ := ty
  show wpAny (model X.prog X.w) X.A (richCompare .Eq _ _) (EP X pins σ Q) X.xe s
  refine PySem.W.cmp_K (op := .Eq) (tb := tb) hr.units0 hF I.ok.mod.kin J t1 t2 hs hf ?_
  have hsp : spEqOl R [.ref a, .ref b] H (fun v H' => v = .bl v0 ∧ Ext H H') E := ⟨a, .ref b, v0, rfl, rel, fun H' e => ⟨rfl, e⟩⟩
  have hl := F.len _ _ _ _ hsp
  have r2 : Vals [V.ref a, V.ref b] [Value.ref a, Value.ref b] := .cons rfl (.cons rfl .nil)
  refine wpAny_call (codeAny_mono (F.run X.A X.stack s H ⟨[.ref a, .ref b], []⟩ [.ref a, .ref b] [.ref a, .ref b] _ E hr I.env0 (by
    have := hb s [.ref a, .ref b] I.kIn (by simpa using hl)
    simpa using this) r2 hsp) fun r s' hq => ?_)
  cases r with
  | error e => exact hx pins σ H s e s' I hq
  | ok fl =>
    cases fl with
    | ret w =>
      obtain ⟨z, H', I', rz, ez, ex⟩ := I.after hq
      subst ez
      cases rz
      exact ⟨.bl v0, H', I', rfl, q H' ex⟩
    | next => exact False.elim hq
    | brk => exact False.elim hq
    | cont => exact False.elim hq
end L2


/-! the law of k02 -/
namespace FT
open PySem L2 TL ClX LamX NdefX LiI
theorem kwS1 {K : PySem.W.Frag} {x qual b : Str} {st : Stmt} {f : Addr} {fd : FuncData} {ps : List Str} (F : L2.Fun K x qual st f fd)
    (h : ∀ (kV doc pm : Value) (an : Option Addr) (cdv ct v : Value), bindArgs (PySem.W.fnOf x qual (defArgs st) (defBody st) (defScope st) .none kV doc pm an cdv ct) ⟨[], [(b, v)]⟩ = pure (ps.zip [v])) :
    KBn K fd ps 0 [b] (fun us ws => us ++ ws) (fun vs zs => vs ++ zs) := by
  obtain ⟨oc, od, kV, doc, pm, an, cdv, ct, osl, rfl, lk, hcd⟩ := F.ex
  refine ⟨fun s us ws _ h1 h2 => ?_, fun r r' => r.append r'⟩
  match us, ws, h1, h2 with
  | [], [v], _, _ => exact .of_eq (h kV doc pm an cdv ct v)
abbrev ap2 (α : Type) : List α → List α → List α := fun us ws => us ++ ws
def RFoL (CF : Addr) : Addr → V → Bool → Hp → Prop := fun a y v H => ∃ b, y = .ref b ∧ RFoB CF a b v H
def spBelowX : Sp := fun vs H Q E => ∃ m, m ≤ 13 ∧ spBelow m vs H Q E
theorem seq_join2 {t rest : TS} {D : Ends} {σ : St} {H : Hp} (R : St → Hp → Prop) (h : ∀ D' : Ends, (∀ σ' H', R σ' H' → D'.nx σ' H') → t D' σ H) (k : ∀ σ' H', R σ' H' → rest D σ' H') : tSeq t rest D σ H := h _ fun σ' H' r => k σ' H' r
def spUnkX (T : List (Addr × Str)) (CF : Addr) : Sp := fun vs H Q E => ∃ d c, spUnk T CF d c vs H Q E
theorem tree_noDue {t : List (Str × Str)} (o : TreeOk t) {od : Option V} (h : DueF t od) : od = none := by
  rcases h with ⟨n, _⟩ | ⟨_, ys, perm, _, e⟩
  · exact absurd ⟨o.one, o.few⟩ n
  · rw [e]
    cases z : ys.find? (badF t) with
    | none => rfl
    | some a =>
      exfalso
      have ma : a ∈ t.map Prod.fst := perm.mem_iff.mp (List.mem_of_find?_eq_some z)
      have hb := List.find?_some z
      obtain ⟨rk, r⟩ := o.up
      obtain ⟨p, ep, hp, _⟩ := o.step r ma
      have b1 : badB t a = false := by
        rcases hp with rfl | ⟨m, _⟩
        · exact badB_root ep
        · exact badB_key ep m
      have b2 : ringB t a = false := by
        refine ringB_no (no_ring (fun b => b = "" ∨ (b ∈ t.map Prod.fst ∧ rk b < rk a)) (fun b e => ?_) (fun b c hb e => ?_) (fun h => ?_))
        · rw [ep] at e
          cases e
          rcases hp with e | ⟨m, l⟩
          · exact .inl e
          · exact .inr ⟨m, l⟩
        · rcases hb with rfl | ⟨m, l⟩
          · exact absurd (List.mem_map.mpr ⟨_, par_mem e, rfl⟩) o.root
          · obtain ⟨p', ep', hp', _⟩ := o.step r m
            rw [ep'] at e
            cases e
            rcases hp' with e | ⟨m', l'⟩
            · exact .inl e
            · exact .inr ⟨m', Nat.lt_trans l' l⟩
        · rcases h with h | ⟨_, l⟩
          · rw [h] at ma
            exact o.root ma
          · exact Nat.lt_irrefl _ l
      unfold badF at hb
      rw [b1, b2] at hb
      cases hb
theorem pars_ok : ∀ {rows : List Str} {t t' : List (Str × Str)} {i : Nat}, ParT t → pars t rows i = .inr t' → ParT t'
  | [], t, t', i, h, e => by
    cases e
    exact h
  | r :: rs, t, t', i, h, e => by
    cases er : rowOf r with
    | none => rw [pars_none er] at e; cases e
    | some p =>
      by_cases m : p.1 ∈ t.map Prod.fst
      · rw [pars_twice er m] at e
        cases e
      · rw [pars_next er m] at e
        obtain ⟨b, ir, _⟩ := rowOf_is er
        exact pars_ok (h.snoc ir.1 m) e
theorem pars_line : ∀ {rows : List Str} {t : List (Str × Str)} {i k : Nat}, pars t rows i = .inl k → k < i + rows.length
  | [], t, i, k, e => by cases e
  | r :: rs, t, i, k, e => by
    rw [List.length_cons]
    cases er : rowOf r with
    | none =>
      rw [pars_none er] at e
      cases e
      omega
    | some p =>
      by_cases m : p.1 ∈ t.map Prod.fst
      · rw [pars_twice er m] at e
        cases e
        omega
      · rw [pars_next er m] at e
        have := pars_line e
        omega
theorem dueT_line {z : Str} {i : Nat} (h : DueT z (.line i)) : i ≤ z.length + 1 := by
  have l : (Txt.split z "\n").dropLast.length ≤ z.length + 1 := by
    have := split_few (x := z) (y := "\n") rfl
    rw [List.length_dropLast]
    omega
  rcases h with h | ⟨t, _, _, e⟩
  · have := pars_line h
    omega
  · omega
theorem dueT_name {z : Str} {v : V} (h : DueT z (.name v)) : v = .non ∨ ∃ a, v = .str a ∧ NameL a := by
  obtain ⟨t, ep, _, _, d⟩ := h
  have pt := pars_ok ParT.nil ep
  rcases d with ⟨_, e⟩ | ⟨_, ys, perm, _, e⟩
  · exact .inl (Option.some.inj e)
  · cases z : ys.find? (badF t) with
    | none => rw [z] at e; cases e
    | some a =>
      rw [z] at e
      exact .inr ⟨a, Option.some.inj e, pt.nm a (perm.mem_iff.mp (List.mem_of_find?_eq_some z))⟩
theorem dueT_tree {z : Str} {t : List (Str × Str)} (h : DueT z (.tree t)) : ParT t ∧ DueF t none ∧ TreeOk t := by
  obtain ⟨ep, _, _, d⟩ := h
  have pt := pars_ok ParT.nil ep
  exact ⟨pt, d, due_tree pt.nd pt.nm d⟩
/-! ### what is told and shown -/
def tupD (w : Str) (da : PyData) : PyData := .tuple [.str w, da]
structure ShF (K : PySem.W.Frag) (v : V) (da : PyData) : Prop where
  dp : ∀ H, Dp K H v da
  nd : da.hasDict = false
  ok : da.showable = true
  lf : PyData.leavesShort 8 da = true
  dep : da.depth = 0
  bk : da.bulk ≤ 8
theorem shF_int {K : PySem.W.Frag} {i : Nat} (h : i ≤ 20000) : ShF K (.int (i : Nat)) (.int (i : Nat)) := by
  have lt : i < 10 ^ 8 := by omega
  have s : PyData.showable (.int (i : Int)) = true := by
    simp only [PyData.showable, decide_eq_true_eq]
    refine PySem.Spec.log2_small ?_
    rw [Int.natAbs_natCast]
    refine Nat.lt_of_lt_of_le lt ?_
    exact Nat.le_trans (show 10 ^ 8 ≤ 2 ^ 200 by decide) (Nat.pow_le_pow_right (by decide) (by decide))
  have l : (PyData.shown (.int (i : Int))).length ≤ 8 := by
    have e : PyData.shown (.int (i : Int)) = Str.ofString (toString ((i : Nat) : Int)) := by
      simp only [PyData.shown]
    rw [e, len_tl, tl_num]
    exact Nat.le_trans (numL_len (by decide) lt) (by decide)
  exact ⟨fun _ => .int _, rfl, s, decide_eq_true l, rfl, by show 0 ≤ 8; decide⟩
theorem shF_non {K : PySem.W.Frag} : ShF K .non .none := ⟨fun _ => .non, rfl, rfl, rfl, rfl, by decide⟩
theorem shF_name {K : PySem.W.Frag} {a : Str} (h : NameL a) : ShF K (.str a) (.str a) := by
  refine ⟨fun _ => .str _, rfl, rfl, ?_, rfl, h.len.2⟩
  show (a.cps.toList.all fun c => decide (c < 16 ^ 8)) = true
  rw [List.all_eq_true]
  exact fun c hc => decide_eq_true (Nat.lt_of_le_of_lt (h.1 c hc).2 (by decide))
theorem ShF.tup {K : PySem.W.Frag} {v : V} {da : PyData} {w : Str} (h : ShF K v da) (hw : (w.cps.toList.all fun c => decide (c < 16 ^ 8)) = true) (lw : w.length ≤ 8) : (tupD w da).showable = true ∧ (tupD w da).depth ≤ 60 ∧ (tupD w da).shown.length ≤ sizeLine ∧ ∀ (H : Hp) (p : Addr), H p = some (.tup [.str w, v]) → DR K H (.ref p) (tupD w da) := by
  have lf : PyData.leavesShort 8 (tupD w da) = true := by
    show (PyData.leavesShort 8 (.str w) && (PyData.leavesShort 8 da && true)) = true
    rw [h.lf, show PyData.leavesShort 8 (.str w) = true from hw] <;> rfl
  refine ⟨?_, ?_, ?_, fun H p hp => .tup (SqT.of hp) (.cons (.dat (.str w) rfl) (.cons (.dat (h.dp H) h.nd) .nil))⟩
  · show (PyData.showable (.str w) && (da.showable && true)) = true
    rw [h.ok] <;> rfl
  · show max (PyData.depth (.str w)) (max da.depth 0) + 1 ≤ 60
    have : PyData.depth (.str w) = 0 := rfl
    have := h.dep
    omega
  · refine PyData.shown_fits_bulk (B := 8) (by decide) (by decide) lf ?_
    show w.cps.size + 1 + (da.bulk + 1 + 0) ≤ _
    have : w.cps.size = w.length := rfl
    have := h.bk
    omega
/-- what parsing gives in the law's reading -/
def DvF (H : Hp) (v : V) : TDue → Prop
  | .line i => ∃ p, v = .ref p ∧ H p = some (.tup [.str "text", .int (i : Nat)])
  | .name u => ∃ p, v = .ref p ∧ H p = some (.tup [.str "forest", u])
  | .tree t => ∃ p, v = .ref p ∧ H p = some (.dK (prs t))
/-- what parsing gives -/
def TdF (CF : Addr) (H : Hp) (v : V) : TDue → Prop
  | .line i => ∃ p, v = .ref p ∧ H p = some (.tup [.str "text", .int (i : Nat)])
  | .name u => ∃ p, v = .ref p ∧ H p = some (.tup [.str "forest", u])
  | .tree t => ∃ y ts, v = .ref y ∧ FAt CF H y ts ∧ ts.Perm t ∧ TreeOk ts
theorem DvF.ext {H H' : Hp} {v : V} {o : TDue} (e : ExtN H H') (h : DvF H v o) : DvF H' v o := by
  cases o with
  | line i => exact let ⟨p, a, b⟩ := h; ⟨p, a, e _ _ b fun ps z => nomatch z⟩
  | name u => exact let ⟨p, a, b⟩ := h; ⟨p, a, e _ _ b fun ps z => nomatch z⟩
  | tree t => exact let ⟨p, a, b⟩ := h; ⟨p, a, e _ _ b fun ps z => nomatch z⟩
theorem TdF.ext {CF : Addr} {H H' : Hp} {v : V} {o : TDue} (e : ExtN H H') (h : TdF CF H v o) : TdF CF H' v o := by
  cases o with
  | line i => exact let ⟨p, a, b⟩ := h; ⟨p, a, e _ _ b fun ps z => nomatch z⟩
  | name u => exact let ⟨p, a, b⟩ := h; ⟨p, a, e _ _ b fun ps z => nomatch z⟩
  | tree t => exact let ⟨y, ts, a, b, c⟩ := h; ⟨y, ts, a, b.extU e, c⟩
theorem parG_of {H : Hp} {Q : VK} {o : TDue} (h : ∀ v H', Same H H' → DvF H' v o → Q v H') : ParG H Q o := by
  cases o with
  | line i => exact fun p H' s np hp => h _ H' s ⟨p, rfl, hp⟩
  | name u => exact fun p H' s np hp => h _ H' s ⟨p, rfl, hp⟩
  | tree t => exact fun p H' s np hp => h _ H' s ⟨p, rfl, hp⟩
section
variable {T : List (Addr × Str)} {C : Nat → Addr} {CF CT CI : Addr} {σ : St} {H : Hp} {Q : VK}
/-- a text is told -/
theorem parO_told (eT : C 0 = CT) (eI : C 1 = CI) {H2 : Hp} {o : TDue} (tb : Tabs T H2) (k : ∀ v H', Same H2 H' → TdF CF H' v o → Q v H') :
    ParO CF CT CI H2 Q (fun cls d H' => ∃ i v, i < 3 ∧ cls = .ref (C i) ∧ FldF H' d v (flF i) ∧ ∀ p H'', Same H' H'' → H' p = none → H'' p = some (.tup [.str (wdF i), v]) → Q (.ref p) H'') o := by
  cases o with
  | line i =>
    intro dd H5 s5 nd5 hd5
    exact ⟨0, .int (i : Nat), by decide, by rw [eT], ⟨dd, rfl, hd5⟩, fun p H6 s6 np hp => k _ H6 (s5.trans s6) ⟨p, rfl, hp⟩⟩
  | name u =>
    intro dd H5 s5 nd5 hd5
    exact ⟨1, u, by decide, by rw [eI], ⟨dd, rfl, hd5⟩, fun p H6 s6 np hp => k _ H6 (s5.trans s6) ⟨p, rfl, hp⟩⟩
  | tree t => exact fun y ts H' pm asc ok fa s ny => k _ H' s ⟨y, ts, rfl, fa, pm, ok.perm pm.symm⟩
theorem lam_parse {K : PySem.W.Frag} {i : Nat} {z : Str} {o : TDue} (eT : C 0 = CT) (eI : C 1 = CI) (hi : σ[i]? = some (some (.str z))) (tb : Tabs T H) (lz : z.length ≤ 19000) (due : DueT z o)
    (k : ∀ v H', ExtN H H' → Tabs T H' → TdF CF H' v o → Q v H') : tLam T (TToldF C) (fun E => tSMeth CF (spParse K CF CT CI) [] E (tC (.ref CF)) (tCons (tVar i) tNil)) σ H Q := by
  refine ⟨tb, fun H2 e2 t2 => ?_⟩
  refine ⟨rfl, _, hi, .str z, rfl, .inl ⟨z, rfl, lz, fun o' due' => ?_⟩⟩
  cases dueT_one due' due
  exact parO_told eT eI t2 fun v H' s td => k v H' (e2.trans (ExtN.of s)) (t2.ext s) td
theorem lam_noTx {K : PySem.W.Frag} {i : Nat} {v : V} (eT : C 0 = CT) (hi : σ[i]? = some (some v)) (tb : Tabs T H) (nt : ∀ H', ExtN H H' → NoTx K H' v)
    (k : ∀ p H', ExtN H H' → Tabs T H' → H' p = some (.tup [.str "text", .int 0]) → Q (.ref p) H') : tLam T (TToldF C) (fun E => tSMethK CF (["text"] : List Str).length (spParse K CF CT CI) (ap2 V) E (tC (.ref CF)) (tCons (tVar i) tNil)) σ H Q := by
  refine ⟨tb, fun H2 e2 t2 => ?_⟩
  refine ⟨rfl, _, hi, rfl, v, rfl, .inr ⟨nt H2 e2, ?_⟩⟩
  intro dd H5 s5 nd5 hd5
  exact ⟨0, .int 0, by decide, by rw [eT], ⟨dd, rfl, hd5⟩, fun p H6 s6 np hp => k p H6 (e2.trans (ExtN.of (s5.trans s6))) ((t2.ext s5).ext s6) hp⟩
end
/-! ### the text of thirteen flags -/
def rowsM : List Str := (tl "abcdefghijklm").map fun c => "x" ++ ⟨#[c]⟩ ++ " -\n"
def rowM (c : Nat) : Str := "x" ++ ⟨#[c]⟩ ++ " -"
def keyM (c : Nat) : Str := "x" ++ ⟨#[c]⟩
def tM : List (Str × Str) := (tl "abcdefghijklm").map fun c => (keyM c, "")
theorem many_due : DueT (Txt.join "" rowsM) (.name .non) := by
  have e : Txt.split (Txt.join "" rowsM) "\n" = (tl "abcdefghijklm").map rowM ++ [("" : Str)] := by decide +kernel
  have p : pars [] ((tl "abcdefghijklm").map rowM ++ [("" : Str)]).dropLast 0 = .inr tM := by decide +kernel
  refine ⟨tM, by rw [e]; exact p, by rw [e]; exact List.getLast?_concat .., by decide +kernel, .inl ⟨by decide +kernel, rfl⟩⟩
theorem many_len : (Txt.join "" rowsM).length ≤ 100 := by
  rw [join_none_len]
  decide +kernel
def bndF : Nat → Nat
  | 0 => 216
  | j + 1 => 4 * bndF j + 80
/-- what stands in a turn -/
structure G2 (T : List (Addr × Str)) (CF d c x q : Addr) (t ts : List (Str × Str)) (H : Hp) : Prop where
  dr : DrawAt H d c
  tb : Tabs T H
  fa : FAt CF H x ts
  hq : H q = some (.dK (prs t))
theorem G2.keep {T : List (Addr × Str)} {CF d c x q : Addr} {t ts : List (Str × Str)} {H H' : Hp} (g : G2 T CF d c x q t ts H) (dr : DrawAt H' d c) (k : Keep d c H H') : G2 T CF d c x q t ts H' := ⟨dr, tabs_keep g.tb g.dr k, g.fa.keepN g.dr k.n, k.n.dk g.dr g.hq⟩
theorem G2.same {T : List (Addr × Str)} {CF d c x q : Addr} {t ts : List (Str × Str)} {H H' : Hp} (g : G2 T CF d c x q t ts H) (s : Same H H') : G2 T CF d c x q t ts H' := g.keep (g.dr.mono s) (Keep.of_same s)
theorem G2.extN {T : List (Addr × Str)} {CF d c x q : Addr} {t ts : List (Str × Str)} {H H' : Hp} (g : G2 T CF d c x q t ts H) (e : ExtN H H') (tb : Tabs T H') : G2 T CF d c x q t ts H' := ⟨g.dr.ext e, tb, g.fa.extU e, e _ _ g.hq (fun ps z => nomatch z)⟩
def spLaw02 (K : PySem.W.Frag) (T : List (Addr × Str)) : Sp := fun vs H Q _ => ∃ (a : Addr) (ns : List Int), vs = [.ref a] ∧ SqL K H a (ns.map V.int) ∧ ns.length ≤ 63 ∧ Tabs T H ∧ ∀ H', Q (.bl true) H'
abbrev N02 : List Str := ["_law_script", "_law_draw", "_law_turn", "_law_above", "_law_forest", "_law_change", "_law_due_here", "_law_told_here", "_law_many", "_law_odd", "_law_said", "_law_name", "_law_sign"]
/-- a value that is no text, off the drawing state -/
def OnF (d c : Addr) (H : Hp) (v : V) : Prop := v = .non ∨ v = .int 5 ∨ v = .bl true ∨ ∃ a o, v = .ref a ∧ a ≠ d ∧ a ≠ c ∧ H a = some o ∧ ((∃ xs, o = .lst xs) ∨ o = .dK [] ∨ ∃ xs, o = .tup xs)
theorem OnF.keep {d c : Addr} {H H' : Hp} {v : V} (k : Keep d c H H') (h : OnF d c H v) : OnF d c H' v := by
  rcases h with h | h | h | ⟨a, o, e, h1, h2, h, r⟩
  · exact .inl h
  · exact .inr (.inl h)
  · exact .inr (.inr (.inl h))
  · exact .inr (.inr (.inr ⟨a, o, e, h1, h2, k _ _ h1 h2 h, r⟩))
theorem OnF.ext {d c : Addr} {H H' : Hp} {v : V} (k : ExtN H H') (h : OnF d c H v) : OnF d c H' v := by
  rcases h with h | h | h | ⟨a, o, e, h1, h2, h, r⟩
  · exact .inl h
  · exact .inr (.inl h)
  · exact .inr (.inr (.inl h))
  · refine .inr (.inr (.inr ⟨a, o, e, h1, h2, k _ _ h fun ps z => ?_, r⟩))
    rcases r with ⟨xs, r⟩ | r | ⟨xs, r⟩ <;> (rw [r] at z; cases z)
theorem OnF.no {K : PySem.W.Frag} {d c : Addr} {H : Hp} {v : V} (h : OnF d c H v) : NoTx K H v := by
  rcases h with rfl | rfl | rfl | ⟨a, o, rfl, h1, h2, h, r⟩
  · exact ⟨_, .non, by decide⟩
  · exact ⟨_, .int _, by decide⟩
  · exact ⟨_, .bl _, by decide⟩
  · rcases r with ⟨xs, rfl⟩ | rfl | ⟨xs, rfl⟩
    · exact ⟨_, .lst h, by decide⟩
    · exact ⟨_, .dct h, by decide⟩
    · exact ⟨_, .tup h, by decide⟩
theorem OdF.keep {d c : Addr} {H H' : Hp} {v : V} {da : PyData} (k : Keep d c H H') (h : OdF d c H v da) : OdF d c H' v da := by
  rcases h with h | ⟨a, o, e, h1, h2, m, h⟩
  · exact .inl h
  · exact .inr ⟨a, o, e, h1, h2, m, k _ _ h1 h2 h⟩
structure W02 (P : Program) (w : World) (K : PySem.W.Frag) (mg : Str → Option Value) (base : Heap) (CF CT CI : Addr) (mc : Value) (T : List (Addr × Str)) (f g : Nat → Addr) (fd : Nat → FuncData) : Prop where
  O : FoC K CF
  Z : Fc K mg CF mc
  SF : IsF K CF
  kt : PySem.W.kitOne K (.ref CF) (.type "tuple") = some false
  bg : Dn P w K mg base CX0 1 "_law_begin" ["_law_script"] (spBegin K) (f 0) (fd 0)
  dt : Dn P w K mg base CX0 1 "_law_take" ["_law_draw", "_law_size"] spDraw (f 1) (fd 1)
  dp : Dn P w K mg base CX0 2 "_law_pick" ["_law_draw", "_law_some"] (spPick K) (f 2) (fd 2)
  pa : Dn P w K mg base CX0 4 "_law_parents" ["_law_draw", "_law_many"] spParentsP (f 3) (fd 3)
  fi : FnOk P w K mg base (L2.CX P w) 4 (f 4) (fd 4) ["self", "parents"] (spFInitR CF CI)
  fim : Mk K CF (f 4)
  fib : Binds K (fd 4) ["self", "parents"] []
  tx : PrN P w K mg base 15 CF "text" (spFText CF) (g 5) (f 5) (fd 5)
  pp : PrN P w K mg base 1 CF "parents" (spFParents CF) (g 6) (f 6) (fd 6)
  rw_ : Dn P w K mg base CX0 1 "_law_row" ["_law_above", "_law_name"] spLRow (f 7) (fd 7)
  bl : Dn P w K mg base CX0 14 "_law_below" ["_law_above", "_law_spot"] spBelowX (f 8) (fd 8)
  bt : Dn P w K mg base CX0 3 "_law_bent" ["_law_draw", "_law_said"] spBentF (f 9) (fd 9)
  pd : Dn P w K mg base CX0 3 "_law_parsed" ["_law_said"] spParsed (f 10) (fd 10)
  ps : FnOk P w K mg base (L2.CX P w) 6 (f 11) (fd 11) ["text"] (spParse K CF CT CI)
  psm : SMet K CF mc "parse" (g 11) (f 11)
  psp : PySem.W.keepIn K (.ref (f 11)) = true
  psb : Binds K (fd 11) ["text"] []
  psk : KBn K (fd 11) ["text"] 0 ["text"] (ap2 Value) (ap2 V)
  eq : FnOk P w K mg base CX0 1 (f 12) (fd 12) ["self", "other"] (spEqOl (RFoL CF))
  eqa : PySem.W.findIn K (.ref CF) "__eq__" = some (some (.ref (f 12)))
  eqf : PySem.W.isFn K (.ref (f 12)) = true
  eqb : Binds K (fd 12) ["self", "other"] []
  un : FnG P w K mg base CX0 7 (f 13) (fd 13) ["_law_forest", "_law_odd"] (spUnkX T CF)
  unm : mg "_law_unknown_right" = some (.ref (f 13))
  unk : PySem.W.keepIn K (.ref (f 13)) = true
  unb : Binds K (fd 13) ["_law_forest", "_law_odd"] []
section
variable {P : Program} {w : World} {K : PySem.W.Frag} {mg : Str → Option Value} {base : Heap}
theorem below_any {f : Addr} {fd : FuncData} (h : ∀ m, FnOk P w K mg base CX0 (m + 1) f fd ["_law_above", "_law_spot"] (spBelow m)) : FnOk P w K mg base CX0 14 f fd ["_law_above", "_law_spot"] spBelowX :=
  ⟨fun vs H Q E ⟨m, _, q⟩ => (h m).len vs H Q E q, fun A outer s H args us vs Q E hr e0 b r ⟨m, lm, q⟩ => ((h m).mono (by omega)).run A outer s H args us vs Q E hr e0 b r q⟩
theorem feqL2 {f CF : Addr} {fd : FuncData} (h : FnOk P w K mg base CX0 1 f fd ["self", "other"] (spEqB (RFoB CF))) : FnOk P w K mg base CX0 1 f fd ["self", "other"] (spEqOl (RFoL CF)) :=
  FnOk.imp h fun vs H Q E ⟨a, y, v, e, ⟨b, ey, r⟩, k⟩ => ⟨a, b, v, by rw [e, ey], r, k⟩
theorem unk_any {f : Addr} {fd : FuncData} {T : List (Addr × Str)} {CF : Addr} (h : ∀ d c, FnG P w K mg base CX0 7 f fd ["_law_forest", "_law_odd"] (spUnk T CF d c)) : FnG P w K mg base CX0 7 f fd ["_law_forest", "_law_odd"] (spUnkX T CF) :=
  ⟨fun vs H Q E ⟨d, c, q⟩ => (h d c).len vs H Q E q, fun A outer s H args us vs Q E clr hr e0 b r ⟨d, c, q⟩ => (h d c).run A outer s H args us vs Q E clr hr e0 b r q⟩
theorem sc02 : FnScope N02 ["_law_script"] (defScope s_law) := ⟨rfl, rfl, rfl, by decide +kernel, rfl, by decide +kernel, by decide +kernel⟩
theorem ok_law02 {f0 fEr CF CT CI R co ta : Addr} {mc : Value} {C : Nat → Addr} {T : List (Addr × Str)} {f g : Nat → Addr} {fd : Nat → FuncData} {fd0 fdEr : FuncData} (F : FunC K "law" "law" s_law f0 fd0 co) (N : Nm mg) (L : W02 P w K mg base CF CT CI mc T f g fd)
    (GE : Ge K mg "_law_told" s__law_told fEr fdEr) (CC : Cl4F K mg R C) (eT : C 0 = CT) (eI : C 1 = CI) (TB : TabB base mg co ta) (hmT : (ta, lamQ "law") ∈ T) (hut : ∀ p ∈ T, p.1 = ta → p.2 = lamQ "law") : FnG P w K mg base CX0 17 f0 fd0 ["_law_script"] (spLaw02 K T) := by
  refine F.okG sc02 (fun vs H Q E h => ?_) (fun A outer s H vs Q E clr hr h => ?_)
  · obtain ⟨a, ns, rfl, _⟩ := h
    rfl
  · obtain ⟨a, nums, rfl, hS, hlen, tT, k⟩ := h
    have hu := hu_of hr
    have hr1 : Room 1 _ := hr.mono (by decide)
    have hr2 : Room 2 _ := hr.mono (by decide)
    have hr3 : Room 3 _ := hr.mono (by decide)
    have hr4 : Room 4 _ := hr.mono (by decide)
    have hr5 : Room (4 + 1) _ := hr.mono (by decide)
    have hr7 : Room 7 _ := hr.mono (by decide)
    have hr8 : Room (6 + 2) _ := hr.mono (by decide)
    have hr14 : Room 14 _ := hr.mono (by decide)
    have hr15 : Room 15 _ := hr.mono (by decide)
    have hr16 : Room (15 + 1) _ := hr.mono (by decide)
    have nd := sc02.nd
    have big : 20000 ≤ sizeLine := by decide
    refine ⟨_, pss_cons (ps_set (i := 1) nd rfl (.inl rfl) (pe_call L.bg.ok hr1 rfl L.bg.mgn L.bg.kp L.bg.bn .nil pass0 (pa_cons (pv 0) pa_nil)))
      (pss_cons (ps_for PassesOwn.never rfl (pi_range1 rfl N.rng (pa_cons (pe_op op_add pe_int (pe_callB (call_min2 rfl) (by rfl) N.min (by decide +kernel) (pa_cons (pe_callB call_len_seq (by rfl) N.len PySem.boot_len (pa_cons (pv 0) pa_nil)) (pa_cons pe_int pa_nil)))) pa_nil)) (pg_name (i := 2) nd rfl (.inl rfl))
          (pss_cons (ps_set (i := 3) nd rfl (.inr rfl) (pe_call L.pa.ok hr4 rfl L.pa.mgn L.pa.kp L.pa.bn .nil pass0 (pa_cons (pv 1) (pa_cons (pe_op op_add pe_int (pe_call L.dt.ok hr1 rfl L.dt.mgn L.dt.kp L.dt.bn .nil pass0 (pa_cons (pv 1) (pa_cons pe_int pa_nil)))) pa_nil))))
          (pss_cons (ps_set (i := 4) nd rfl (.inl rfl) (pe_make (E := E0) L.fim L.fi hr5 (by rfl) L.Z.gF L.fib .nil L2.passL (pa_cons (pv 3) pa_nil)))
          (pss_cons (ps_if (pt_cmpR op_ne (pe_prop (pv 4) L.O.cl L.tx.pr L.tx.fn hr16 L.tx.bn .nil pass0 (by rfl)) (pe_join pe_str (pe_lc (own := [("_law_name", 11)]) (g := gName 11) (tt := tYes) (te := tCall spLRow [] E0 (tCons (tVar 3) (tCons (tVar 11) tNil))) rfl nd (pi_list (pe_call L.bl.ok hr14 rfl L.bl.mgn L.bl.kp L.bl.bn .nil pass0 (pa_cons (pv 3) (pa_cons pe_str pa_nil)))) (blkOk_by (N := N02) (sc := defScope s_law) (by decide +kernel)) (fun _ _ _ _ _ => pg_name (i := 11) nd rfl (Or.inl rfl)) (fun _ _ _ _ _ => pts_nil) (fun _ _ _ _ _ => (pe_call L.rw_.ok hr1 rfl L.rw_.mgn L.rw_.kp L.rw_.bn .nil pass0 (pa_cons (pv 3) (pa_cons (pv 11) pa_nil)))))) (nomark _)) (pss_one (ps_ret pe_bl)) pss_nil)
          (pss_cons (ps_set (i := 10) nd rfl (.inr rfl) (pe_join pe_str (pe_lock (pe_lc (own := [("_law_name", 11)]) (g := gName 11) (tt := tYes) (te := tCall spLRow [] E0 (tCons (tVar 3) (tCons (tVar 11) tNil))) rfl nd (pi_keys (pv 3)) (blkOk_by (N := N02) (sc := defScope s_law) (by decide +kernel)) (fun _ _ _ _ _ => pg_name (i := 11) nd rfl (Or.inl rfl)) (fun _ _ _ _ _ => pts_nil) (fun _ _ _ _ _ => (pe_call L.rw_.ok hr1 rfl L.rw_.mgn L.rw_.kp L.rw_.bn .nil pass0 (pa_cons (pv 3) (pa_cons (pv 11) pa_nil))))))))
          (pss_cons (ps_for PassesOwn.never rfl (pi_range1 rfl N.rng (pa_cons (pe_call L.dp.ok hr2 rfl L.dp.mgn L.dp.kp L.dp.bn .nil pass0 (pa_cons (pv 1) (pa_cons (pe_lst (pa_cons pe_int (pa_cons pe_int (pa_cons pe_int (pa_cons pe_int (pa_cons pe_int pa_nil)))))) pa_nil))) pa_nil)) (pg_name (i := 5) nd rfl (.inl rfl)) (pss_one (ps_set (i := 10) nd rfl (.inr rfl) (pe_call L.bt.ok hr3 rfl L.bt.mgn L.bt.kp L.bt.bn .nil pass0 (pa_cons (pv 1) (pa_cons (pv 10) pa_nil))))))
          (pss_cons (ps_par (i := 6) (j := 7) rfl nd rfl rfl (by decide) rfl rfl (pa_cons (pe_call L.pd.ok hr3 rfl L.pd.mgn L.pd.kp L.pd.bn .nil pass0 (pa_cons (pv 10) pa_nil)) (pa_cons (pe_lamS (T := T) (k := 6) (t := fun E => tSMeth CF (spParse K CF CT CI) [] E (tC (.ref CF)) (tCons (tVar 10) tNil)) rfl GE.mgn GE.fn GE.bn scTf rfl (.inl rfl) (fun cdg => toldF_gives N CC) TB rfl hmT hut hr8 (lamS_by (sc := defScope s_law) (by decide +kernel)) rfl (fun _ _ _ _ _ => rfl) (fun A outer s H E f c' hr2 => pe_smeth (pe_glob (v := .ref CF) (by rfl) L.Z.gF rfl) L.Z.rd L.psm L.ps hr2 L.psp L.psb .nil (passes_call (takes_of rfl rfl rfl rfl) (fun _ _ _ _ h => h)) (pa_cons (pv 10) pa_nil))) pa_nil)) (by rfl))
          (pss_cons (ps_if (PW.pt (pw_and (pt_val (pe_callB call_isi (by rfl) N.isi (by decide +kernel) (pa_cons (pv 6) (pa_cons (pe_bltn (v := .ty "tuple") (u := .type "tuple") (by rfl) N.tup (by decide +kernel) rfl) pa_nil)))) (pw_and1 (pt_cmpR op_ne (pe_callB (call_reprR clr.deeper hr.units) (by rfl) N.rep (by decide +kernel) (pa_cons (pv 7) pa_nil)) (pe_callB (call_reprR clr.deeper hr.units) (by rfl) N.rep (by decide +kernel) (pa_cons (pv 6) pa_nil)) (nomark _))))) (pss_one (ps_ret pe_bl)) pss_nil)
          (pss_cons (ps_if (PW.pt (pw_and (pt_val (pe_callB call_isi (by rfl) N.isi (by decide +kernel) (pa_cons (pv 6) (pa_cons (pe_bltn (v := .ty "dict") (u := .type "dict") (by rfl) N.dct (by decide +kernel) rfl) pa_nil)))) (pw_and1 (pt_val (pe_callB call_isi (by rfl) N.isi (by decide +kernel) (pa_cons (pv 7) (pa_cons (pe_bltn (v := .ty "tuple") (u := .type "tuple") (by rfl) N.tup (by decide +kernel) rfl) pa_nil))))))) (pss_one (ps_ret pe_bl)) pss_nil)
          (pss_cons (ps_if (PW.pt (pw_and (pt_val (pe_callB call_isi (by rfl) N.isi (by decide +kernel) (pa_cons (pv 6) (pa_cons (pe_bltn (v := .ty "dict") (u := .type "dict") (by rfl) N.dct (by decide +kernel) rfl) pa_nil)))) (pw_and1 (PW.pt (pw_or (pt_cmpR (op_ne_dictC (Nat.lt_of_succ_lt hu)) (pe_prop (pv 7) L.O.cl L.pp.pr L.pp.fn hr2 L.pp.bn .nil pass0 (by rfl)) (pv 6) (nomark _)) (pw_or1 (pt_not (pt_cmpR (op_eqOl (E := E0) L.eq L.eqa L.eqf L.eqb pass0 hr1) (pv 7) (pe_make (E := E0) L.fim L.fi hr5 (by rfl) L.Z.gF L.fib .nil L2.passL (pa_cons (pv 6) pa_nil)) (nomark _))))))))) (pss_one (ps_ret pe_bl)) pss_nil)
          (pss_cons (ps_set (i := 8) nd rfl (.inr rfl) (pe_join pe_str (pe_lc (own := [("_law_sign", 12)]) (g := gName 12) (tt := tYes) (te := tOp rAddS (tOp rAddS (tC (.str "x")) (tVar 12)) (tC (.str " -\n"))) rfl nd (pi_str pe_str) (blkOk_by (N := N02) (sc := defScope s_law) (by decide +kernel)) (fun _ _ _ _ _ => pg_name (i := 12) nd rfl (Or.inl rfl)) (fun _ _ _ _ _ => pts_nil) (fun _ _ _ _ _ => pe_op op_add_str (pe_op op_add_str pe_str (pv 12)) pe_str))))
          (pss_cons (ps_if (pt_cmpR (op_neD hr.units) (pe_lamS (T := T) (k := 6) (t := fun E => tSMeth CF (spParse K CF CT CI) [] E (tC (.ref CF)) (tCons (tVar 8) tNil)) rfl GE.mgn GE.fn GE.bn scTf rfl (.inl rfl) (fun cdg => toldF_gives N CC) TB rfl hmT hut hr8 (lamS_by (sc := defScope s_law) (by decide +kernel)) rfl (fun _ _ _ _ _ => rfl) (fun A outer s H E f c' hr2 => pe_smeth (pe_glob (v := .ref CF) (by rfl) L.Z.gF rfl) L.Z.rd L.psm L.ps hr2 L.psp L.psb .nil (passes_call (takes_of rfl rfl rfl rfl) (fun _ _ _ _ h => h)) (pa_cons (pv 8) pa_nil))) (pe_tup (pa_cons pe_str (pa_cons pe_non pa_nil))) (nomark _)) (pss_one (ps_ret pe_bl)) pss_nil)
          (pss_cons (ps_set (i := 9) nd rfl (.inr rfl) (pe_call L.dp.ok hr2 rfl L.dp.mgn L.dp.kp L.dp.bn .nil pass0 (pa_cons (pv 1) (pa_cons (pe_lst (pa_cons pe_non (pa_cons pe_int (pa_cons pe_bl (pa_cons (pe_lst (pa_cons pe_str pa_nil)) (pa_cons pe_dnewK (pa_cons (pe_tup (pa_cons pe_str pa_nil)) (pa_cons (pe_lst (pa_cons (pv 10) pa_nil)) pa_nil)))))))) pa_nil))))
          (pss_cons (ps_if (pt_cmpR op_ne (pe_callB (call_reprR clr.deeper hr.units) (by rfl) N.rep (by decide +kernel) (pa_cons (pe_lamS (T := T) (k := 6) (t := fun E => tSMethK CF (["text"] : List Str).length (spParse K CF CT CI) (ap2 V) E (tC (.ref CF)) (tCons (tVar 9) tNil)) rfl GE.mgn GE.fn GE.bn scTf rfl (.inl rfl) (fun cdg => toldF_gives N CC) TB rfl hmT hut hr8 (lamS_by (sc := defScope s_law) (by decide +kernel)) rfl (fun _ _ _ _ _ => rfl) (fun A outer s H E f c' hr2 => pe_smethK (pe_glob (v := .ref CF) (by rfl) L.Z.gF rfl) L.Z.rd L.psm L.ps hr2 L.psp L.psk (passes_call (takes_of rfl rfl rfl rfl) (fun _ _ _ _ h => h)) (pk_cons (pv 9) pk_nil))) pa_nil)) (pe_callB (call_reprR clr.deeper hr.units) (by rfl) N.rep (by decide +kernel) (pa_cons (pe_tup (pa_cons pe_str (pa_cons pe_int pa_nil))) pa_nil)) (nomark _)) (pss_one (ps_ret pe_bl)) pss_nil)
          (pss_cons (ps_set (i := 9) nd rfl (.inr rfl) (pe_call L.dp.ok hr2 rfl L.dp.mgn L.dp.kp L.dp.bn .nil pass0 (pa_cons (pv 1) (pa_cons (pe_lst (pa_cons pe_non (pa_cons pe_str (pa_cons pe_str (pa_cons pe_int (pa_cons pe_bl (pa_cons (pe_lst pa_nil) (pa_cons pe_dnewK (pa_cons (pe_tup (pa_cons pe_str pa_nil)) (pa_cons (pe_lst (pa_cons pe_str pa_nil)) (pa_cons pe_str pa_nil))))))))))) pa_nil))))
          (pss_one (ps_if (pt_not (pt_val (pe_callG L.un clr.deeper hr7 rfl L.unm L.unk L.unb .nil pass0 (pa_cons (pv 4) (pa_cons (pv 9) pa_nil))))) (pss_one (ps_ret pe_bl)) pss_nil)))))))))))))))))
      (pss_one (ps_ret pe_bl))), ?_⟩
    refine ⟨_, rfl, a, nums, rfl, hS, hlen, fun H0 d c s0 ndd ncc dr0 => ?_⟩
    have tT0 : Tabs T H0 := tT.ext s0
    refine ⟨_, rfl, a, _, rfl, .inl (Same.sql s0 hS), _, _, rfl, _, _, rfl, rfl, ?_⟩
    obtain ⟨m, em⟩ : ∃ m : Int, m = 4 + (if (10 : Int) < ((nums.map V.int).length : Int) then 10 else ((nums.map V.int).length : Int)) := ⟨_, rfl⟩
    have lm : 0 ≤ m ∧ m ≤ 14 := by
      rw [List.length_map] at em
      subst em
      split <;> constructor <;> omega
    refine ⟨m, by rw [em] <;> rfl, by omega, by omega, ?_⟩
    refine for_it (walk_range (lo := 0) (n := m.toNat)) (fun j σ' H' => (∃ u2 u3 u4 u5 u6 u7 u8 u9 u10, σ' = [some (.ref a), some (.ref d), u2, u3, u4, u5, u6, u7, u8, u9, u10, none, none]) ∧ DrawAt H' d c ∧ Tabs T H') ⟨⟨_, _, _, _, _, _, _, _, _, rfl⟩, dr0, tT0⟩ (fun _ _ _ _ _ => trivial) ?_ ?_
    rotate_left
    · intro σ' He _
      exact k He
    intro jj xj σ' Ha Hb hj ⟨⟨u2, u3, u4, u5, u6, u7, u8, u9, u10, e⟩, dr, tb⟩ ⟨ea, eb⟩
    subst e
    subst ea
    subst eb
    clear em lm hj
    obtain ⟨kk, ekk⟩ : ∃ kk : Int, kk = 0 + ((jj : Nat) : Int) := ⟨_, rfl⟩
    -- the tree, the forest
    refine seq_join2 (fun σ' H' => ∃ (q : Addr) (t : List (Str × Str)), σ' = [some (.ref a), some (.ref d), some (.int (0 + ((jj : Nat) : Int))), some (.ref q), u4, u5, u6, u7, u8, u9, u10, none, none] ∧ TreeOk t ∧ (∀ a ∈ t.map Prod.fst, a ∈ pool1 ∨ a ∈ pool2) ∧ DrawAt H' d c ∧ Tabs T H' ∧ H' q = some (.dK (prs t))) (fun D' nxD => ?_) (fun σ3 H3 ⟨q, t, e3, o, pool, dr3, tb3, hq3⟩ => ?_)
    · refine ⟨_, rfl, _, rfl, d, c, 12, rfl, dr, by decide, by decide, fun k1 H1 k10 k11 dr1 kp1 => ⟨_, _, rfl, rfl, d, c, (1 + k1).toNat, by rw [Int.toNat_of_nonneg (by omega)] <;> rfl, dr1, by omega, by omega, fun q t H2 o lt pool nq hq2 dr2 kp2 => ?_⟩⟩
      exact nxD _ _ ⟨q, t, rfl, o, pool, dr2, tabs_keep tb dr (kp1.trans kp2), hq2⟩
    subst e3
    have nmt : ∀ z ∈ t.map Prod.fst, NameL z := o.nm
    refine seq_join2 (fun σ' H' => ∃ (x : Addr) (ts : List (Str × Str)), σ' = [some (.ref a), some (.ref d), some (.int (0 + ((jj : Nat) : Int))), some (.ref q), some (.ref x), u5, u6, u7, u8, u9, u10, none, none] ∧ ts.Perm t ∧ Asc ts ∧ G2 T CF d c x q t ts H') (fun D' nxD => ?_) (fun σ4 H4 ⟨x, ts, e4, pts, asc, g4⟩ => ?_)
    · refine ⟨_, rfl, fun x dx nx ndx nxd => ?_⟩
      have sN : Same H3 (upd (upd H3 dx (.own x)) x (.ins CF dx [])) := fun b u e => by
        rw [upd_ne (ne_of_none e nx), upd_ne (ne_of_none e ndx)]
        exact e
      refine ⟨x, q, dx, t, rfl, upd_same, sN _ _ hq3, o.nd, nmt, by have := o.few; omega, fun od due => ?_⟩
      cases tree_noDue o due
      intro H5 ts pts asc fa5 oth
      refine ⟨rfl, ?_⟩
      have s35 : Same H3 H5 := fun b u e => oth b u (ne_of_none e nx) (sN _ _ e)
      exact nxD _ _ ⟨x, ts, rfl, pts, asc, dr3.mono s35, tb3.ext s35, fa5, s35 _ _ hq3⟩
    subst e4
    have ots : TreeOk ts := o.perm pts.symm
    have lts : ts.length ≤ 12 := ots.few
    have poolS : ∀ a ∈ ts.map Prod.fst, a ∈ pool1 ∨ a ∈ pool2 := fun a ha => pool a ((pts.map Prod.fst).mem_iff.mp ha)
    clear dr3 tb3 hq3
    -- the text of the forest
    refine seq_join2 (fun σ' H' => σ' = [some (.ref a), some (.ref d), some (.int (0 + ((jj : Nat) : Int))), some (.ref q), some (.ref x), u5, u6, u7, u8, u9, u10, none, none] ∧ G2 T CF d c x q t ts H') (fun D' nxD => ?_) (fun σ5 H5 ⟨e5, g5⟩ => ?_)
    · obtain ⟨dx, dq, hx, hd⟩ := id g4.fa
      refine ⟨_, rfl, x, dx, _, rfl, hx, x, ts, rfl, g4.fa, ots, fun H6 s6 => ?_⟩
      have g6 := g4.same s6
      refine ⟨⟨_, rfl⟩, _, rfl, ts.length + 1, by omega, q, t, ts, "", rfl, g6.hq, pts, asc, ots, .inl rfl, by rw [path_root]; show 0 + _ = _; omega, by rw [below_len ots]; omega, fun p H7 s7 np hp => ⟨p, rfl, ⟨_, SqL.of hp⟩, fun D nD => ?_⟩⟩
      have g7 := g6.same s7
      refine lc_it walk_list (fun i H' => Same H7 H' ∧ H' D = some (.lst (((textRows ts).take i).map V.str))) ⟨same_new nD, by rw [upd_same, List.take_zero] <;> rfl⟩ (fun i H' _ z => SqL.of (z.1 _ _ hp)) ?_ ?_
      · intro i v Hc Hd hi ⟨q1, q2⟩ ⟨eb, ex⟩
        subst eb
        rw [List.getElem?_map] at ex
        obtain ⟨n, hn, rfl⟩ := Option.map_eq_some_iff.mp ex
        have mn := below_flags ots n (List.mem_of_getElem? hn)
        obtain ⟨pn, hpn⟩ := par_some ots.nd mn
        have hrow : (textRows ts)[i]? = some (rowTx pn n) := by
          unfold textRows
          rw [List.getElem?_map, hn]
          show some (rowAt ts n) = _
          unfold rowAt
          rw [hpn] <;> rfl
        have li : i < (textRows ts).length := (List.getElem?_eq_some_iff.mp hrow).1
        have lt : (textRows ts).length = ts.length := by unfold textRows; rw [List.length_map, below_len ots]
        have gd := g7.same q1
        refine ⟨rfl, _, rfl, _, rfl, q, t, n, pn, rfl, .inl gd.hq, by rw [← par_perm ots.nd pts]; exact hpn, (ots.nm n mn).len.2, par_len ots hpn, _, q2, ?_, Same.put q1 nD, ?_⟩
        · rw [List.length_map, List.length_take]
          omega
        · rw [upd_same, take_more hrow, List.map_append] <;> rfl
      · intro H8 ⟨q1, q2⟩
        have le : ((belowN ts (ts.length + 1) "").map V.str).length = (textRows ts).length := by
          unfold textRows
          rw [List.length_map, List.length_map]
        rw [le, List.take_length] at q2
        refine ⟨"", D, textRows ts, rfl, rfl, .inl (SqL.of q2), ?_, rfl, _, rfl, ?_⟩
        · have := textRows_sum ots
          show _ + _ * 0 ≤ 16777216
          omega
        · rw [decide_eq_true rfl]
          exact iteF (nxD _ _ ⟨rfl, g7.same q1⟩)
    subst e5
    -- the text
    refine seq_join2 (fun σ' H' => ∃ z : Str, σ' = [some (.ref a), some (.ref d), some (.int (0 + ((jj : Nat) : Int))), some (.ref q), some (.ref x), u5, u6, u7, u8, u9, some (.str z), none, none] ∧ z.length ≤ bndF 0 ∧ G2 T CF d c x q t ts H') (fun D' nxD => ?_) (fun σ6 H6 ⟨z0, e6, lz0, g6⟩ => ?_)
    · refine ⟨⟨_, rfl⟩, q, .dK (prs t), g5.hq, trivial, fun od => ⟨_, rfl, q, od, rfl, .inl ⟨prs t, upd_same, fun D nD => ?_⟩⟩⟩
      have Dq : D ≠ q := (ne_of_none upd_same nD).symm
      have lt := o.few
      obtain ⟨R, eR⟩ : ∃ R : List Str, R = t.map fun z => rowTx z.2 z.1 := ⟨_, rfl⟩
      have lR : R.length = t.length := by rw [eR, List.length_map]
      have fz := upd_same (H := H5) (a := q) (o := .frz od (.dK (prs t)))
      refine lc_it walk_keys (fun i H' => Same (upd H5 q (.frz od (.dK (prs t)))) H' ∧ H' D = some (.lst ((R.take i).map V.str))) ⟨same_new nD, by rw [upd_same, List.take_zero] <;> rfl⟩ (fun i H' _ z => z.1 q _ upd_same) ?_ ?_
      · intro i y Hc Hd hi ⟨q1, q2⟩ ⟨eb, kk', vv, hk, ey⟩
        subst eb
        subst ey
        obtain ⟨⟨b, pb⟩, hp, ee⟩ : ∃ z : Str × Str, t[i]? = some z ∧ (kk', vv) = (Sum.inr z.1, V.str z.2) := by
          unfold prs kvT at hk
          rw [List.map_map, List.getElem?_map] at hk
          obtain ⟨z, hz, e⟩ := Option.map_eq_some_iff.mp hk
          exact ⟨z, hz, e.symm⟩
        cases ee
        rw [show kV (Sum.inr b) = V.str b from rfl]
        have mb : b ∈ t.map Prod.fst := List.mem_map.mpr ⟨_, List.mem_of_getElem? hp, rfl⟩
        have ep := par_of o.nd (List.mem_of_getElem? hp)
        have hrow : R[i]? = some (rowTx pb b) := by rw [eR, List.getElem?_map, hp] <;> rfl
        have il := (List.getElem?_eq_some_iff.mp hp).1
        refine ⟨rfl, _, rfl, _, rfl, q, t, b, pb, rfl, .inr ⟨od, q1 _ _ fz⟩, ep, (o.nm b mb).len.2, par_len o ep, _, q2, ?_, Same.put q1 nD, ?_⟩
        · rw [List.length_map, List.length_take]
          omega
        · rw [upd_same, take_more hrow, List.map_append] <;> rfl
      · intro H7 ⟨q1, q2⟩
        rw [prs_len, ← lR, List.take_length] at q2
        have su := unlock_same g5.hq q1
        have rows18 : ∀ z ∈ R, z.length ≤ 18 := fun z hz => by
          rw [eR] at hz
          obtain ⟨⟨b, pb⟩, hp, rfl⟩ := List.mem_map.mp hz
          exact rowTx_len (par_len o (par_of o.nd hp)) (o.nm b (List.mem_map.mpr ⟨_, hp, rfl⟩)).len.2
        have sm := sum_le rows18
        refine ⟨q1 _ _ fz, "", D, R, rfl, rfl, .inl (SqL.of (by rw [upd_ne Dq]; exact q2)), ?_, nxD _ _ ⟨_, rfl, ?_, g5.same su⟩⟩
        · show _ + _ * 0 ≤ 16777216
          omega
        · rw [join_none_len]
          show _ ≤ 216
          omega
    subst e6
    -- changes
    refine seq_join2 (fun σ' H' => ∃ (z : Str) (v5 : Option V), σ' = [some (.ref a), some (.ref d), some (.int (0 + ((jj : Nat) : Int))), some (.ref q), some (.ref x), v5, u6, u7, u8, u9, some (.str z), none, none] ∧ z.length ≤ 19000 ∧ G2 T CF d c x q t ts H') (fun D' nxD => ?_) (fun σ7 H7 ⟨z, v5, e7, lz, g7⟩ => ?_)
    · refine ⟨_, rfl, by show 5 ≤ sizeLine; omega, fun lp nlp => ?_⟩
      obtain ⟨OD, eOD⟩ : ∃ OD, OD = [V.int 0, .int 1, .int 1, .int 2, .int 3] := ⟨_, rfl⟩
      have s7 := same_new (o := .lst [V.int 0, .int 1, .int 1, .int 2, .int 3]) nlp
      have lod := g6.dr.apart nlp
      refine ⟨d, c, _, 5, (fun _ x => ∃ n : Nat, x = .int (n : Int) ∧ n ≤ 3), rfl, g6.dr.mono s7, .inl ⟨lp, _, rfl, lod.1, lod.2, upd_same, rfl, fun i v hv => ?_⟩, by decide, by decide, fun i v H8 pv8 dr8 kp8 => ?_⟩
      · have hm := List.mem_of_getElem? hv
        simp only [List.mem_cons, List.not_mem_nil, or_false] at hm
        rcases hm with rfl | rfl | rfl | rfl | rfl
        · exact ⟨0, rfl, by decide⟩
        · exact ⟨1, rfl, by decide⟩
        · exact ⟨1, rfl, by decide⟩
        · exact ⟨2, rfl, by decide⟩
        · exact ⟨3, rfl, by decide⟩
      obtain ⟨n, rfl, n3⟩ := pv8
      have g8 := (g6.same s7).keep dr8 kp8
      refine ⟨(n : Int), rfl, by omega, by omega, ?_⟩
      have b3 : ∀ j : Nat, j ≤ 3 → bndF j ≤ 19000 := fun j hj => match j, hj with
        | 0, _ => by decide
        | 1, _ => by decide
        | 2, _ => by decide
        | 3, _ => by decide
      have b2 : ∀ j : Nat, j ≤ 2 → bndF j ≤ 4000 := fun j hj => match j, hj with
        | 0, _ => by decide
        | 1, _ => by decide
        | 2, _ => by decide
      refine for_it (walk_range (lo := 0) (n := ((n : Nat) : Int).toNat)) (fun j σ' H' => ∃ (z : Str) (v5 : Option V), σ' = [some (.ref a), some (.ref d), some (.int (0 + ((jj : Nat) : Int))), some (.ref q), some (.ref x), v5, u6, u7, u8, u9, some (.str z), none, none] ∧ z.length ≤ bndF j ∧ G2 T CF d c x q t ts H') ⟨z0, _, rfl, lz0, g8⟩ (fun _ _ _ _ _ => trivial) ?_ ?_
      · intro j y σ' Hc Hd hj ⟨z, v5, e, lz, g9⟩ ⟨ea, eb⟩
        subst e
        subst ea
        subst eb
        have jn : j < n := by
          have : j < ((n : Nat) : Int).toNat := hj
          omega
        refine ⟨_, rfl, _, rfl, d, c, z, rfl, g9.dr, by have := b2 j (by omega); omega, fun y H10 ly dr10 kp10 => ?_⟩
        exact ⟨y, _, rfl, by show _ ≤ 4 * bndF j + 80; omega, g9.keep dr10 kp10⟩
      · intro σ' H9 ⟨z, v5, e, lz, g9⟩
        subst e
        refine nxD _ _ ⟨z, _, rfl, ?_, g9⟩
        have := b3 ((n : Nat) : Int).toNat (by omega)
        omega
    subst e7
    clear lz0
    -- parsed
    refine seq_join2 (fun σ' H' => ∃ (od : TDue) (v6 v7 : V), σ' = [some (.ref a), some (.ref d), some (.int (0 + ((jj : Nat) : Int))), some (.ref q), some (.ref x), v5, some v6, some v7, u8, u9, some (.str z), none, none] ∧ DueT z od ∧ DvF H' v6 od ∧ TdF CF H' v7 od ∧ G2 T CF d c x q t ts H') (fun D' nxD => ?_) (fun σ8 H8 ⟨od, v6, v7, e8, due, dv8, td8, g8⟩ => ?_)
    · refine ⟨_, rfl, z, rfl, by omega, fun od due => parG_of fun v6 H8 s8 dv8 => ?_⟩
      have g8 := g7.same s8
      refine lam_parse eT eI rfl g8.tb lz due (fun v7 H9 e9 tb9 td9 => ⟨_, _, rfl, ?_⟩)
      exact nxD _ _ ⟨od, v6, v7, rfl, due, dv8.ext e9, td9, g8.extN e9 tb9⟩
    subst e8
    clear g7
    -- the same is shown
    refine seq_join2 (fun σ' H' => σ' = [some (.ref a), some (.ref d), some (.int (0 + ((jj : Nat) : Int))), some (.ref q), some (.ref x), v5, some v6, some v7, u8, u9, some (.str z), none, none] ∧ H' = H8) (fun D' nxD => ?_) (fun σ9 H9 ⟨e9, eh9⟩ => ?_)
    · have shown : ∀ (w : Str) (u : V) (da : PyData), ShF K u da → (w.cps.toList.all fun c => decide (c < 16 ^ 8)) = true → w.length ≤ 8 → ∀ p p', v6 = .ref p → H8 p = some (.tup [.str w, u]) → v7 = .ref p' → H8 p' = some (.tup [.str w, u]) → tIfS (tAnd (tB (tCB (rIsi K) (tCons (tVar 6) (tCons (tC (.ty "tuple")) tNil)))) (tTest (tOp rNe (tCB (rReprR K) (tCons (tVar 7) tNil)) (tCB (rReprR K) (tCons (tVar 6) tNil))))) (tRet (tC (.bl false))) tNext D' [some (.ref a), some (.ref d), some (.int (0 + ((jj : Nat) : Int))), some (.ref q), some (.ref x), v5, some v6, some v7, u8, u9, some (.str z), none, none] H8 := fun w u da sh hw lw p p' e6 h6 e7 h7 => by
        subst e6
        subst e7
        obtain ⟨s1, s2, s3, s4⟩ := sh.tup hw lw
        refine ⟨_, rfl, .ref p, _, _, _, true, rfl, .ty _, .base (.tup h6), kit_ty (by decide +kernel), true, rfl, ?_⟩
        refine iteT ?_
        refine ⟨_, rfl, .ref p', tupD w da, rfl, s4 H8 p' h7, s1, s2, s3, _, rfl, .ref p, tupD w da, rfl, s4 H8 p h6, s1, s2, s3, rfl, _, rfl, ?_⟩
        rw [decide_eq_true rfl]
        exact iteF (nxD _ _ ⟨rfl, rfl⟩)
      cases od with
      | line i =>
        obtain ⟨p, e6, h6⟩ := dv8
        obtain ⟨p', e7, h7⟩ := td8
        have li := dueT_line due
        exact shown "text" _ _ (shF_int (by omega)) (by decide) (by decide) p p' e6 h6 e7 h7
      | name u =>
        obtain ⟨p, e6, h6⟩ := dv8
        obtain ⟨p', e7, h7⟩ := td8
        rcases dueT_name due with rfl | ⟨b, rfl, nb⟩
        · exact shown "forest" _ _ shF_non (by decide) (by decide) p p' e6 h6 e7 h7
        · exact shown "forest" _ _ (shF_name nb) (by decide) (by decide) p p' e6 h6 e7 h7
      | tree t' =>
        obtain ⟨p, e6, h6⟩ := dv8
        subst e6
        refine ⟨_, rfl, .ref p, _, _, _, false, rfl, .ty _, .base (.dK h6), kit_ty (by decide +kernel), false, rfl, ?_⟩
        exact iteF (iteF (nxD _ _ ⟨rfl, rfl⟩))
    subst e9
    subst eh9
    -- no tuple
    refine seq_join2 (fun σ' H' => σ' = [some (.ref a), some (.ref d), some (.int (0 + ((jj : Nat) : Int))), some (.ref q), some (.ref x), v5, some v6, some v7, u8, u9, some (.str z), none, none] ∧ H' = H9) (fun D' nxD => ?_) (fun σ10 H10 ⟨e10, eh10⟩ => ?_)
    · cases od with
      | line i =>
        obtain ⟨p, e6, h6⟩ := dv8
        subst e6
        refine ⟨_, rfl, .ref p, _, _, _, false, rfl, .ty _, .base (.tup h6), kit_ty (by decide +kernel), false, rfl, ?_⟩
        exact iteF (iteF (nxD _ _ ⟨rfl, rfl⟩))
      | name u =>
        obtain ⟨p, e6, h6⟩ := dv8
        subst e6
        refine ⟨_, rfl, .ref p, _, _, _, false, rfl, .ty _, .base (.tup h6), kit_ty (by decide +kernel), false, rfl, ?_⟩
        exact iteF (iteF (nxD _ _ ⟨rfl, rfl⟩))
      | tree t' =>
        obtain ⟨p, e6, h6⟩ := dv8
        obtain ⟨y, us, e7, fa, pu, ou⟩ := td8
        subst e6
        subst e7
        obtain ⟨dy, dq, hy, hdq⟩ := id fa
        refine ⟨_, rfl, .ref p, _, _, _, true, rfl, .ty _, .base (.dK h6), kit_ty (by decide +kernel), true, rfl, ?_⟩
        refine iteT ?_
        refine ⟨_, rfl, .ref y, _, _, _, false, rfl, .ty _, .base (.ins hy L.O.cl L.SF.ha L.SF.hn L.SF.ht L.SF.hm), L.kt, false, rfl, ?_⟩
        exact iteF (nxD _ _ ⟨rfl, rfl⟩)
    subst e10
    subst eh10
    -- the forest
    refine seq_join2 (fun σ' H' => σ' = [some (.ref a), some (.ref d), some (.int (0 + ((jj : Nat) : Int))), some (.ref q), some (.ref x), v5, some v6, some v7, u8, u9, some (.str z), none, none] ∧ G2 T CF d c x q t ts H') (fun D' nxD => ?_) (fun σ11 H11 ⟨e11, g11⟩ => ?_)
    · cases od with
      | line i =>
        obtain ⟨p, e6, h6⟩ := dv8
        subst e6
        refine ⟨_, rfl, .ref p, _, _, _, false, rfl, .ty _, .base (.tup h6), kit_ty (by decide +kernel), false, rfl, ?_⟩
        exact iteF (iteF (nxD _ _ ⟨rfl, g8⟩))
      | name u =>
        obtain ⟨p, e6, h6⟩ := dv8
        subst e6
        refine ⟨_, rfl, .ref p, _, _, _, false, rfl, .ty _, .base (.tup h6), kit_ty (by decide +kernel), false, rfl, ?_⟩
        exact iteF (iteF (nxD _ _ ⟨rfl, g8⟩))
      | tree t' =>
        obtain ⟨p, e6, h6⟩ := dv8
        obtain ⟨y, us, e7, fa, pu, ou⟩ := td8
        subst e6
        subst e7
        obtain ⟨dy, dq, hy, hdq⟩ := id fa
        obtain ⟨pt', due', ot'⟩ := dueT_tree due
        refine ⟨_, rfl, .ref p, _, _, _, true, rfl, .ty _, .base (.dK h6), kit_ty (by decide +kernel), true, rfl, ?_⟩
        refine iteT ?_
        refine ⟨_, rfl, y, dy, _, rfl, hy, y, us, rfl, fa, fun p2 n2 => ?_⟩
        have s2 := same_new (o := .dK (prs us)) n2
        refine ⟨_, rfl, p2, p, prs us, prs t', rfl, rfl, upd_same, s2 _ _ h6, prs_flat us, prs_flat t', _, rfl, ?_⟩
        rw [(dkIff ou.nd pt'.nd).mpr pu]
        refine iteF ?_
        refine ⟨_, rfl, _, rfl, fun x2 dx2 nx2 ndx2 nxd2 => ?_⟩
        have sN : Same (upd H10 p2 (.dK (prs us))) (upd (upd (upd H10 p2 (.dK (prs us))) dx2 (.own x2)) x2 (.ins CF dx2 [])) := fun b u e => by
          rw [upd_ne (ne_of_none e nx2), upd_ne (ne_of_none e ndx2)]
          exact e
        refine ⟨x2, p, dx2, t', rfl, upd_same, sN _ _ (s2 _ _ h6), pt'.nd, pt'.nm, by have := ot'.few; omega, fun od2 due2 => ?_⟩
        cases tree_noDue ot' due2
        intro H5 us2 pu2 asc2 fa2 oth
        refine ⟨rfl, ?_⟩
        have s5 : Same H10 H5 := fun b u e => oth b u (ne_of_none (s2 _ _ e) nx2) (sN _ _ (s2 _ _ e))
        obtain ⟨dy2, dq2, hy2, hdq2⟩ := id fa2
        refine ⟨y, dy, _, true, rfl, s5 _ _ hy, ⟨x2, rfl, .inl ⟨_, _, hy2⟩⟩, ⟨x2, rfl, us, us2, fa.mono s5, fa2, ?_⟩, fun H6 s6 => ⟨_, rfl, ?_⟩⟩
        · have nd2 : (us2.map Prod.fst).Nodup := (pu2.map Prod.fst).nodup_iff.mpr pt'.nd
          exact ((dkIff ou.nd nd2).mpr (pu.trans pu2.symm)).symm
        · exact iteF (nxD _ _ ⟨rfl, (g8.same s5).same s6⟩)
    subst e11
    clear dv8 td8 g8
    -- thirteen flags
    refine seq_join2 (fun σ' H' => σ' = [some (.ref a), some (.ref d), some (.int (0 + ((jj : Nat) : Int))), some (.ref q), some (.ref x), v5, some v6, some v7, some (.str (Txt.join "" rowsM)), u9, some (.str z), none, none] ∧ G2 T CF d c x q t ts H') (fun D' nxD => ?_) (fun σ12 H12 ⟨e12, g12⟩ => ?_)
    · refine ⟨⟨_, rfl⟩, _, rfl, fun D nD => ?_⟩
      refine lc_it walk_str (fun i H' => Same H11 H' ∧ H' D = some (.lst ((rowsM.take i).map V.str))) ⟨same_new nD, by rw [upd_same, List.take_zero] <;> rfl⟩ (fun _ _ _ _ => trivial) ?_ ?_
      · intro i xx Hc Hd hi ⟨q1, q2⟩ ⟨e, ch, hc, ex⟩
        subst e
        subst ex
        have hrow : rowsM[i]? = some ((("x" : Str) ++ ⟨#[ch]⟩) ++ " -\n") := by
          unfold rowsM
          rw [List.getElem?_map]
          have hc' : (tl "abcdefghijklm")[i]? = some ch := by
            show (Str.ofString "abcdefghijklm").cps.toList[i]? = some ch
            rw [Array.getElem?_toList]
            exact hc
          rw [hc'] <;> rfl
        have li := (List.getElem?_eq_some_iff.mp hrow).1
        have lM : rowsM.length = 13 := by decide +kernel
        refine ⟨rfl, _, rfl, _, _, rfl, rfl, by show 1 + 1 ≤ sizeLine; omega, _, _, rfl, rfl, by rw [Str.length_append]; show 1 + 1 + 3 ≤ sizeLine; omega, _, q2, ?_, Same.put q1 nD, ?_⟩
        · rw [List.length_map, List.length_take]
          omega
        · rw [upd_same, take_more hrow, List.map_append] <;> rfl
      · intro H13 ⟨q1, q2⟩
        have lM : (Str.ofString "abcdefghijklm").cps.size = rowsM.length := by decide +kernel
        rw [lM, List.take_length] at q2
        have ml := many_len
        rw [join_none_len] at ml
        refine ⟨"", D, rowsM, rfl, rfl, .inl (SqL.of q2), by show _ + _ * 0 ≤ 16777216; omega, nxD _ _ ⟨rfl, g11.same q1⟩⟩
    subst e12
    refine seq_join2 (fun σ' H' => σ' = [some (.ref a), some (.ref d), some (.int (0 + ((jj : Nat) : Int))), some (.ref q), some (.ref x), v5, some v6, some v7, some (.str (Txt.join "" rowsM)), u9, some (.str z), none, none] ∧ G2 T CF d c x q t ts H') (fun D' nxD => ?_) (fun σ13 H13 ⟨e13, g13⟩ => ?_)
    · refine lam_parse eT eI rfl g12.tb (by have := many_len; omega) many_due (fun v H14 e14 tb14 td => ?_)
      obtain ⟨p, rfl, hp⟩ := td
      refine ⟨by show 2 ≤ sizeLine; omega, fun p2 n2 => ?_⟩
      have s2 := same_new (o := .tup [V.str "forest", .non]) n2
      refine ⟨.tuple [.str "forest", .none], .tuple [.str "forest", .none], .tup (.inl (.inl (s2 _ _ hp))) (.cons (.str _) (.cons .non .nil)), .tup (.inl (.inl upd_same)) (.cons (.str _) (.cons .non .nil)), by decide +kernel, by decide +kernel, _, rfl, ?_⟩
      rw [show PyData.eqv (.tuple [.str "forest", .none]) (.tuple [.str "forest", .none]) = true by decide +kernel]
      exact iteF (nxD _ _ ⟨rfl, (g12.extN e14 tb14).same s2⟩)
    subst e13
    -- values that are no texts
    refine seq_join2 (fun σ' H' => ∃ v9, σ' = [some (.ref a), some (.ref d), some (.int (0 + ((jj : Nat) : Int))), some (.ref q), some (.ref x), v5, some v6, some v7, some (.str (Txt.join "" rowsM)), some v9, some (.str z), none, none] ∧ OnF d c H' v9 ∧ G2 T CF d c x q t ts H') (fun D' nxD => ?_) (fun σ14 H14 ⟨v9, e14, on14, g14⟩ => ?_)
    · refine ⟨_, rfl, by show 1 ≤ sizeLine; omega, fun p1 m1 => fun D nD => ⟨by show 1 ≤ sizeLine; omega, fun p2 m2 => ⟨_, rfl, by show 1 ≤ sizeLine; omega, fun p3 m3 => ⟨by show 7 ≤ sizeLine; omega, fun p4 m4 => ?_⟩⟩⟩⟩
      have t1 := same_new (o := .lst [V.str "a"]) m1
      have t2 := same_new (o := .dK ([] : List (Key × V))) nD
      have t3 := same_new (o := .tup [V.str "a"]) m2
      have t4 := same_new (o := .lst [V.str z]) m3
      have t5 := same_new (o := .lst [.non, .int 5, .bl true, .ref p1, .ref D, .ref p2, .ref p3]) m4
      have a1 := g13.dr.apart m1
      have gA := g13.same t1
      have a2 := gA.dr.apart nD
      have gB := gA.same t2
      have a3 := gB.dr.apart m2
      have gC := gB.same t3
      have a4 := gC.dr.apart m3
      have gD := gC.same t4
      have a5 := gD.dr.apart m4
      have gE := gD.same t5
      refine ⟨d, c, .ref p4, 7, (fun _ v => OnF d c (upd (upd (upd (upd (upd H13 p1 (.lst [V.str "a"])) D (.dK [])) p2 (.tup [V.str "a"])) p3 (.lst [V.str z])) p4 (.lst [.non, .int 5, .bl true, .ref p1, .ref D, .ref p2, .ref p3])) v), rfl, gE.dr, .inl ⟨p4, _, rfl, a5.1, a5.2, upd_same, rfl, fun i v hv => ?_⟩, by decide, by decide, fun i v H15 px dr15 k15 => ?_⟩
      · have mm := List.mem_of_getElem? hv
        simp only [List.mem_cons, List.not_mem_nil, or_false] at mm
        rcases mm with rfl | rfl | rfl | rfl | rfl | rfl | rfl
        · exact .inl rfl
        · exact .inr (.inl rfl)
        · exact .inr (.inr (.inl rfl))
        · exact .inr (.inr (.inr ⟨p1, _, rfl, a1.1, a1.2, t5 _ _ (t4 _ _ (t3 _ _ (t2 _ _ upd_same))), .inl ⟨_, rfl⟩⟩))
        · exact .inr (.inr (.inr ⟨D, _, rfl, a2.1, a2.2, t5 _ _ (t4 _ _ (t3 _ _ upd_same)), .inr (.inl rfl)⟩))
        · exact .inr (.inr (.inr ⟨p2, _, rfl, a3.1, a3.2, t5 _ _ (t4 _ _ upd_same), .inr (.inr ⟨_, rfl⟩)⟩))
        · exact .inr (.inr (.inr ⟨p3, _, rfl, a4.1, a4.2, t5 _ _ upd_same, .inl ⟨_, rfl⟩⟩))
      exact nxD _ _ ⟨v, rfl, px.keep k15, gE.keep dr15 k15⟩
    subst e14
    refine seq_join2 (fun σ' H' => σ' = [some (.ref a), some (.ref d), some (.int (0 + ((jj : Nat) : Int))), some (.ref q), some (.ref x), v5, some v6, some v7, some (.str (Txt.join "" rowsM)), some v9, some (.str z), none, none] ∧ G2 T CF d c x q t ts H') (fun D' nxD => ?_) (fun σ15 H15 ⟨e15, g15⟩ => ?_)
    · have sh0 : ShF K (.int 0) (.int 0) := shF_int (i := 0) (by decide)
      obtain ⟨s1, s2, s3, s4⟩ := sh0.tup (w := "text") (by decide) (by decide)
      refine lam_noTx eT rfl g14.tb (fun H' e => (on14.ext e).no) (fun p H16 e16 tb16 hp => ?_)
      refine ⟨.ref p, tupD "text" (.int 0), rfl, s4 H16 p hp, s1, s2, s3, by show 2 ≤ sizeLine; omega, fun p2 n2 => ?_⟩
      have t2 := same_new (o := .tup [V.str "text", .int 0]) n2
      refine ⟨.ref p2, tupD "text" (.int 0), rfl, s4 _ p2 upd_same, s1, s2, s3, rfl, _, rfl, ?_⟩
      rw [decide_eq_true rfl]
      exact iteF (nxD _ _ ⟨rfl, (g14.extN e16 tb16).same t2⟩)
    subst e15
    clear on14 g14
    -- values that are no places
    refine seq_join2 (fun σ' H' => ∃ v9 da, σ' = [some (.ref a), some (.ref d), some (.int (0 + ((jj : Nat) : Int))), some (.ref q), some (.ref x), v5, some v6, some v7, some (.str (Txt.join "" rowsM)), some v9, some (.str z), none, none] ∧ OdF d c H' v9 da ∧ G2 T CF d c x q t ts H') (fun D' nxD => ?_) (fun σ16 H16 ⟨v9, da, e16, od16, g16⟩ => ?_)
    · refine ⟨_, rfl, by show 0 ≤ sizeLine; omega, fun p1 m1 => fun D nD => ⟨by show 1 ≤ sizeLine; omega, fun p2 m2 => ⟨by show 1 ≤ sizeLine; omega, fun p3 m3 => ⟨by show 10 ≤ sizeLine; omega, fun p4 m4 => ?_⟩⟩⟩⟩
      have t1 := same_new (o := .lst ([] : List V)) m1
      have t2 := same_new (o := .dK ([] : List (Key × V))) nD
      have t3 := same_new (o := .tup [V.str ""]) m2
      have t4 := same_new (o := .lst [V.str ""]) m3
      have t5 := same_new (o := .lst [.non, .str "nobody", .str "-", .int 0, .bl true, .ref p1, .ref D, .ref p2, .ref p3, .str "A"]) m4
      have a1 := g15.dr.apart m1
      have gA := g15.same t1
      have a2 := gA.dr.apart nD
      have gB := gA.same t2
      have a3 := gB.dr.apart m2
      have gC := gB.same t3
      have a4 := gC.dr.apart m3
      have gD := gC.same t4
      have a5 := gD.dr.apart m4
      have gE := gD.same t5
      refine ⟨d, c, .ref p4, 10, (fun _ v => ∃ da, OdF d c (upd (upd (upd (upd (upd H15 p1 (.lst [])) D (.dK [])) p2 (.tup [V.str ""])) p3 (.lst [V.str ""])) p4 (.lst [.non, .str "nobody", .str "-", .int 0, .bl true, .ref p1, .ref D, .ref p2, .ref p3, .str "A"])) v da), rfl, gE.dr, .inl ⟨p4, _, rfl, a5.1, a5.2, upd_same, rfl, fun i v hv => ?_⟩, by decide, by decide, fun i v H17 px dr17 k17 => ?_⟩
      · have mm := List.mem_of_getElem? hv
        simp only [List.mem_cons, List.not_mem_nil, or_false] at mm
        rcases mm with rfl | rfl | rfl | rfl | rfl | rfl | rfl | rfl | rfl | rfl
        · exact ⟨.none, .inl (by unfold smF; simp)⟩
        · exact ⟨.str "nobody", .inl (by unfold smF; simp)⟩
        · exact ⟨.str "-", .inl (by unfold smF; simp)⟩
        · exact ⟨.int 0, .inl (by unfold smF; simp)⟩
        · exact ⟨.bool true, .inl (by unfold smF; simp)⟩
        · exact ⟨.list [], .inr ⟨p1, _, rfl, a1.1, a1.2, by unfold bgF; exact List.mem_cons_self .., t5 _ _ (t4 _ _ (t3 _ _ (t2 _ _ upd_same)))⟩⟩
        · exact ⟨.dict [], .inr ⟨D, _, rfl, a2.1, a2.2, by unfold bgF; exact List.mem_cons_of_mem _ (List.mem_cons_self ..), t5 _ _ (t4 _ _ (t3 _ _ upd_same))⟩⟩
        · exact ⟨.tuple [.str ""], .inr ⟨p2, _, rfl, a3.1, a3.2, by unfold bgF; exact List.mem_cons_of_mem _ (List.mem_cons_of_mem _ (List.mem_cons_self ..)), t5 _ _ (t4 _ _ upd_same)⟩⟩
        · exact ⟨.list [.str ""], .inr ⟨p3, _, rfl, a4.1, a4.2, by unfold bgF; exact List.mem_cons_of_mem _ (List.mem_cons_of_mem _ (List.mem_cons_of_mem _ (List.mem_cons_self ..))), t5 _ _ upd_same⟩⟩
        · exact ⟨.str "A", .inl (by unfold smF; simp)⟩
      obtain ⟨da, px⟩ := px
      exact nxD _ _ ⟨v, da, rfl, px.keep k17, gE.keep dr17 k17⟩
    subst e16
    refine ⟨_, rfl, _, rfl, d, c, x, ts, v9, da, rfl, ⟨g16.tb, ExtN.of Same.refl, g16.fa, od16⟩, ots, poolS, fun H17 tb17 e17 => ⟨_, rfl, ?_⟩⟩
    exact iteF ⟨⟨_, _, _, _, _, _, _, _, _, rfl⟩, g16.dr.ext e17, tb17⟩
end
end FT


/-! what the module's top says of classes, of defs: the form that the row's end asks for. -/
namespace FT
open PySem L2 TL ClX
abbrev exTail : List Value := [.type "ValueError", .type "Exception", .type "BaseException", .type "object"]
/-- an own class at C, its chain behind it -/
def ClsAt (K : PySem.W.Frag) (C : Addr) (bm : List Value) : Prop := ∃ nm q N bs sn sub ab col dd k0 k1 k2 k3 k5, K.lookup C = some (excClassObj nm q C N bs bm true sn sub ab col dd k0 k1 k2 k3 k5 "ValueError.__new__")
section
variable {K : PySem.W.Frag} {C : Addr} {bm : List Value}
theorem ClsAt.cls (h : ClsAt K C bm) : ∃ cd : ClassData, PySem.W.clsIn K C = some cd ∧ cd.mro = .ref C :: bm ∧ cd.hasDict = true := by
  obtain ⟨nm, q, N, bs, sn, sub, ab, col, dd, k0, k1, k2, k3, k5, e⟩ := h
  refine ⟨{ name := nm, bases := bs, mro := .ref C :: bm, ns := N, qualname := q, hasDict := true, slotNames := sn, subclasses := sub, abstract := ab, collection := col }, ?_, rfl, rfl⟩
  unfold PySem.W.clsIn
  rw [e]
theorem ClsAt.ty (h : ClsAt K C bm) : PySem.W.typeIn K (.ref C) = some (.type "type") := by
  obtain ⟨nm, q, N, bs, sn, sub, ab, col, dd, k0, k1, k2, k3, k5, e⟩ := h
  show (K.lookup C).map (·.cls) = _
  rw [e] <;> rfl
theorem ClsAt.mroIs (h : ClsAt K C bm) (b : Value) : PySem.W.mroIn K C b = some ((Value.ref C :: bm).contains b) := by
  obtain ⟨cd, e1, e2, _⟩ := h.cls
  unfold PySem.W.mroIn
  rw [e1]
  show (if cd.mro.isEmpty then none else some (cd.mro.contains b)) = _
  rw [e2] <;> rfl
theorem ClsAt.sub (h : ClsAt K C bm) (b : Value) : PySem.W.subIn K (.ref C) b = some ((Value.ref C :: bm).contains b) := h.mroIs b
theorem ClsAt.hd (h : ClsAt K C bm) : PySem.W.hasDictIn K C = true := by
  obtain ⟨cd, e1, _, e3⟩ := h.cls
  show (PySem.W.clsIn K C).any (·.hasDict) = true
  rw [e1]
  exact e3
theorem ClsAt.isC (h : ClsAt K C bm) : (PySem.W.clsIn K C).isSome = true := by
  obtain ⟨cd, e1, _⟩ := h.cls
  rw [e1] <;> rfl
/-- isinstance of the class at C against the class at D -/
theorem ClsAt.kit {D : Addr} {bn : List Value} (h : ClsAt K C bm) (g : ClsAt K D bn) : PySem.W.kitOne K (.ref C) (.ref D) = some ((Value.ref C :: bm).contains (.ref D)) := by
  unfold PySem.W.kitOne
  by_cases e : (Value.ref C == Value.ref D) = true
  · rw [if_pos e, beq_iff_eq.mp e, List.contains_cons, beq_self_eq_true] <;> rfl
  · rw [if_neg e]
    have e2 : ((PySem.W.clsIn K D).isSome && PySem.W.typeIn K (.ref D) == some (.type "type")) = true := by rw [g.isC, g.ty] <;> rfl
    show (if _ then PySem.W.subIn K (.ref C) (.ref D) else none) = _
    rw [if_pos e2, h.sub]
theorem ClsAt.exm {D : Addr} {bn : List Value} (h : ClsAt K C bm) (g : ClsAt K D bn) (eD : (Value.ref D :: bn).contains (.type "BaseException") = true) : PySem.W.exmOne K (.ref C) (.ref D) = some ((Value.ref C :: bm).contains (.ref D)) :=
  PySem.W.exm_ref (by rw [g.sub, eD]) g.hd g.ty (h.sub _)
end
/-- what the top says of one error class -/
structure ClsF (K : PySem.W.Frag) (nm f : Str) (C I R : Addr) : Prop where
  nsn : PySem.W.nsIn K mainGlobals nm = some (some (.ref C))
  at_ : ClsAt K C (.ref R :: exTail)
  sa : PySem.W.findIn K (.ref C) "__setattr__" = some (some (.builtin "object.__setattr__"))
  ga : PySem.W.findIn K (.ref C) "__getattribute__" = some (some (.builtin "BaseException.__getattribute__"))
  gg : PySem.W.findIn K (.ref C) "__getattr__" = some none
  ha : PySem.W.findIn K (.ref C) "__class__" = some (some (.builtin "object.__class__"))
  kC : PySem.W.keepIn K (.ref C) = true
  no : PySem.W.findIn K (.ref C) f = some none
  ini : PySem.W.findIn K (.ref C) "__init__" = some (some (.ref I))
  ity : PySem.W.typeIn K (.ref I) = some (.type "function")
/-- and of what they share -/
structure RootF (K : PySem.W.Frag) (R : Addr) : Prop where
  nsn : PySem.W.nsIn K mainGlobals "RolloutError" = some (some (.ref R))
  at_ : ClsAt K R exTail
  rd : PySem.W.readsIn K R (.type "type") = true
  ga : PySem.W.specialIn K (.ref R) "__getattribute__" = some (some (.builtin "type.__getattribute__"))
  ini : PySem.W.findCls K (.ref R) (.type "type") "__init__" = some (.val (.builtin "ValueError.__init__"))
  hn : PySem.W.specialIn K (.builtin "object.__class__") "__get__" = some (some (.builtin "getset_descriptor.__get__"))
  ht : PySem.W.takesIn K (.builtin "object.__class__") = some true
theorem ClsF.x {K : PySem.W.Frag} {nm f : Str} {C I R : Addr} (c : ClsF K nm f C I R) (r : RootF K R) : XCls K C where
  cls := by
    obtain ⟨nm, q, N, bs, sn, sub, ab, col, dd, k0, k1, k2, k3, k5, e⟩ := c.at_
    exact ⟨nm, q, N, bs, _, sn, sub, ab, col, dd, k0, k1, k2, k3, k5, e, rfl⟩
  sa := c.sa
  exC := by rw [c.at_.sub] <;> rfl
  tyC := c.at_.ty
  kC := c.kC
  ga := c.ga
  gg := c.gg
  hdC := c.at_.hd
  ha := c.ha
  hn := r.hn
  ht := r.ht
  hm := by rw [c.at_.mroIs] <;> rfl
theorem has_cls {C R D : Addr} {b : Bool} (h : decide (C = D) = b) (n : R ≠ D) : (Value.ref C :: Value.ref R :: exTail).contains (.ref D) = b := by
  subst h
  by_cases e : C = D
  · subst e
    rw [List.contains_cons, beq_self_eq_true, decide_eq_true rfl] <;> rfl
  · have e1 : (Value.ref D == Value.ref C) = false := beq_eq_false_iff_ne.mpr fun z => e (Value.ref.inj z).symm
    have e2 : (Value.ref D == Value.ref R) = false := beq_eq_false_iff_ne.mpr fun z => n (Value.ref.inj z).symm
    rw [decide_eq_false e, List.contains_cons, e1, List.contains_cons, e2] <;> rfl
theorem has_root {C R : Addr} : (Value.ref C :: Value.ref R :: exTail).contains (.ref R) = true := by
  rw [List.contains_cons, List.contains_cons, beq_self_eq_true, Bool.true_or, Bool.or_true]
theorem kit_bt {K : PySem.W.Frag} {C R : Addr} (c : ClsAt K C (.ref R :: exTail)) : PySem.W.kitOne K (.ref C) (.type "ValueError") = some true := by
  unfold PySem.W.kitOne
  rw [if_neg (show ¬ (Value.ref C == Value.type "ValueError") = true from fun z => nomatch (show false = true from z))]
  have e2 : PySem.W.kitMeta "ValueError" = true := by decide +kernel
  show (if PySem.W.kitMeta "ValueError" = true then PySem.W.subIn K (.ref C) (.type "ValueError") else none) = _
  rw [if_pos e2, c.sub] <;> rfl
/-- what the top says of a class with a constant MOST -/
structure ClsK (K : PySem.W.Frag) (nm : Str) (C : Addr) (n : Int) (t : Nat) : Prop where
  nsn : PySem.W.nsIn K mainGlobals nm = some (some (.ref C))
  rd : PySem.W.readsIn K C (.type "type") = true
  ga : PySem.W.specialIn K (.ref C) "__getattribute__" = some (some (.builtin "type.__getattribute__"))
  most : PySem.W.findCls K (.ref C) (.type "type") "MOST" = some (.val (.int n t))
  pg : PySem.W.plainGet K C Str.empty = true
  hd : PySem.W.hasDictIn K C = true
  po : PySem.W.plainOver K C = true
  sa : PySem.W.findIn K (.ref C) "__setattr__" = some (some (.builtin "object.__setattr__"))
  mks : PySem.W.makesIn K C = true
  kp : PySem.W.keepIn K (.ref C) = true
  ha : PySem.W.findIn K (.ref C) "__class__" = some (some (.builtin "object.__class__"))
  hn : PySem.W.specialIn K (.builtin "object.__class__") "__get__" = some (some (.builtin "getset_descriptor.__get__"))
  ht : PySem.W.takesIn K (.builtin "object.__class__") = some true
  hm : PySem.W.mroIn K C (.type "object") = some true
/-- a method -/
structure MetK (K : PySem.W.Frag) (C : Addr) (m : Str) (f : Addr) : Prop where
  at_ : PySem.W.findIn K (.ref C) m = some (some (.ref f))
  fn : PySem.W.isFn K (.ref f) = true
/-- a property -/
structure PrK (K : PySem.W.Frag) (C : Addr) (m : Str) (p g : Addr) (rest : List Value) : Prop where
  at_ : PySem.W.findIn K (.ref C) m = some (some (.ref p))
  get : PySem.W.specialIn K (.ref p) "__get__" = some (some (.builtin "property.__get__"))
  tak : PySem.W.takesIn K (.ref p) = some true
  rec_ : PySem.W.recIn K p "property" = some (.ref g :: rest)
theorem ClsF.er {K : PySem.W.Frag} {h : Heap} {mg : Str → Option Value} {nm f : Str} {C I R : Addr} (X : K.In h) (G : h.Ns mainGlobals mg) (c : ClsF K nm f C I R) (r : RootF K R) : Er K mg nm f C I :=
  ⟨PySem.W.mg_of X G c.nsn, c.x r, c.ini, c.ity, c.no⟩
theorem RootF.rt {K : PySem.W.Frag} {h : Heap} {mg : Str → Option Value} {R : Addr} (X : K.In h) (G : h.Ns mainGlobals mg) (r : RootF K R) : Rt K mg R := ⟨PySem.W.mg_of X G r.nsn, ⟨r.rd, r.ga, r.ini⟩⟩
theorem ClsK.fc {K : PySem.W.Frag} {h : Heap} {mg : Str → Option Value} {CF : Addr} {t t2 : Nat} (X : K.In h) (G : h.Ns mainGlobals mg) (k : ClsK K "Forest" CF 12 t) (root : PySem.W.findCls K (.ref CF) (.type "type") "ROOT" = some (.val (.str "" t2))) : Fc K mg CF (.type "type") :=
  ⟨PySem.W.mg_of X G k.nsn, ⟨k.rd, k.ga⟩, ⟨_, k.most, ⟨_, rfl⟩⟩, ⟨_, root, ⟨_, rfl⟩⟩⟩
theorem ClsK.cls {K : PySem.W.Frag} {nm : Str} {C : Addr} {n : Int} {t : Nat} (k : ClsK K nm C n t) : Cls K C := ⟨k.pg, k.hd, k.po, k.sa⟩
/-- a def with its code object and the table of that -/
structure TabK (K : PySem.W.Frag) (x : Str) (c P : Addr) : Prop where
  at_ : PySem.W.tabIn K x = some (c, P)
  no : K.lookup P = none
end FT


/-! a list is no instance of an own class, an own instance is no tuple -/
namespace FT
open PySem L2 TL ClX LamX NdefX
theorem kit_tup {K : PySem.W.Frag} {C : Addr} (h : PySem.W.mroIn K C (.type "tuple") = some false) : PySem.W.kitOne K (.ref C) (.type "tuple") = some false := by
  unfold PySem.W.kitOne
  rw [if_neg (show ¬ (Value.ref C == Value.type "tuple") = true from fun z => nomatch (show false = true from z))]
  have e2 : PySem.W.kitMeta "tuple" = true := by decide +kernel
  show (if PySem.W.kitMeta "tuple" = true then PySem.W.subIn K (.ref C) (.type "tuple") else none) = _
  rw [if_pos e2] <;> exact h
end FT


/-! what the top says of a class without a constant, of a static method -/
namespace FT
open PySem L2 TL ClX
structure ClsN (K : PySem.W.Frag) (nm : Str) (C : Addr) : Prop where
  nsn : PySem.W.nsIn K mainGlobals nm = some (some (.ref C))
  rd : PySem.W.readsIn K C (.type "type") = true
  ga : PySem.W.specialIn K (.ref C) "__getattribute__" = some (some (.builtin "type.__getattribute__"))
  pg : PySem.W.plainGet K C Str.empty = true
  hd : PySem.W.hasDictIn K C = true
  po : PySem.W.plainOver K C = true
  sa : PySem.W.findIn K (.ref C) "__setattr__" = some (some (.builtin "object.__setattr__"))
  mks : PySem.W.makesIn K C = true
  kp : PySem.W.keepIn K (.ref C) = true
theorem ClsN.cls {K : PySem.W.Frag} {nm : Str} {C : Addr} (k : ClsN K nm C) : Cls K C := ⟨k.pg, k.hd, k.po, k.sa⟩
/-- a static method -/
structure StK (K : PySem.W.Frag) (C : Addr) (m : Str) (p f : Addr) (rest : List Value) : Prop where
  at_ : PySem.W.findCls K (.ref C) (.type "type") m = some (.get (.builtin "staticmethod.__get__") (.ref p) .none (.ref C))
  rec_ : PySem.W.recIn K p "staticmethod" = some (.ref f :: rest)
theorem StK.sm {K : PySem.W.Frag} {C p f : Addr} {m : Str} {rest : List Value} (s : StK K C m p f rest) : SMet K C (.type "type") m p f := ⟨s.at_, _, s.rec_⟩
end FT


namespace FT
open PySem PySem.Spec PyProof.Rows L2 TL ClX LamX NdefX
section
variable {q : Program} {l : PySem.W.OpenLaw} {w : World} {K : PySem.W.Frag} {h : Heap} {mg : Str → Option Value} {fa : Addr}
theorem all_mk {f_bgA f_dtA f_dpA f_doA f_nmP f_paP f_isW f_iaR f_ndR f_fiR f_wk f_tx f_fpN f_prs f_npE f_kc f_kp f_ku f_kd f_lrw f_lbl f_lnm f_lir f_ldu f_lbt f_lpd f_tl f_feB f_uk f_law p_tx p_fpN p_prs C_InvalidText C_InvalidForest C_UnknownName C_InvalidSizes I_InvalidText I_InvalidForest I_UnknownName I_InvalidSizes R c_uk c_law t_uk t_law CF : Addr} {d_bgA d_dtA d_dpA d_doA d_nmP d_paP d_isW d_iaR d_ndR d_fiR d_wk d_tx d_fpN d_prs d_npE d_kc d_kp d_ku d_kd d_lrw d_lbl d_lnm d_lir d_ldu d_lbt d_lpd d_tl d_feB d_uk d_law D_InvalidText D_InvalidForest D_UnknownName D_InvalidSizes : FuncData} {tL tT tR tCF : Nat} {r_tx r_fpN r_prs : List Value} (X : K.In h) (G : h.Ns mainGlobals mg) (hfa : mg "law" = some (.ref fa)) (TO : TabsOf q K h)
    (kCF : ClsK K "Forest" CF 12 tCF)
    (noCF_above : PySem.W.findIn K (.ref CF) "above" = some none)
    (xF_mt : PySem.W.mroIn K CF (.type "tuple") = some false)
    (root : PySem.W.findCls K (.ref CF) (.type "type") "ROOT" = some (.val (.str "" tR)))
    (cL : PySem.W.nsIn K mainGlobals "LONGEST" = some (some (.int 8 tL)))
    (cT : PySem.W.nsIn K mainGlobals "LETTERS" = some (some (.str letters tT)))
    (n_bgA : PySem.W.nsIn K mainGlobals "_law_begin" = some (some (.ref f_bgA)))
    (u_bgA : L2.Fun K "_law_begin" "_law_begin" s__law_begin f_bgA d_bgA)
    (n_dtA : PySem.W.nsIn K mainGlobals "_law_take" = some (some (.ref f_dtA)))
    (u_dtA : L2.Fun K "_law_take" "_law_take" s__law_take f_dtA d_dtA)
    (n_dpA : PySem.W.nsIn K mainGlobals "_law_pick" = some (some (.ref f_dpA)))
    (u_dpA : L2.Fun K "_law_pick" "_law_pick" s__law_pick f_dpA d_dpA)
    (n_doA : PySem.W.nsIn K mainGlobals "_law_order" = some (some (.ref f_doA)))
    (u_doA : L2.Fun K "_law_order" "_law_order" s__law_order f_doA d_doA)
    (n_nmP : PySem.W.nsIn K mainGlobals "_law_names" = some (some (.ref f_nmP)))
    (u_nmP : L2.Fun K "_law_names" "_law_names" s__law_names f_nmP d_nmP)
    (n_paP : PySem.W.nsIn K mainGlobals "_law_parents" = some (some (.ref f_paP)))
    (u_paP : L2.Fun K "_law_parents" "_law_parents" s__law_parents f_paP d_paP)
    (n_isW : PySem.W.nsIn K mainGlobals "is_name" = some (some (.ref f_isW)))
    (u_isW : L2.Fun K "is_name" "is_name" s_is_name f_isW d_isW)
    (n_iaR : PySem.W.nsIn K mainGlobals "is_ancestor" = some (some (.ref f_iaR)))
    (u_iaR : L2.Fun K "is_ancestor" "is_ancestor" s_is_ancestor f_iaR d_iaR)
    (n_ndR : PySem.W.nsIn K mainGlobals "need_parents" = some (some (.ref f_ndR)))
    (u_ndR : L2.Fun K "need_parents" "need_parents" s_need_parents f_ndR d_ndR)
    (n_wk : PySem.W.nsIn K mainGlobals "walked" = some (some (.ref f_wk)))
    (u_wk : L2.Fun K "walked" "walked" s_walked f_wk d_wk)
    (n_npE : PySem.W.nsIn K mainGlobals "need_place" = some (some (.ref f_npE)))
    (u_npE : L2.Fun K "need_place" "need_place" s_need_place f_npE d_npE)
    (n_lrw : PySem.W.nsIn K mainGlobals "_law_row" = some (some (.ref f_lrw)))
    (u_lrw : L2.Fun K "_law_row" "_law_row" s__law_row f_lrw d_lrw)
    (n_lbl : PySem.W.nsIn K mainGlobals "_law_below" = some (some (.ref f_lbl)))
    (u_lbl : L2.Fun K "_law_below" "_law_below" s__law_below f_lbl d_lbl)
    (n_lnm : PySem.W.nsIn K mainGlobals "_law_is_name" = some (some (.ref f_lnm)))
    (u_lnm : L2.Fun K "_law_is_name" "_law_is_name" s__law_is_name f_lnm d_lnm)
    (n_lir : PySem.W.nsIn K mainGlobals "_law_in_ring" = some (some (.ref f_lir)))
    (u_lir : L2.Fun K "_law_in_ring" "_law_in_ring" s__law_in_ring f_lir d_lir)
    (n_ldu : PySem.W.nsIn K mainGlobals "_law_due" = some (some (.ref f_ldu)))
    (u_ldu : L2.Fun K "_law_due" "_law_due" s__law_due f_ldu d_ldu)
    (n_lbt : PySem.W.nsIn K mainGlobals "_law_bent" = some (some (.ref f_lbt)))
    (u_lbt : L2.Fun K "_law_bent" "_law_bent" s__law_bent f_lbt d_lbt)
    (n_lpd : PySem.W.nsIn K mainGlobals "_law_parsed" = some (some (.ref f_lpd)))
    (u_lpd : L2.Fun K "_law_parsed" "_law_parsed" s__law_parsed f_lpd d_lpd)
    (n_tl : PySem.W.nsIn K mainGlobals "_law_told" = some (some (.ref f_tl)))
    (u_tl : L2.Fun K "_law_told" "_law_told" s__law_told f_tl d_tl)
    (n_uk : PySem.W.nsIn K mainGlobals "_law_unknown_right" = some (some (.ref f_uk)))
    (u_uk : FunC K "_law_unknown_right" "_law_unknown_right" s__law_unknown_right f_uk d_uk c_uk)
    (t1_uk : PySem.W.tabIn K "_law_unknown_right" = some (c_uk, t_uk))
    (t2_uk : K.lookup t_uk = none)
    (t3_uk : ((recsOf q).find? (fun e => e.name == ("_law_unknown_right" : Str))).isSome = true)
    (n_law : PySem.W.nsIn K mainGlobals "law" = some (some (.ref f_law)))
    (u_law : FunC K "law" "law" s_law f_law d_law c_law)
    (t1_law : PySem.W.tabIn K "law" = some (c_law, t_law))
    (t2_law : K.lookup t_law = none)
    (t3_law : ((recsOf q).find? (fun e => e.name == ("law" : Str))).isSome = true)
    (ne_uk_law : t_uk ≠ t_law)
    (m_fiR : MetK K CF "__init__" f_fiR)
    (m_kc : MetK K CF "children" f_kc)
    (m_kp : MetK K CF "path" f_kp)
    (m_ku : MetK K CF "under" f_ku)
    (m_kd : MetK K CF "distance" f_kd)
    (m_feB : MetK K CF "__eq__" f_feB)
    (m_tx : PrK K CF "text" p_tx f_tx r_tx)
    (m_fpN : PrK K CF "parents" p_fpN f_fpN r_fpN)
    (m_prs : StK K CF "parse" p_prs f_prs r_prs)
    (eF_CF : EqF K CF f_feB)
    (u_fiR : L2.Fun K "__init__" "Forest.__init__" s_Forest___init__ f_fiR d_fiR)
    (u_kc : L2.Fun K "children" "Forest.children" s_Forest_children f_kc d_kc)
    (u_kp : L2.Fun K "path" "Forest.path" s_Forest_path f_kp d_kp)
    (u_ku : L2.Fun K "under" "Forest.under" s_Forest_under f_ku d_ku)
    (u_kd : L2.Fun K "distance" "Forest.distance" s_Forest_distance f_kd d_kd)
    (u_feB : L2.Fun K "__eq__" "Forest.__eq__" s_Forest___eq__ f_feB d_feB)
    (u_tx : L2.Fun K "text" "Forest.text" s_Forest_text f_tx d_tx)
    (u_fpN : L2.Fun K "parents" "Forest.parents" s_Forest_parents f_fpN d_fpN)
    (u_prs : L2.Fun K "parse" "Forest.parse" s_Forest_parse f_prs d_prs)
    (rt0 : RootF K R)
    (e_InvalidText : ClsF K "InvalidText" "line" C_InvalidText I_InvalidText R)
    (i_InvalidText : L2.Fun K "__init__" "InvalidText.__init__" s_InvalidText___init__ I_InvalidText D_InvalidText)
    (e_InvalidForest : ClsF K "InvalidForest" "name" C_InvalidForest I_InvalidForest R)
    (i_InvalidForest : L2.Fun K "__init__" "InvalidForest.__init__" s_InvalidForest___init__ I_InvalidForest D_InvalidForest)
    (e_UnknownName : ClsF K "UnknownName" "name" C_UnknownName I_UnknownName R)
    (i_UnknownName : L2.Fun K "__init__" "UnknownName.__init__" s_UnknownName___init__ I_UnknownName D_UnknownName)
    (e_InvalidSizes : ClsF K "InvalidSizes" "place" C_InvalidSizes I_InvalidSizes R)
    (i_InvalidSizes : L2.Fun K "__init__" "InvalidSizes.__init__" s_InvalidSizes___init__ I_InvalidSizes D_InvalidSizes)
    (apart : ∀ i : Fin 4, R ≠ ([C_InvalidText, C_InvalidForest, C_UnknownName, C_InvalidSizes] : List Nat).getD i.1 0)
    (dist : ∀ i j : Fin 4, decide (([C_InvalidText, C_InvalidForest, C_UnknownName, C_InvalidSizes] : List Nat).getD i.1 0 = ([C_InvalidText, C_InvalidForest, C_UnknownName, C_InvalidSizes] : List Nat).getD j.1 0) = decide (i.1 = j.1))
    (z_abs : PySem.W.nsIn K mainGlobals "abs" = some none)
    (z_len : PySem.W.nsIn K mainGlobals "len" = some none)
    (z_rng : PySem.W.nsIn K mainGlobals "range" = some none)
    (z_enu : PySem.W.nsIn K mainGlobals "enumerate" = some none)
    (z_zip : PySem.W.nsIn K mainGlobals "zip" = some none)
    (z_isi : PySem.W.nsIn K mainGlobals "isinstance" = some none)
    (z_all : PySem.W.nsIn K mainGlobals "all" = some none)
    (z_srt : PySem.W.nsIn K mainGlobals "sorted" = some none)
    (z_lst : PySem.W.nsIn K mainGlobals "list" = some none)
    (z_dct : PySem.W.nsIn K mainGlobals "dict" = some none)
    (z_str : PySem.W.nsIn K mainGlobals "str" = some none)
    (z_int : PySem.W.nsIn K mainGlobals "int" = some none)
    (z_tup : PySem.W.nsIn K mainGlobals "tuple" = some none)
    (z_sum : PySem.W.nsIn K mainGlobals "sum" = some none)
    (z_min : PySem.W.nsIn K mainGlobals "min" = some none)
    (z_max : PySem.W.nsIn K mainGlobals "max" = some none)
    (z_rep : PySem.W.nsIn K mainGlobals "repr" = some none)
    (z_bool : PySem.W.nsIn K mainGlobals "bool" = some none)
    (z_any : PySem.W.nsIn K mainGlobals "any" = some none)
    (z_vE : PySem.W.nsIn K mainGlobals "ValueError" = some none)
    : LawTG l w K 17 63 "_law_script" mg fa h := by
  cases hfa.symm.trans (PySem.W.mg_of X G n_law)
  have N : Nm mg := ⟨PySem.W.mg_none_of X G z_abs, PySem.W.mg_none_of X G z_len, PySem.W.mg_none_of X G z_rng, PySem.W.mg_none_of X G z_enu, PySem.W.mg_none_of X G z_zip, PySem.W.mg_none_of X G z_isi, PySem.W.mg_none_of X G z_all, PySem.W.mg_none_of X G z_srt, PySem.W.mg_none_of X G z_lst, PySem.W.mg_none_of X G z_dct, PySem.W.mg_none_of X G z_str, PySem.W.mg_none_of X G z_int, PySem.W.mg_none_of X G z_tup, PySem.W.mg_none_of X G z_sum, PySem.W.mg_none_of X G z_min, PySem.W.mg_none_of X G z_max, PySem.W.mg_none_of X G z_rep, PySem.W.mg_none_of X G z_bool, PySem.W.mg_none_of X G z_any, PySem.W.mg_none_of X G z_vE⟩
  have Cs_ : Cs mg := ⟨⟨_, PySem.W.mg_of X G cL⟩, ⟨_, PySem.W.mg_of X G cT⟩⟩
  have SF : IsF K CF := ⟨kCF.ha, kCF.hn, kCF.ht, kCF.hm⟩
  have O : FoC K CF := ⟨kCF.cls, noCF_above⟩
  have Z : Fc K mg CF (.type "type") := kCF.fc X G root
  have b_bgA := u_bgA.binds (ps := ["_law_script"]) fun _ _ _ _ _ _ us hl => match us, hl with | [_], _ => rfl
  have b_dtA := u_dtA.binds (ps := ["_law_draw", "_law_size"]) fun _ _ _ _ _ _ us hl => match us, hl with | [_, _], _ => rfl
  have b_dpA := u_dpA.binds (ps := ["_law_draw", "_law_some"]) fun _ _ _ _ _ _ us hl => match us, hl with | [_, _], _ => rfl
  have b_doA := u_doA.binds (ps := ["_law_draw", "_law_some"]) fun _ _ _ _ _ _ us hl => match us, hl with | [_, _], _ => rfl
  have b_nmP := u_nmP.binds (ps := ["_law_draw", "_law_many"]) fun _ _ _ _ _ _ us hl => match us, hl with | [_, _], _ => rfl
  have b_paP := u_paP.binds (ps := ["_law_draw", "_law_many"]) fun _ _ _ _ _ _ us hl => match us, hl with | [_, _], _ => rfl
  have b_isW := u_isW.binds (ps := ["value"]) fun _ _ _ _ _ _ us hl => match us, hl with | [_], _ => rfl
  have b_iaR := u_iaR.binds (ps := ["parents", "name"]) fun _ _ _ _ _ _ us hl => match us, hl with | [_, _], _ => rfl
  have b_ndR := u_ndR.binds (ps := ["parents"]) fun _ _ _ _ _ _ us hl => match us, hl with | [_], _ => rfl
  have b_fiR := u_fiR.binds (ps := ["self", "parents"]) fun _ _ _ _ _ _ us hl => match us, hl with | [_, _], _ => rfl
  have b_wk := u_wk.binds (ps := ["above", "place", "depth"]) fun _ _ _ _ _ _ us hl => match us, hl with | [_, _, _], _ => rfl
  have b_tx := u_tx.binds (ps := ["self"]) fun _ _ _ _ _ _ us hl => match us, hl with | [_], _ => rfl
  have b_fpN := u_fpN.binds (ps := ["self"]) fun _ _ _ _ _ _ us hl => match us, hl with | [_], _ => rfl
  have b_prs := u_prs.binds (ps := ["text"]) fun _ _ _ _ _ _ us hl => match us, hl with | [_], _ => rfl
  have b_npE := u_npE.binds (ps := ["forest", "place"]) fun _ _ _ _ _ _ us hl => match us, hl with | [_, _], _ => rfl
  have b_kc := u_kc.binds (ps := ["self", "place"]) fun _ _ _ _ _ _ us hl => match us, hl with | [_, _], _ => rfl
  have b_kp := u_kp.binds (ps := ["self", "place"]) fun _ _ _ _ _ _ us hl => match us, hl with | [_, _], _ => rfl
  have b_ku := u_ku.binds (ps := ["self", "place"]) fun _ _ _ _ _ _ us hl => match us, hl with | [_, _], _ => rfl
  have b_kd := u_kd.binds (ps := ["self", "one", "other"]) fun _ _ _ _ _ _ us hl => match us, hl with | [_, _, _], _ => rfl
  have b_lrw := u_lrw.binds (ps := ["_law_above", "_law_name"]) fun _ _ _ _ _ _ us hl => match us, hl with | [_, _], _ => rfl
  have b_lbl := u_lbl.binds (ps := ["_law_above", "_law_spot"]) fun _ _ _ _ _ _ us hl => match us, hl with | [_, _], _ => rfl
  have b_lnm := u_lnm.binds (ps := ["_law_item"]) fun _ _ _ _ _ _ us hl => match us, hl with | [_], _ => rfl
  have b_lir := u_lir.binds (ps := ["_law_above", "_law_start"]) fun _ _ _ _ _ _ us hl => match us, hl with | [_, _], _ => rfl
  have b_ldu := u_ldu.binds (ps := ["_law_item"]) fun _ _ _ _ _ _ us hl => match us, hl with | [_], _ => rfl
  have b_lbt := u_lbt.binds (ps := ["_law_draw", "_law_said"]) fun _ _ _ _ _ _ us hl => match us, hl with | [_, _], _ => rfl
  have b_lpd := u_lpd.binds (ps := ["_law_said"]) fun _ _ _ _ _ _ us hl => match us, hl with | [_], _ => rfl
  have b_tl := u_tl.binds (ps := ["_law_work"]) fun _ _ _ _ _ _ us hl => match us, hl with | [_], _ => rfl
  have b_feB := u_feB.binds (ps := ["self", "other"]) fun _ _ _ _ _ _ us hl => match us, hl with | [_, _], _ => rfl
  have b_uk := (u_uk.fun).binds (ps := ["_law_forest", "_law_odd"]) fun _ _ _ _ _ _ us hl => match us, hl with | [_, _], _ => rfl
  have g_bgA := PySem.W.mg_of X G n_bgA
  have g_dtA := PySem.W.mg_of X G n_dtA
  have g_dpA := PySem.W.mg_of X G n_dpA
  have g_doA := PySem.W.mg_of X G n_doA
  have g_nmP := PySem.W.mg_of X G n_nmP
  have g_paP := PySem.W.mg_of X G n_paP
  have g_isW := PySem.W.mg_of X G n_isW
  have g_iaR := PySem.W.mg_of X G n_iaR
  have g_ndR := PySem.W.mg_of X G n_ndR
  have g_wk := PySem.W.mg_of X G n_wk
  have g_npE := PySem.W.mg_of X G n_npE
  have g_lrw := PySem.W.mg_of X G n_lrw
  have g_lbl := PySem.W.mg_of X G n_lbl
  have g_lnm := PySem.W.mg_of X G n_lnm
  have g_lir := PySem.W.mg_of X G n_lir
  have g_ldu := PySem.W.mg_of X G n_ldu
  have g_lbt := PySem.W.mg_of X G n_lbt
  have g_lpd := PySem.W.mg_of X G n_lpd
  have g_tl := PySem.W.mg_of X G n_tl
  have g_uk := PySem.W.mg_of X G n_uk
  have rt := rt0.rt X G
  have at_ : ∀ i, i < 4 → ClsAt K (([C_InvalidText, C_InvalidForest, C_UnknownName, C_InvalidSizes] : List Nat).getD i 0) (.ref R :: exTail) := fun i hi => match i, hi with
    | 0, _ => e_InvalidText.at_
    | 1, _ => e_InvalidForest.at_
    | 2, _ => e_UnknownName.at_
    | 3, _ => e_InvalidSizes.at_
  have xs_ : ∀ i, i < 4 → XCls K (([C_InvalidText, C_InvalidForest, C_UnknownName, C_InvalidSizes] : List Nat).getD i 0) := fun i hi => match i, hi with
    | 0, _ => e_InvalidText.x rt0
    | 1, _ => e_InvalidForest.x rt0
    | 2, _ => e_UnknownName.x rt0
    | 3, _ => e_InvalidSizes.x rt0
  have kits : ∀ i j, i < 4 → j < 4 → PySem.W.kitOne K (.ref (([C_InvalidText, C_InvalidForest, C_UnknownName, C_InvalidSizes] : List Nat).getD i 0)) (.ref (([C_InvalidText, C_InvalidForest, C_UnknownName, C_InvalidSizes] : List Nat).getD j 0)) = some (decide (i = j)) := fun i j hi hj => by rw [(at_ i hi).kit (at_ j hj), has_cls (dist ⟨i, hi⟩ ⟨j, hj⟩) (apart ⟨j, hj⟩)]
  have exs : ∀ i j, i < 4 → j < 4 → PySem.W.exmOne K (.ref (([C_InvalidText, C_InvalidForest, C_UnknownName, C_InvalidSizes] : List Nat).getD i 0)) (.ref (([C_InvalidText, C_InvalidForest, C_UnknownName, C_InvalidSizes] : List Nat).getD j 0)) = some (decide (i = j)) := fun i j hi hj => by rw [(at_ i hi).exm (at_ j hj) rfl, has_cls (dist ⟨i, hi⟩ ⟨j, hj⟩) (apart ⟨j, hj⟩)]
  obtain ⟨T, eT⟩ : ∃ T : List (Addr × Str), T = [(t_uk, lamQ "_law_unknown_right"), (t_law, lamQ "law")] := ⟨_, rfl⟩
  have m_uk : (t_uk, lamQ "_law_unknown_right") ∈ T := by rw [eT]; simp
  have un_uk : ∀ p ∈ T, p.1 = t_uk → p.2 = lamQ "_law_unknown_right" := fun p hp e => by
    rw [eT] at hp
    simp only [List.mem_cons, List.not_mem_nil, or_false] at hp
    rcases hp with rfl | rfl
    · rfl
    · exact absurd e (Ne.symm ne_uk_law)
  have m_law : (t_law, lamQ "law") ∈ T := by rw [eT]; simp
  have un_law : ∀ p ∈ T, p.1 = t_law → p.2 = lamQ "law" := fun p hp e => by
    rw [eT] at hp
    simp only [List.mem_cons, List.not_mem_nil, or_false] at hp
    rcases hp with rfl | rfl
    · exact absurd e ne_uk_law
    · rfl
  refine ⟨d_law, ([(c_uk, t_uk), (c_law, t_law)] : List (Addr × Addr)), spLaw02 K T, fun p hp => ?_, fun s u => ?_, fun H a ns hl hts hS => ?_, fun base KB GB TBs => ?_⟩
  · simp only [List.mem_cons, List.not_mem_nil, or_false] at hp
    rcases hp with rfl | rfl
    · exact ⟨(TO _ _ _ t3_uk t1_uk).1, (TO _ _ _ t3_uk t1_uk).2, t2_uk⟩
    · exact ⟨(TO _ _ _ t3_law t1_law).1, (TO _ _ _ t3_law t1_law).2, t2_law⟩
  · obtain ⟨oc, od, kV, doc, pm, an, cdv, ct, osl, rfl, lk, hcd⟩ := u_law.fun.ex
    exact .of_eq rfl
  · refine ⟨a, ns, rfl, hS, hl, ?_, fun _ => rfl⟩
    intro p hp
    rw [eT] at hp
    simp only [List.mem_cons, List.not_mem_nil, or_false] at hp
    rcases hp with rfl | rfl
    · exact TabS.nil (hts (c_uk, t_uk) (by simp))
    · exact TabS.nil (hts (c_law, t_law) (by simp))
  have E_InvalidText : Er1 l.prog w K mg base "InvalidText" "line" C_InvalidText I_InvalidText D_InvalidText := ⟨e_InvalidText.er X G rt0, ok_InvalidText i_InvalidText rt (e_InvalidText.er X G rt0), i_InvalidText.binds (ps := ["self", "line"]) fun _ _ _ _ _ _ us hl => match us, hl with | [_, _], _ => rfl⟩
  have E_InvalidForest : Er1 l.prog w K mg base "InvalidForest" "name" C_InvalidForest I_InvalidForest D_InvalidForest := ⟨e_InvalidForest.er X G rt0, ok_InvalidForest i_InvalidForest rt (e_InvalidForest.er X G rt0), i_InvalidForest.binds (ps := ["self", "name"]) fun _ _ _ _ _ _ us hl => match us, hl with | [_, _], _ => rfl⟩
  have E_UnknownName : Er1 l.prog w K mg base "UnknownName" "name" C_UnknownName I_UnknownName D_UnknownName := ⟨e_UnknownName.er X G rt0, ok_UnknownName i_UnknownName rt (e_UnknownName.er X G rt0), i_UnknownName.binds (ps := ["self", "name"]) fun _ _ _ _ _ _ us hl => match us, hl with | [_, _], _ => rfl⟩
  have D_bgA : Dn l.prog w K mg base CX0 1 "_law_begin" ["_law_script"] (spBegin K) f_bgA d_bgA := ⟨ok_begin u_bgA N, u_bgA.kp, b_bgA, g_bgA⟩
  have D_dtA : Dn l.prog w K mg base CX0 1 "_law_take" ["_law_draw", "_law_size"] (spDraw) f_dtA d_dtA := ⟨ok_draw u_dtA N, u_dtA.kp, b_dtA, g_dtA⟩
  have D_dpA : Dn l.prog w K mg base CX0 2 "_law_pick" ["_law_draw", "_law_some"] (spPick K) f_dpA d_dpA := ⟨ok_pick u_dpA N u_dtA b_dtA g_dtA, u_dpA.kp, b_dpA, g_dpA⟩
  have D_doA : Dn l.prog w K mg base CX0 2 "_law_order" ["_law_draw", "_law_some"] (spOrder K) f_doA d_doA := ⟨ok_order u_doA N u_dtA b_dtA g_dtA, u_doA.kp, b_doA, g_doA⟩
  have D_nmP : Dn l.prog w K mg base CX0 3 "_law_names" ["_law_draw", "_law_many"] (spNamesP) f_nmP d_nmP := ⟨ok_namesP u_nmP N u_dtA b_dtA g_dtA u_doA b_doA g_doA, u_nmP.kp, b_nmP, g_nmP⟩
  have D_paP : Dn l.prog w K mg base CX0 4 "_law_parents" ["_law_draw", "_law_many"] (spParentsP) f_paP d_paP := ⟨ok_parentsP u_paP N D_dtA D_dpA D_doA D_nmP, u_paP.kp, b_paP, g_paP⟩
  have D_isW : Dn l.prog w K mg base CX0 1 "is_name" ["value"] (spIsNameW) f_isW d_isW := ⟨ok_isNameW u_isW N Cs_, u_isW.kp, b_isW, g_isW⟩
  have D_iaR : Dn l.prog w K mg base CX0 1 "is_ancestor" ["parents", "name"] (spIsAncR) f_iaR d_iaR := ⟨ok_isAncR u_iaR, u_iaR.kp, b_iaR, g_iaR⟩
  have D_ndR : Dn l.prog w K mg base (L2.CX l.prog w) 3 "need_parents" ["parents"] (spNeedR C_InvalidForest) f_ndR d_ndR := ⟨ok_needR u_ndR N Cs_ Z D_isW D_iaR E_InvalidForest, u_ndR.kp, b_ndR, g_ndR⟩
  have F_fiR : FnOk l.prog w K mg base (L2.CX l.prog w) 4 f_fiR d_fiR ["self", "parents"] (spFInitR CF C_InvalidForest) := ok_finitR u_fiR N O D_ndR
  have MK_fiR : Mk K CF f_fiR := ⟨kCF.mks, m_fiR.at_, m_fiR.fn, kCF.kp⟩
  have D_wk : ∀ m, Dn l.prog w K mg base CX0 (m + 1) "walked" ["above", "place", "depth"] (spWalked m) f_wk d_wk := fun m => ⟨ok_walked u_wk b_wk g_wk m, u_wk.kp, b_wk, g_wk⟩
  have P_tx : PrN l.prog w K mg base 15 CF "text" (spFText CF) p_tx f_tx d_tx := ⟨⟨m_tx.at_, m_tx.get, m_tx.tak, ⟨_, m_tx.rec_⟩⟩, ok_ftext u_tx O Z D_wk, b_tx⟩
  have P_fpN : PrN l.prog w K mg base 1 CF "parents" (spFParents CF) p_fpN f_fpN d_fpN := ⟨⟨m_fpN.at_, m_fpN.get, m_fpN.tak, ⟨_, m_fpN.rec_⟩⟩, ok_fparents u_fpN N O, b_fpN⟩
  have F_prs : FnOk l.prog w K mg base (L2.CX l.prog w) 6 f_prs d_prs ["text"] (spParse K CF C_InvalidText C_InvalidForest) := ok_parse u_prs N Z D_isW MK_fiR F_fiR b_fiR E_InvalidText
  have D_npE : Dn l.prog w K mg base (L2.CX l.prog w) 3 "need_place" ["forest", "place"] (spNeedPlE K CF C_UnknownName) f_npE d_npE := ⟨ok_needPlE u_npE N O Z E_UnknownName, u_npE.kp, b_npE, g_npE⟩
  have F_kc : FnOk l.prog w K mg base (L2.CX l.prog w) 4 f_kc d_kc ["self", "place"] (spNoPl K CF C_UnknownName) := ok_noKids u_kc D_npE
  have M_kc : Mt l.prog w K mg base (L2.CX l.prog w) 4 CF "children" ["self", "place"] (spNoPl K CF C_UnknownName) f_kc d_kc := ⟨⟨m_kc.at_, m_kc.fn, u_kc.kp⟩, F_kc, b_kc⟩
  have F_kp : FnOk l.prog w K mg base (L2.CX l.prog w) 4 f_kp d_kp ["self", "place"] (spNoPl K CF C_UnknownName) := ok_noPath u_kp D_npE
  have M_kp : Mt l.prog w K mg base (L2.CX l.prog w) 4 CF "path" ["self", "place"] (spNoPl K CF C_UnknownName) f_kp d_kp := ⟨⟨m_kp.at_, m_kp.fn, u_kp.kp⟩, F_kp, b_kp⟩
  have F_ku : FnOk l.prog w K mg base (L2.CX l.prog w) 4 f_ku d_ku ["self", "place"] (spNoPl K CF C_UnknownName) := ok_noUnder u_ku D_npE
  have M_ku : Mt l.prog w K mg base (L2.CX l.prog w) 4 CF "under" ["self", "place"] (spNoPl K CF C_UnknownName) f_ku d_ku := ⟨⟨m_ku.at_, m_ku.fn, u_ku.kp⟩, F_ku, b_ku⟩
  have F_kd : FnOk l.prog w K mg base (L2.CX l.prog w) 4 f_kd d_kd ["self", "one", "other"] (spNoPl2 K CF C_UnknownName) := ok_noDist u_kd D_npE
  have M_kd : Mt l.prog w K mg base (L2.CX l.prog w) 4 CF "distance" ["self", "one", "other"] (spNoPl2 K CF C_UnknownName) f_kd d_kd := ⟨⟨m_kd.at_, m_kd.fn, u_kd.kp⟩, F_kd, b_kd⟩
  have D_lrw : Dn l.prog w K mg base CX0 1 "_law_row" ["_law_above", "_law_name"] (spLRow) f_lrw d_lrw := ⟨ok_lawRow u_lrw, u_lrw.kp, b_lrw, g_lrw⟩
  have D_lbl : Dn l.prog w K mg base CX0 14 "_law_below" ["_law_above", "_law_spot"] spBelowX f_lbl d_lbl := ⟨below_any (ok_below u_lbl N b_lbl g_lbl), u_lbl.kp, b_lbl, g_lbl⟩
  have D_lnm : Dn l.prog w K mg base CX0 1 "_law_is_name" ["_law_item"] (spIsNameW) f_lnm d_lnm := ⟨ok_lawNm u_lnm N, u_lnm.kp, b_lnm, g_lnm⟩
  have D_lir : Dn l.prog w K mg base CX0 1 "_law_in_ring" ["_law_above", "_law_start"] (spIsAncR) f_lir d_lir := ⟨ok_inRing u_lir N, u_lir.kp, b_lir, g_lir⟩
  have D_ldu : Dn l.prog w K mg base CX0 2 "_law_due" ["_law_item"] (spDueL) f_ldu d_ldu := ⟨ok_dueL u_ldu N D_lnm D_lir, u_ldu.kp, b_ldu, g_ldu⟩
  have D_lbt : Dn l.prog w K mg base CX0 3 "_law_bent" ["_law_draw", "_law_said"] (spBentF) f_lbt d_lbt := ⟨ok_bentF u_lbt N D_dtA D_dpA, u_lbt.kp, b_lbt, g_lbt⟩
  have D_lpd : Dn l.prog w K mg base CX0 3 "_law_parsed" ["_law_said"] (spParsed) f_lpd d_lpd := ⟨ok_parsed u_lpd N D_lnm D_ldu, u_lpd.kp, b_lpd, g_lpd⟩
  have GE : Ge K mg "_law_told" s__law_told f_tl d_tl := ⟨u_tl, b_tl, g_tl⟩
  have F_feB : FnOk l.prog w K mg base CX0 1 f_feB d_feB ["self", "other"] (spEqB (RFoB CF)) := ok_feqB u_feB N O Z SF
  have M_feB : Mt l.prog w K mg base CX0 1 CF "__eq__" ["self", "other"] (spEqB (RFoB CF)) f_feB d_feB := ⟨⟨m_feB.at_, m_feB.fn, u_feB.kp⟩, F_feB, b_feB⟩
  skip
  have CC_ : Cl4F K mg R (fun i => ([C_InvalidText, C_InvalidForest, C_UnknownName, C_InvalidSizes] : List Nat).getD i 0) := ⟨rt.g, fun i hi => match i, hi with
    | 0, _ => PySem.W.mg_of X G e_InvalidText.nsn
    | 1, _ => PySem.W.mg_of X G e_InvalidForest.nsn
    | 2, _ => PySem.W.mg_of X G e_UnknownName.nsn
    | 3, _ => PySem.W.mg_of X G e_InvalidSizes.nsn, fun i hi => xs_ i (by omega), fun i j hi hj => kits i j (by omega) hj, fun i hi => kit_bt (at_ i (by omega)), fun i hi => by rw [(at_ i (by omega)).exm rt0.at_ rfl, has_root], fun i hi => match i, hi with
    | 0, _ => e_InvalidText.no
    | 1, _ => e_InvalidForest.no
    | 2, _ => e_UnknownName.no⟩
  have WU : LU l.prog w K mg base CF C_UnknownName (fun i => ([f_kc, f_kp, f_ku, f_kd] : List Nat).getD i 0) (fun i => ([d_kc, d_kp, d_ku, d_kd] : List FuncData).getD i d_kc) := { O := O, ch := M_kc, pt := M_kp, un := M_ku, ds := M_kd }
  have G_uk : ∀ d c, FnG l.prog w K mg base CX0 7 f_uk d_uk ["_law_forest", "_law_odd"] (spUnk T CF d c) := fun d c => ok_unk u_uk N WU GE CC_ rfl (TBs (c_uk, t_uk) (by simp)) m_uk un_uk
  have W : W02 l.prog w K mg base CF C_InvalidText C_InvalidForest (.type "type") T (fun i => ([f_bgA, f_dtA, f_dpA, f_paP, f_fiR, f_tx, f_fpN, f_lrw, f_lbl, f_lbt, f_lpd, f_prs, f_feB, f_uk] : List Nat).getD i 0) (fun i => ([p_tx, p_tx, p_tx, p_tx, p_tx, p_tx, p_fpN, p_tx, p_tx, p_tx, p_tx, p_prs] : List Nat).getD i 0) (fun i => ([d_bgA, d_dtA, d_dpA, d_paP, d_fiR, d_tx, d_fpN, d_lrw, d_lbl, d_lbt, d_lpd, d_prs, d_feB, d_uk] : List FuncData).getD i d_bgA) := { O := O, Z := Z, SF := SF, kt := kit_tup xF_mt, bg := D_bgA, dt := D_dtA, dp := D_dpA, pa := D_paP, fi := F_fiR, fim := MK_fiR, fib := b_fiR, tx := P_tx, pp := P_fpN, rw_ := D_lrw, bl := D_lbl, bt := D_lbt, pd := D_lpd, ps := F_prs, psm := m_prs.sm, psp := u_prs.kp, psb := b_prs, psk := kwS1 u_prs (fun _ _ _ _ _ _ _ => rfl), eq := feqL2 F_feB, eqa := m_feB.at_, eqf := m_feB.fn, eqb := b_feB, un := unk_any G_uk, unm := g_uk, unk := u_uk.fun.kp, unb := b_uk }
  exact ok_law02 u_law N W GE CC_ rfl rfl (TBs (c_law, t_law) (by simp)) m_law un_law
end
theorem walk {l : PySem.W.OpenLaw} {q : Program} {loose : List Str} {XP : (Str → Option Value) → Heap → Prop} {YP : World → Heap → Prop} {d : DefRec} {K : Params → PySem.W.Frag} (hn : l.most = some 63) (hdf : d.params.defaults = [])
    (hY : ∀ (w : World) (h : Heap), YP w h → (K w.params).In h)
    (F : ∀ (w : World) (mg : Str → Option Value) (fa : Addr) (h : Heap), (K w.params).In h → h.Ns mainGlobals mg → mg d.name = some (.ref fa) → TabsOf q (K w.params) h → XP mg h → LawTG l w (K w.params) 17 63 "_law_script" mg fa h) :
    PySem.W.WalkO q loose XP YP l.row.toRowW d [] (fun f vs => PySem.call f vs) :=
  walk_tabG (n := 63) (k := 17) (x := "_law_script") hn (by decide) hdf ⟨rfl, by decide, by decide⟩ hY F
end FT


open PySem PySem.W PyProof.Rows
namespace FT
abbrev R2 : PySem.W.OpenRow := PySem.W.OpenLaw.row PySem.Challenge.rw_flagtrees_k02_forest_texts
def lo2_0 : List PySem.Str := [("_wall" : PySem.Str), ("__name__" : PySem.Str), ("RolloutError" : PySem.Str), ("InvalidForest" : PySem.Str), ("UnknownName" : PySem.Str), ("InvalidSizes" : PySem.Str), ("InvalidText" : PySem.Str), ("LONGEST" : PySem.Str), ("LETTERS" : PySem.Str), ("is_name" : PySem.Str), ("is_ancestor" : PySem.Str), ("need_parents" : PySem.Str), ("Forest" : PySem.Str), ("walked" : PySem.Str), ("path_in" : PySem.Str), ("path_difference" : PySem.Str), ("need_place" : PySem.Str), ("_law_begin" : PySem.Str), ("_law_take" : PySem.Str), ("_law_pick" : PySem.Str), ("_law_order" : PySem.Str), ("_law_names" : PySem.Str), ("_law_parents" : PySem.Str), ("_law_is_name" : PySem.Str), ("_law_in_ring" : PySem.Str), ("_law_due" : PySem.Str), ("_law_below" : PySem.Str), ("_law_row" : PySem.Str), ("_law_bent" : PySem.Str), ("_law_parsed" : PySem.Str)]
def lo2_1 : List PySem.Str := [("_law_told" : PySem.Str), ("_law_unknown_right" : PySem.Str)]
def lo2 : List PySem.Str := lo2_0 ++ lo2_1
abbrev qv2 : Program := PySem.W.view R2.prog [33, 34]
def lv2 : List (PySem.Str × PySem.W.WData) := []
end FT
local macro_rules
  | `(tactic| o_head ($f:ident $k:term $a:term $e:term $t:term)) => do
    let hw := Lean.mkIdent `hw
    let hc := Lean.mkIdent `hc
    `(tactic| refine FT.head_km (r := FT.R2) (q := FT.qv2) (K := $k) (as := $a) (ts := $t) (pe := $e) (M := 16000) (loose := FT.lo2) (lv := FT.lv2) (kwd := []) (by kernel_rfl) (fun s => by kernel_rfl) (fun w os => by kernel_rfl) (by rfl) (by rfl) (by rfl) (by rfl) (by first | assumption | decide +kernel) (by decide +kernel) ⟨rfl, rfl, rfl, rfl, rfl, by decide +kernel⟩ ?$hw ?$hc)
set_option maxRecDepth 100000 in
set_option maxHeartbeats 0 in
theorem PySem.Challenge.cw_flagtrees_k02_forest_texts_holds : PySem.Challenge.rw_flagtrees_k02_forest_texts.Holds := by
  w_on; o_law; k_head; (case hw => w_witness2)
  k_fill
  refine FT.walk (l := PySem.Challenge.rw_flagtrees_k02_forest_texts) rfl rfl (fun w h Y => PySem.W.km_in_of Y) ?F
  case F =>
    intro w mg fa h KX G hm TO XX
    have hmg : mg "law" = some (.ref fa) := hm
    clear hm
    refine' FT.all_mk KX G hmg TO ?kCF ?noCF_above ?xF_mt ?root ?cL ?cT ?n_bgA ?u_bgA ?n_dtA ?u_dtA ?n_dpA ?u_dpA ?n_doA ?u_doA ?n_nmP ?u_nmP ?n_paP ?u_paP ?n_isW ?u_isW ?n_iaR ?u_iaR ?n_ndR ?u_ndR ?n_wk ?u_wk ?n_npE ?u_npE ?n_lrw ?u_lrw ?n_lbl ?u_lbl ?n_lnm ?u_lnm ?n_lir ?u_lir ?n_ldu ?u_ldu ?n_lbt ?u_lbt ?n_lpd ?u_lpd ?n_tl ?u_tl ?n_uk ?u_uk ?t1_uk ?t2_uk ?t3_uk ?n_law ?u_law ?t1_law ?t2_law ?t3_law ?ne_uk_law ?m_fiR ?m_kc ?m_kp ?m_ku ?m_kd ?m_feB ?m_tx ?m_fpN ?m_prs ?eF_CF ?u_fiR ?u_kc ?u_kp ?u_ku ?u_kd ?u_feB ?u_tx ?u_fpN ?u_prs ?rt0 ?e_InvalidText ?i_InvalidText ?e_InvalidForest ?i_InvalidForest ?e_UnknownName ?i_UnknownName ?e_InvalidSizes ?i_InvalidSizes ?apart ?dist ?z_abs ?z_len ?z_rng ?z_enu ?z_zip ?z_isi ?z_all ?z_srt ?z_lst ?z_dct ?z_str ?z_int ?z_tup ?z_sum ?z_min ?z_max ?z_rep ?z_bool ?z_any ?z_vE
    (case kCF => (refine' ⟨?nsn, ?rd, ?ga, ?most, ?pg, ?hd, ?po, ?sa, ?mks, ?kp, ?ha, ?hn, ?ht, ?hm⟩; (case nsn => k_is); (case rd => k_is); (case ga => k_is); (case most => k_is); (case pg => k_is); (case hd => k_is); (case po => k_is); (case sa => k_is); (case mks => k_is); (case kp => k_is); (case ha => k_is); (case hn => k_is); (case ht => k_is); (case hm => k_is)))
    (case noCF_above => k_is)
    (case xF_mt => k_is)
    (case root => k_is)
    (case cL => k_is)
    (case cT => k_is)
    (case n_bgA => k_is)
    (case u_bgA => (refine' L2.fun_mk ?l ?c ?k; (case l => k_is); (case c => k_is); (case k => k_is)))
    (case n_dtA => k_is)
    (case u_dtA => (refine' L2.fun_mk ?l ?c ?k; (case l => k_is); (case c => k_is); (case k => k_is)))
    (case n_dpA => k_is)
    (case u_dpA => (refine' L2.fun_mk ?l ?c ?k; (case l => k_is); (case c => k_is); (case k => k_is)))
    (case n_doA => k_is)
    (case u_doA => (refine' L2.fun_mk ?l ?c ?k; (case l => k_is); (case c => k_is); (case k => k_is)))
    (case n_nmP => k_is)
    (case u_nmP => (refine' L2.fun_mk ?l ?c ?k; (case l => k_is); (case c => k_is); (case k => k_is)))
    (case n_paP => k_is)
    (case u_paP => (refine' L2.fun_mk ?l ?c ?k; (case l => k_is); (case c => k_is); (case k => k_is)))
    (case n_isW => k_is)
    (case u_isW => (refine' L2.fun_mk ?l ?c ?k; (case l => k_is); (case c => k_is); (case k => k_is)))
    (case n_iaR => k_is)
    (case u_iaR => (refine' L2.fun_mk ?l ?c ?k; (case l => k_is); (case c => k_is); (case k => k_is)))
    (case n_ndR => k_is)
    (case u_ndR => (refine' L2.fun_mk ?l ?c ?k; (case l => k_is); (case c => k_is); (case k => k_is)))
    (case n_wk => k_is)
    (case u_wk => (refine' L2.fun_mk ?l ?c ?k; (case l => k_is); (case c => k_is); (case k => k_is)))
    (case n_npE => k_is)
    (case u_npE => (refine' L2.fun_mk ?l ?c ?k; (case l => k_is); (case c => k_is); (case k => k_is)))
    (case n_lrw => k_is)
    (case u_lrw => (refine' L2.fun_mk ?l ?c ?k; (case l => k_is); (case c => k_is); (case k => k_is)))
    (case n_lbl => k_is)
    (case u_lbl => (refine' L2.fun_mk ?l ?c ?k; (case l => k_is); (case c => k_is); (case k => k_is)))
    (case n_lnm => k_is)
    (case u_lnm => (refine' L2.fun_mk ?l ?c ?k; (case l => k_is); (case c => k_is); (case k => k_is)))
    (case n_lir => k_is)
    (case u_lir => (refine' L2.fun_mk ?l ?c ?k; (case l => k_is); (case c => k_is); (case k => k_is)))
    (case n_ldu => k_is)
    (case u_ldu => (refine' L2.fun_mk ?l ?c ?k; (case l => k_is); (case c => k_is); (case k => k_is)))
    (case n_lbt => k_is)
    (case u_lbt => (refine' L2.fun_mk ?l ?c ?k; (case l => k_is); (case c => k_is); (case k => k_is)))
    (case n_lpd => k_is)
    (case u_lpd => (refine' L2.fun_mk ?l ?c ?k; (case l => k_is); (case c => k_is); (case k => k_is)))
    (case n_tl => k_is)
    (case u_tl => (refine' L2.fun_mk ?l ?c ?k; (case l => k_is); (case c => k_is); (case k => k_is)))
    (case n_uk => k_is)
    (case u_uk => (refine' L2.funC_mk ?l ?e ?k; (case l => k_is); (case e => k_is); (case k => k_is)))
    (case t1_uk => rfl)
    (case t2_uk => rfl)
    (case t3_uk => rfl)
    (case n_law => k_is)
    (case u_law => (refine' L2.funC_mk ?l ?e ?k; (case l => k_is); (case e => k_is); (case k => k_is)))
    (case t1_law => rfl)
    (case t2_law => rfl)
    (case t3_law => rfl)
    (case ne_uk_law => decide)
    (case m_fiR => (refine' ⟨?at_, ?fn⟩; (case at_ => k_is); (case fn => k_is)))
    (case m_kc => (refine' ⟨?at_, ?fn⟩; (case at_ => k_is); (case fn => k_is)))
    (case m_kp => (refine' ⟨?at_, ?fn⟩; (case at_ => k_is); (case fn => k_is)))
    (case m_ku => (refine' ⟨?at_, ?fn⟩; (case at_ => k_is); (case fn => k_is)))
    (case m_kd => (refine' ⟨?at_, ?fn⟩; (case at_ => k_is); (case fn => k_is)))
    (case m_feB => (refine' ⟨?at_, ?fn⟩; (case at_ => k_is); (case fn => k_is)))
    (case m_tx => (refine' ⟨?at_, ?get, ?tak, ?rec_⟩; (case at_ => k_is); (case get => k_is); (case tak => k_is); (case rec_ => k_is)))
    (case m_fpN => (refine' ⟨?at_, ?get, ?tak, ?rec_⟩; (case at_ => k_is); (case get => k_is); (case tak => k_is); (case rec_ => k_is)))
    (case m_prs => (refine' ⟨?at_, ?rec_⟩; (case at_ => k_is); (case rec_ => k_is)))
    (case eF_CF => exact ⟨⟨_, _, _, _, _, _, _, _, _, _, _, _, _, _, _, rfl, _, _, _, _, _, rfl, rfl, rfl, rfl⟩, ⟨_, rfl, rfl⟩⟩)
    (case u_fiR => (refine' L2.fun_mk ?l ?c ?k; (case l => k_is); (case c => k_is); (case k => k_is)))
    (case u_kc => (refine' L2.fun_mk ?l ?c ?k; (case l => k_is); (case c => k_is); (case k => k_is)))
    (case u_kp => (refine' L2.fun_mk ?l ?c ?k; (case l => k_is); (case c => k_is); (case k => k_is)))
    (case u_ku => (refine' L2.fun_mk ?l ?c ?k; (case l => k_is); (case c => k_is); (case k => k_is)))
    (case u_kd => (refine' L2.fun_mk ?l ?c ?k; (case l => k_is); (case c => k_is); (case k => k_is)))
    (case u_feB => (refine' L2.fun_mk ?l ?c ?k; (case l => k_is); (case c => k_is); (case k => k_is)))
    (case u_tx => (refine' L2.fun_mk ?l ?c ?k; (case l => k_is); (case c => k_is); (case k => k_is)))
    (case u_fpN => (refine' L2.fun_mk ?l ?c ?k; (case l => k_is); (case c => k_is); (case k => k_is)))
    (case u_prs => (refine' L2.fun_mk ?l ?c ?k; (case l => k_is); (case c => k_is); (case k => k_is)))
    (case rt0 => (refine' ⟨?nsn, ?at_, ?rd, ?ga, ?ini, ?hn, ?ht⟩; (case nsn => k_is); (case at_ => (refine' ⟨_, _, _, _, _, _, _, _, _, _, _, _, _, _, ?xl⟩; (case xl => rfl))); (case rd => k_is); (case ga => k_is); (case ini => k_is); (case hn => k_is); (case ht => k_is)))
    (case e_InvalidText => (refine' ⟨?nsn, ?at_, ?sa, ?ga, ?gg, ?ha, ?kC, ?no, ?ini, ?ity⟩; (case nsn => k_is); (case at_ => (refine' ⟨_, _, _, _, _, _, _, _, _, _, _, _, _, _, ?xl⟩; (case xl => rfl))); (case sa => k_is); (case ga => k_is); (case gg => k_is); (case ha => k_is); (case kC => k_is); (case no => k_is); (case ini => k_is); (case ity => k_is)))
    (case i_InvalidText => (refine' L2.fun_mk ?l ?c ?k; (case l => k_is); (case c => k_is); (case k => k_is)))
    (case e_InvalidForest => (refine' ⟨?nsn, ?at_, ?sa, ?ga, ?gg, ?ha, ?kC, ?no, ?ini, ?ity⟩; (case nsn => k_is); (case at_ => (refine' ⟨_, _, _, _, _, _, _, _, _, _, _, _, _, _, ?xl⟩; (case xl => rfl))); (case sa => k_is); (case ga => k_is); (case gg => k_is); (case ha => k_is); (case kC => k_is); (case no => k_is); (case ini => k_is); (case ity => k_is)))
    (case i_InvalidForest => (refine' L2.fun_mk ?l ?c ?k; (case l => k_is); (case c => k_is); (case k => k_is)))
    (case e_UnknownName => (refine' ⟨?nsn, ?at_, ?sa, ?ga, ?gg, ?ha, ?kC, ?no, ?ini, ?ity⟩; (case nsn => k_is); (case at_ => (refine' ⟨_, _, _, _, _, _, _, _, _, _, _, _, _, _, ?xl⟩; (case xl => rfl))); (case sa => k_is); (case ga => k_is); (case gg => k_is); (case ha => k_is); (case kC => k_is); (case no => k_is); (case ini => k_is); (case ity => k_is)))
    (case i_UnknownName => (refine' L2.fun_mk ?l ?c ?k; (case l => k_is); (case c => k_is); (case k => k_is)))
    (case e_InvalidSizes => (refine' ⟨?nsn, ?at_, ?sa, ?ga, ?gg, ?ha, ?kC, ?no, ?ini, ?ity⟩; (case nsn => k_is); (case at_ => (refine' ⟨_, _, _, _, _, _, _, _, _, _, _, _, _, _, ?xl⟩; (case xl => rfl))); (case sa => k_is); (case ga => k_is); (case gg => k_is); (case ha => k_is); (case kC => k_is); (case no => k_is); (case ini => k_is); (case ity => k_is)))
    (case i_InvalidSizes => (refine' L2.fun_mk ?l ?c ?k; (case l => k_is); (case c => k_is); (case k => k_is)))
    (case apart => decide +kernel)
    (case dist => decide +kernel)
    (case z_abs => k_is)
    (case z_len => k_is)
    (case z_rng => k_is)
    (case z_enu => k_is)
    (case z_zip => k_is)
    (case z_isi => k_is)
    (case z_all => k_is)
    (case z_srt => k_is)
    (case z_lst => k_is)
    (case z_dct => k_is)
    (case z_str => k_is)
    (case z_int => k_is)
    (case z_tup => k_is)
    (case z_sum => k_is)
    (case z_min => k_is)
    (case z_max => k_is)
    (case z_rep => k_is)
    (case z_bool => k_is)
    (case z_any => k_is)
    (case z_vE => k_is)
