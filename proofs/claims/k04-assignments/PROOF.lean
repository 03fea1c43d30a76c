import PyProof.Rows.All
import Wide.All
import OpenK.AllK
import Wide.FinOn
import KE.KStateDown
import KE.OsRunLaw
import HandS.Head0
import HandS.Head1
import HandS.Head2
import KE.KNestM
import HandS.ForMost
import PyProof.EqAt
import PyProof.EqKinds
import PyProof.TupleCall
import KE.KFromBytes
import KE.KExcIs
import HandS.Exc
import HandS.TryOnly
import HandS.ExcInit
import HandS.ExcIs
import HandS.ExcField
import HandS.IsInst
import HandS.ClsMeth
import HandS.Defaults
import HandS.DictComp
import HandS.SortKw
import HandS.More
import HandS.Nested
import PyProof.Rows.StrRules
import PyProof.Rows.SortKeyStr
import KE.KUnpackStar
import HandS.Flow
import HandS.Walk
import HandS.Wide
import HandS.Text
import HandS.Style
import HandS.Property
import HandS.WordsDict
import HandS.ListItems
import HandS.Finally
import HandS.WordsExc
import HandS.Conv
import KE.GoesEnum
import HandS.Iter
import HandS.List
import PyProof.NeData
import HandS.Lambda
import HandS.EndBits
import KE.KNest
import HandS.Small
import HandS.ExcOwn
import HandS.Dict
import HandS.Star
import PyProof.Rows.StrMul
import HandS.OwnEq
import PyProof.InstNe
import HandS.DeepEq
import PyProof.P3Eq
import HandS.TupMul
import HandS.MakeKwOnly
import KE.RegKIsAll
import Wide.Loose
import PySem.Challenge.RW_flagtrees_k04_assignments
set_option Elab.async false
set_option linter.all false
set_option maxRecDepth 100000
set_option maxHeartbeats 8000000

/-! the head by one kernel run over the heap as a tree, with the frame of objects that the walk reads -/
namespace FT
open PySem PySem.W PySem.Calls PyProof.Rows HandSHeadRun
noncomputable def RunK (r : OpenRow) (q : Program) (K : Params → Frag) (as : List Addr) (M : Nat) (loose : List PySem.Str) (lv : List (PySem.Str × WData)) (w : World) : Prop :=
  ∀ os : OsState, (endF (stepQ (denQ tabQ) r.prog w) M r.prog w os).map (fun s => (looksF r.prog (boot_heap w.params) s.abs, seenQ q loose (importedModules r.prog.main.body) (fun s => xlAt q lv s && recOk r.toRowW.records s) s.abs, as.map (getT s))) = some (true, openGood q loose, (K w.params).map fun p => some p.2)
end FT


/-! the head by one kernel run, as HdK, for a text whose defs hold lambdas (the hook with tables) -/
namespace FT
open PySem PySem.W PySem.Calls PyProof.Rows HandSHeadRun
noncomputable def RunM (r : OpenRow) (q : Program) (K : Params → Frag) (as ts : List Addr) (M : Nat) (loose : List PySem.Str) (lv : List (PySem.Str × WData)) (w : World) : Prop :=
  ∀ os : OsState, (endF (stepQ (denQ tabQ) r.prog w) M r.prog w os).map (fun s => (looksF r.prog (boot_heap w.params) s.abs, seenQ q loose (importedModules r.prog.main.body) (fun s => xlAt q lv s && recOk r.toRowW.records s) s.abs, as.map (getT s), ts.map (getT s))) = some (true, openGood q loose, (K w.params).map (fun p => some p.2), ts.map fun _ => some (tabObj #[]))
theorem head_km {r : OpenRow} {q : Program} {K : Params → Frag} {as ts : List Addr} {pe : ∀ P, as = (K P).map (·.1)} {M : Nat} {loose : List PySem.Str} {lv : List (PySem.Str × WData)} {d : DefRec} {kwd : List (PySem.Str × PySem.Expr)}
    (e : opening r.prog = plainProg r.prog.main.scope.names) (f : ∀ s, fenceModules? r.prog s = some s) (run : ∀ w, RunM r q K as ts M loose lv w)
    (hdef : defOf q r.name = some (d, kwd)) (hp : r.prog.theDef r.name = some (d.params, d.body, d.scope)) (hk : kwWritten? d.params.kwonlyargs d.params.kw_defaults = some kwd)
    (hwr : (!r.writes || r.records.isEmpty) = true) (k1 : r.wellSaid = true) (ok : (chainsOk q && opensWell r.prog && (frees r.toRowW && r.within.isEmpty)) = true) (hb : r.prog.bare) (hw : r.toRowW.promised)
    (call : WalkO q loose (XL q lv) (kmHook K as pe ts).says r.toRowW d kwd fun f vs => PySem.call f vs) : r.Holds := by
  have ob : (fun s : SharedT => (as.map (getT s), ts.map (getT s))) = fun s => (kmHook K as pe ts).obs s.abs := funext fun s => Prod.ext (List.map_congr_left fun a _ => getT_eq s a) (List.map_congr_left fun a _ => getT_eq s a)
  have left : LeftO r.prog q loose (fun s => xlAt q lv s && recOk r.toRowW.records s) (kmHook K as pe ts).obs (kmHook K as pe ts).val (M + 600) true :=
    left_one (M := M) e (Nat.ble_eq_true_of_le (by omega)) f (Nat.ble_eq_true_of_le (by omega)) fun w os => by
      have z := run w os
      rw [show (fun s : SharedT => (looksF r.prog (boot_heap w.params) s.abs, seenQ q loose (importedModules r.prog.main.body) (fun s => xlAt q lv s && recOk r.toRowW.records s) s.abs, as.map (getT s), ts.map (getT s))) = fun s : SharedT => (looksF r.prog (boot_heap w.params) s.abs, seenQ q loose (importedModules r.prog.main.body) (fun s => xlAt q lv s && recOk r.toRowW.records s) s.abs, (kmHook K as pe ts).obs s.abs) from funext fun s => congrArg (fun t => (looksF r.prog (boot_heap w.params) s.abs, seenQ q loose (importedModules r.prog.main.body) (fun s => xlAt q lv s && recOk r.toRowW.records s) s.abs, t)) (congrFun ob s)] at z
      simp only [endQ_eq, seenQ_eq]
      exact z
  exact holds_open (r := r) (q := q) (loose := loose) (XP := XL q lv) (YP := (kmHook K as pe ts).says) (d := d) (kwd := kwd) left (kmHook K as pe ts).of (kmHook K as pe ts).keeps (fun s z => xl_of s (Bool.and_eq_true_iff.mp z).1) XL.keeps hdef hp hk (fun s z => recFacts_of (Bool.and_eq_true_iff.mp z).2) hwr k1 ok hb hw call
end FT


namespace FT
open PySem L2
/-- the i-th statement of the row's text -/
def top (i : Nat) : Stmt := PySem.Challenge.pw_flagtrees_k04_assignments.main.body.getD i (.Pass ⟨0, 0, 0, 0⟩)
abbrev s__wall : Stmt := top 0
abbrev s_InvalidForest___init__ : Stmt := inClass (top 3) 0
abbrev s_UnknownName___init__ : Stmt := inClass (top 4) 0
abbrev s_InvalidUsers___init__ : Stmt := inClass (top 5) 0
abbrev s_InvalidPlace___init__ : Stmt := inClass (top 6) 0
abbrev s_UnknownUser___init__ : Stmt := inClass (top 7) 0
abbrev s_Mismatch___init__ : Stmt := inClass (top 8) 0
abbrev s_is_name : Stmt := top 12
abbrev s_is_ancestor : Stmt := top 13
abbrev s_need_parents : Stmt := top 14
abbrev s_Forest___init__ : Stmt := inClass (top 15) 2
abbrev s_Forest___eq__ : Stmt := inClass (top 15) 3
abbrev s_Forest_flags : Stmt := inClass (top 15) 4
abbrev s_Forest_parents : Stmt := inClass (top 15) 5
abbrev s_Forest_text : Stmt := inClass (top 15) 6
abbrev s_Forest_children : Stmt := inClass (top 15) 7
abbrev s_Forest_path : Stmt := inClass (top 15) 8
abbrev s_Forest_under : Stmt := inClass (top 15) 9
abbrev s_Forest_distance : Stmt := inClass (top 15) 10
abbrev s_Forest_walk : Stmt := inClass (top 15) 11
abbrev s_Forest_parse : Stmt := inClass (top 15) 12
abbrev s_path_in : Stmt := top 16
abbrev s_need_place : Stmt := top 17
abbrev s_need_flag : Stmt := top 18
abbrev s_is_integer : Stmt := top 20
abbrev s_need_users : Stmt := top 21
abbrev s_sizes_of : Stmt := top 23
abbrev s_Assignment___init__ : Stmt := inClass (top 24) 1
abbrev s_Assignment___eq__ : Stmt := inClass (top 24) 2
abbrev s_Assignment_forest : Stmt := inClass (top 24) 3
abbrev s_Assignment_places : Stmt := inClass (top 24) 4
abbrev s_Assignment_total : Stmt := inClass (top 24) 5
abbrev s_Assignment_sizes : Stmt := inClass (top 24) 6
abbrev s_Assignment_flags_of : Stmt := inClass (top 24) 7
abbrev s_Assignment_has : Stmt := inClass (top 24) 8
abbrev s_Assignment_users_of : Stmt := inClass (top 24) 9
abbrev s_Assignment_at : Stmt := inClass (top 24) 10
abbrev s_Assignment_moved : Stmt := inClass (top 24) 11
abbrev s_Assignment_empty : Stmt := inClass (top 24) 12
abbrev s_need_user : Stmt := top 25
abbrev s__law_begin : Stmt := top 27
abbrev s__law_take : Stmt := top 28
abbrev s__law_pick : Stmt := top 29
abbrev s__law_order : Stmt := top 30
abbrev s__law_names : Stmt := top 31
abbrev s__law_parents : Stmt := top 32
abbrev s__law_path : Stmt := top 33
abbrev s__law_sizes : Stmt := top 34
abbrev s__law_residents : Stmt := top 35
abbrev s__law_spots : Stmt := top 36
abbrev s__law_counted : Stmt := top 37
abbrev s__law_every : Stmt := top 38
abbrev s__law_told : Stmt := top 39
abbrev s__law_due : Stmt := top 40
abbrev s__law_user_due : Stmt := top 41
abbrev s__law_name_due : Stmt := top 42
abbrev s__law_asked_right : Stmt := top 43
abbrev s__law_moved_right : Stmt := top 44
abbrev s__law_other_parents : Stmt := top 45
abbrev s__law_made_right : Stmt := top 46
abbrev s__law_empty_right : Stmt := top 47
abbrev s_law : Stmt := top 48
end FT


/-! Own: an exception class over ValueError called with one keyword, `C(name=value)`. The library's lemmas (HandSPX.call_own) say it for calls without keywords; these say it for one keyword. -/
namespace FX
open PySem PySem.W PySem.Calls PyProof.Rows PySem.HandSPX
section
variable {Mo : Model} {Ar : Around} {Er : Value → Shared → Prop} {he : Heap} {ge : Array GenState} {dr : Drawn} {tk : Nat} {os : OsState}
variable {nm qn : Str} {C N : Addr} {bs bm bmB : List Value} {hdct : Bool} {sn : List Str} {sub : List Value} {ab : Bool} {col : Option Bool} {dd : Option Addr} {k0 k1 k2 k3 k5 : Option Value} {B idN idI : String}
variable {kn : Str} {kv : Value} {more : List Value}
/-- the class object of an exception class, short -/
abbrev XO (nm qn : Str) (C N : Addr) (bs bm : List Value) (hdct : Bool) (sn : List Str) (sub : List Value) (ab : Bool) (col : Option Bool) (dd : Option Addr) (k0 k1 k2 k3 k5 : Option Value) (idN : String) : Obj :=
  excClassObj nm qn C N bs bm hdct sn sub ab col dd k0 k1 k2 k3 k5 idN
abbrev SameTy (bm bmB : List Value) : Prop := ∀ T : String, bm.contains (.type T) = bmB.contains (.type T)
end
section
variable {pg : Program} {w : World} {Ar : Around} {Er : Value → Shared → Prop} {Rs : Result → Shared → Prop} {he : Heap} {ge : Array GenState} {dr : Drawn} {tk : Nat} {os : OsState}
variable {nm qn : Str} {C N fI : Addr} {bs bm bmB : List Value} {hdct : Bool} {sn : List Str} {sub : List Value} {ab : Bool} {col : Option Bool} {dd : Option Addr} {k0 k1 k2 k3 k5 : Option Value} {B idN idI : String}
variable {kn : Str} {kv : Value} {more : List Value}
/-- the heap with the new exception -/
abbrev withX (he : Heap) (C : Addr) (more : List Value) : Heap := (he.push (W.kdv_tup more)).push (excO C he.objs.size)
end
end FX


namespace L2
open PySem PySem.Spec PyProof.Rows
/-- what the written part says of an own exception class over ValueError -/
structure XCls (K : PySem.W.Frag) (C : Addr) : Prop where
  cls : ∃ nm q N bs bm sn sub ab col dd k0 k1 k2 k3 k5, K.lookup C = some (excClassObj nm q C N bs bm true sn sub ab col dd k0 k1 k2 k3 k5 "ValueError.__new__") ∧ PySem.HandSPX.refsVE bm = true
  sa : PySem.W.findIn K (.ref C) "__setattr__" = some (some (.builtin "object.__setattr__"))
  exC : PySem.W.subIn K (.ref C) (.type "BaseException") = some true
  tyC : PySem.W.typeIn K (.ref C) = some (.type "type")
  kC : PySem.W.keepIn K (.ref C) = true
  ga : PySem.W.findIn K (.ref C) "__getattribute__" = some (some (.builtin "BaseException.__getattribute__"))
  gg : PySem.W.findIn K (.ref C) "__getattr__" = some none
  hdC : PySem.W.hasDictIn K C = true
  ha : PySem.W.findIn K (.ref C) "__class__" = some (some (.builtin "object.__class__"))
  hn : PySem.W.specialIn K (.builtin "object.__class__") "__get__" = some (some (.builtin "getset_descriptor.__get__"))
  ht : PySem.W.takesIn K (.builtin "object.__class__") = some true
  hm : PySem.W.mroIn K C (.type "object") = some true
theorem XCls.oex {K : PySem.W.Frag} {C : Addr} (c : XCls K C) : OexC K C := ⟨c.cls, c.sa, c.exC, c.tyC, c.kC⟩
/-- an exception object at a, by class and dict, its fields not told -/
def exg (a C : Addr) (d : Option Addr) : HO := .ext fun h => ∃ vs sl, h.get? a = some ({ cls := .ref C, dict := d, data := .fields vs, slots := sl } : Obj)
theorem exg_ok {P : Program} {w : World} {H : Hp} {h : Heap} {e C : Addr} {d : Option Addr} {vs : Array Value} {sl : Array (Option Value)} (he : h.get? e = some ({ cls := .ref C, dict := d, data := .fields vs, slots := sl } : Obj)) : ObjOk P w H h e (exg e C d) :=
  ⟨⟨vs, sl, he⟩, ⟨_, he⟩, fun h1 h2 z k => by
    obtain ⟨vs, sl, q⟩ := z
    exact ⟨vs, sl, k _ q⟩⟩
def XAt (H : Hp) (a C : Addr) (d : Option Addr) : Prop := H a = some (exo a C d) ∨ H a = some (exg a C d)
theorem XAt.obj {P : Program} {w : World} {H : Hp} {h : Heap} {a C : Addr} {d : Option Addr} (x : XAt H a C d) (hok : HOk P w H h) : ∃ ox vs, h.get? a = some ox ∧ ox.cls = .ref C ∧ ox.dict = d ∧ ox.data = .fields vs := by
  rcases x with e | e
  · obtain ⟨t1, q⟩ := exo_at hok e
    exact ⟨_, _, q, rfl, rfl, rfl⟩
  · have z : ObjOk P w H h a (.ext fun h => ∃ vs sl, h.get? a = some ({ cls := .ref C, dict := d, data := .fields vs, slots := sl } : Obj)) := hok a _ e
    obtain ⟨⟨vs, sl, q⟩, _⟩ := z
    exact ⟨_, vs, q, rfl, rfl, rfl⟩
def XD (H : Hp) (dx : Addr) (fs : List (Str × V)) : Prop := H dx = some (exd dx fs) ∨ H dx = some (.xd fs)
theorem XD.at {P : Program} {w : World} {H : Hp} {h : Heap} {dx : Addr} {fs : List (Str × V)} (x : XD H dx fs) (hok : HOk P w H h) : ∃ mA, h.Ns1 dx mA ∧ ∀ f, RelO (fs.lookup f) (mA f) := by
  rcases x with e | e
  · exact exd_at hok e
  · have z : ObjOk P w H h dx (.xd fs) := hok dx _ e
    exact z
/-- an exception of the class at C stands at a; its attributes are fs -/
def XV (H : Hp) (a C : Addr) (fs : List (Str × V)) : Prop := (XAt H a C none ∧ fs = []) ∨ ∃ dx, XAt H a C (some dx) ∧ XD H dx fs
theorem XV.inst {P : Program} {w : World} {H : Hp} {h : Heap} {a C : Addr} {fs : List (Str × V)} (x : XV H a C fs) (hok : HOk P w H h) : ∃ ox od, PySem.W.InstAt h a ox C od := by
  rcases x with ⟨x, _⟩ | ⟨dx, x, y⟩
  · obtain ⟨ox, vs, e1, e2, e3, e4⟩ := x.obj hok
    exact ⟨ox, none, e1, e2, by unfold PySem.W.notCls; rw [e4] <;> rfl, by rw [e3]; trivial⟩
  · obtain ⟨ox, vs, e1, e2, e3, e4⟩ := x.obj hok
    obtain ⟨mA, hn, hr⟩ := y.at hok
    obtain ⟨od, ho, hl⟩ := lookIn_ns hn
    exact ⟨ox, some od, e1, e2, by unfold PySem.W.notCls; rw [e4] <;> rfl, by rw [e3]; exact ho⟩
theorem XV.look {P : Program} {w : World} {H : Hp} {h : Heap} {a C : Addr} {fs : List (Str × V)} {f : Str} {v : V} (x : XV H a C fs) (hok : HOk P w H h) (hl : fs.lookup f = some v) :
    ∃ ox od u, PySem.W.InstAt h a ox C (some od) ∧ PySem.W.lookIn f od = some (some u) ∧ RelV v u := by
  rcases x with ⟨_, e⟩ | ⟨dx, x, y⟩
  · rw [e] at hl
    cases hl
  · obtain ⟨ox, vs, e1, e2, e3, e4⟩ := x.obj hok
    obtain ⟨mA, hn, hr⟩ := y.at hok
    obtain ⟨od, ho, hk⟩ := lookIn_ns hn
    obtain ⟨u, hu, ru⟩ := RelO.some_of (v := v) (o := mA f) (by rw [← hl]; exact hr f)
    exact ⟨ox, od, u, ⟨e1, e2, by unfold PySem.W.notCls; rw [e4] <;> rfl, by rw [e3]; exact ho⟩, by rw [hk, hu], ru⟩

section
variable {X : Cx}
/-- isinstance(e, c), e an exception of an own class -/
def rIsX (K : PySem.W.Frag) : List V → Hp → VK → Prop := fun xs H Q => ∃ (a C : Addr) (fs : List (Str × V)) (c : V) (u : Value) (b : Bool), xs = [.ref a, c] ∧ ClsV c u ∧ XCls K C ∧ XV H a C fs ∧ PySem.W.kitOne K (.ref C) u = some b ∧ Q (.bl b) H
theorem call_isX : CallR X (.builtin "isinstance") (rIsX X.K) := by
  intro pins s σ H xs us Q I r h
  obtain ⟨a, C, fs, c, u, b, rfl, k, T, xv, e, q⟩ := h
  obtain ⟨u1, u2, rfl, r1, r2⟩ := vals2 r
  have e2 := k.eq r2
  subst e2
  obtain rfl : u1 = Value.ref a := r1
  obtain ⟨ox, od, J⟩ := xv.inst I.hok
  have hcl : (PySem.W.clsIn X.K C).isSome = true := by
    obtain ⟨cd, hc, _⟩ := PySem.W.any_some T.hdC
    rw [hc] <;> rfl
  exact PySem.W.kia_one (PySem.W.kitx_exc hcl T.ga T.gg T.exC T.ha T.hn T.ht T.hm) I.kIn J e (fun z => nomatch z) fun tk => ⟨.bl b, H, I.tok tk, rfl, q⟩
/-- e.f -/
def tXFld (K : PySem.W.Frag) (te : TE) (f : Str) : TE := fun σ H Q => te σ H fun x H1 => ∃ (a C : Addr) (fs : List (Str × V)) (v : V), x = .ref a ∧ XV H1 a C fs ∧ XCls K C ∧ PySem.W.findIn K (.ref C) f = some none ∧ fs.lookup f = some v ∧ Q v H1
theorem pe_xfld {e : Expr} {te : TE} {pos : Pos} {n : Str} (he : PE X e te) (hb : attributeBase e n X.env (eval e X.env) = eval e X.env := by rfl) : PE X (.Attribute e n pos) (tXFld X.K te n) := by
  refine ⟨fun pins s σ H Q I h => ?_⟩
  refine attr_of hb (thn (he.run pins s σ H _ I h) fun u s1 hh => ?_)
  obtain ⟨x, H1, I1, rx, a, C, fs, v, ex, xv, T, hno, hl, q⟩ := hh
  subst ex
  obtain rfl : u = Value.ref a := rx
  obtain ⟨ox, od, u, J, hk, ru⟩ := xv.look I1.hok hl
  exact HandSPX.exc_get I1.kIn J T.ga T.gg T.exC (PySem.W.findObj_own T.hdC hno rfl hk) (handed_of ru) ⟨v, H1, I1.tok _, ru, q⟩
/-- R.__init__(self, ..), R an own class whose __init__ is ValueError's -/
structure XIni (K : PySem.W.Frag) (R : Addr) : Prop where
  rd : PySem.W.readsIn K R (.type "type") = true
  ga : PySem.W.specialIn K (.ref R) "__getattribute__" = some (some (.builtin "type.__getattribute__"))
  at_ : PySem.W.findCls K (.ref R) (.type "type") "__init__" = some (.val (.builtin "ValueError.__init__"))
theorem pe_clsinit {R : Addr} {rn : Str} {e : Expr} {es : List Expr} {ta : TA} {p1 p2 pos : Pos} {pl : Sem Bool} (T0 : XIni X.K R) (hg : Gl X rn) (hm : X.mg rn = some (.ref R)) (ha : PA X (e :: es) ta)
    (hdb : (rn == ("__debug__" : Str)) = false := by decide)
    (hc : eval (.Call (.Attribute (.Name rn p1) "__init__" p2) (e :: es) [] pos) X.env = (do
      let ov ← eval (.Name rn p1) X.env
      standAt p2.atName
      let (f, first) ← holding [ov] (getMethod ov "__init__" pl)
      callWith pos f first (backTo pos (starEach (e :: es) X.env)) (backToKw pos (keywordEach [] X.env))) := by rfl)
    (he : starEach (e :: es) X.env = (false, eval e X.env) :: starEach es X.env := by rfl) (hpl : (backTo pos (starEach es X.env)).any (·.1) = false := by rfl) :
    PE X (.Call (.Attribute (.Name rn p1) "__init__" p2) (e :: es) [] pos) (tVeI X.K ta) := by
  refine ⟨fun pins s σ H Q I h => ?_⟩
  refine PySem.W.methodCall_KW (ld_glob I hg hm ?_ hdb) hc
  refine PySem.W.method_cls I.kIn T0.ga (PySem.W.cls_value I.kIn T0.rd T0.at_ rfl ?_)
  show wpAny _ _ (callWith pos (Value.builtin "ValueError.__init__") [] (backTo pos (starEach (e :: es) X.env)) []) _ _ _
  refine PyProof.Rows.callWith_method1 (thn (ha.run pos pins _ σ H _ (I.tok _) h) fun us s1 ⟨vs, H1, I1, r1, a, C, ws, ev, hl, T, ea, q⟩ => ?_) he hpl
  subst ev
  cases r1 with
  | @cons _ u0 _ ur ra rw' =>
    obtain rfl : u0 = Value.ref a := ra
    have hlen : ur.length ≤ sizeLine := by
      rw [← Paired.length rw', sizeLine_eq]
      omega
    exact oinit_ok T I1 ea hlen fun s' J => ⟨.non, H1, J, rfl, q⟩

/-! ### C(..) as a value -/
variable {CX : CXT} {C fI : Addr} {k : Nat} {fd : FuncData} {ps : List Str} {sp : Sp} {ds : List Value} {dvs : List V} {E : XK}
/-- the state with a new exception of C laid, its arguments at the heap's end -/
theorem Inv.xnew {pins : List (Addr × Obj)} {σ : St} {H : Hp} {hp : Heap} {gn : Array GenState} {dr : Drawn} {tk : Nat} {os : OsState} (C : Addr) (us : List Value) (I : Inv X pins σ H ⟨hp, gn, dr, tk, os⟩) :
    H (hp.objs.size + 1) = none ∧ Inv X pins σ (upd H (hp.objs.size + 1) (exo (hp.objs.size + 1) C none)) ⟨FX.withX hp C us, gn, dr, tk, os⟩ := by
  have le : hp.objs.size ≤ hp.objs.size + 1 := Nat.le_succ _
  have at_ : (FX.withX hp C us).get? (hp.objs.size + 1) = some (PySem.HandSPX.excO C hp.objs.size) := by heap_get
  exact ⟨I.hok.fresh le, I.laid (t' := tk) (h' := FX.withX hp C us) (fun _ _ z => Heap.get?_push_of_some _ (Heap.get?_push_of_some _ z)) le (exo_ok at_)⟩
/-- C(e, ..) as a value; C's own __init__ keeps sp -/
def tMkX (C : Addr) (sp : Sp) (dvs : List V) (E : XK) (ta : TA) : TE := fun σ H Q => ta σ H fun vs H1 => vs.length ≤ 1000 ∧ ∀ a, H1 a = none → sp (.ref a :: (vs ++ dvs)) (upd H1 a (exo a C none)) (fun v H2 => v = .non ∧ Q (.ref a) H2) E
def tMkXK (C : Addr) (sp : Sp) (gV : List V → List V → List V) (E : XK) (te : TE) : TE := fun σ H Q => te σ H fun v H1 => ∀ a, H1 a = none → sp (gV [.ref a] [v]) (upd H1 a (exo a C none)) (fun v H2 => v = .non ∧ Q (.ref a) H2) E
variable {x : Str} {e : Expr} {es : List Expr} {ta : TA} {te : TE} {p pos kpos : Pos}
end
end L2


/-! y = {k: v for ..}, y a local; an expression whose answer is locked -/
namespace L2
open PySem PySem.Spec PyProof.Rows
section
variable {X : Cx} {i : Nat} {y : Str} {py : Pos} {kx vx tg iter : Expr} {ifs : List Expr} {scope : Scope} {own : List (Str × Nat)} {pos spos : Pos} {wi : TI} {g : TG} {tt : TT} {tk tv : TE}
/-- e, its answer locked from then on -/
def tLk (te : TE) : TE := fun σ H Q => te σ H fun x H1 => ∃ d u, x = .ref d ∧ H1 d = some u ∧ Mut (some u) ∧ ∀ od, Q (.ref d) (upd H1 d (.frz od u))
end
end L2


/-! try: .. except C as n: .., the caught exception known behind the try -/
namespace L2
open PySem PySem.Spec PyProof.Rows
section
variable {X : Cx} {pins : List (Addr × Obj)} {σ : St} {H : Hp} {s : Shared}
/-- an object that stands there is known from now on; the entry had none at its place -/
theorem Inv.known {a : Addr} {o : HO} (I : Inv X pins σ H s) (hn : H a = none) (h0 : X.s_0.heap.get? a = none) (hL : a ≠ X.env.locals) (h2 : ∀ x c, X.env.cells.lookup x = some c → c ≠ a) (h3 : ∀ p ∈ X.pn ++ pins, p.1 ≠ a)
    (new : ObjOk X.prog X.w (upd H a o) s.heap a o) : Inv X pins σ (upd H a o) s := by
  have nit : ∀ b u, H b = some u → b ≠ a := fun b u e z => by rw [z, hn] at e; cases e
  refine ⟨I.ok, I.os, I.bare, ⟨I.base.keep, I.base.slot, fun b o e n hx => ?_, I.base.there, fun b xs e => ?_, fun b o xs e => ?_, fun b ps e => ?_⟩, I.loc, I.cell, ?_, fun x c e => ?_, fun p hp => ?_, fun b u e => ?_, I.len⟩
  · rw [upd_ne (fun z => by rw [z, h0] at e; cases e)]
    exact I.base.free b o e n hx
  · have q := I.base.tups b xs e
    rw [upd_ne (nit b _ q)]
    exact q
  · have q := I.base.frzs b o xs e
    rw [upd_ne (nit b _ q)]
    exact q
  · obtain ⟨m, q⟩ := I.base.tbls b ps e
    exact ⟨m, by rw [upd_ne (nit b _ q)]; exact q⟩
  · rw [upd_ne (Ne.symm hL)]
    exact I.free
  · rw [upd_ne (h2 x c e)]
    exact I.freeC x c e
  · obtain ⟨e, n, r⟩ := I.pin p hp
    exact ⟨e, by rw [upd_ne (h3 p hp)]; exact n, r⟩
  · by_cases hb : b = a
    · subst hb
      rw [upd_same] at e
      cases e
      exact new
    · rw [upd_ne hb] at e
      exact (I.hok b u e).stay (fun c v hc q => q) (fun c q => by rw [upd_ne (nit c _ q)]; exact q) fun c _ q => by rw [upd_ne (nit c _ q)]; exact q
end
/-- what a landed exception is: its object, where it does not lie -/
structure Landed (X : Cx) (pins : List (Addr × Obj)) (σ : St) (H : Hp) (a C : Addr) (d : Option Addr) (h : Heap) (s : Shared) : Prop where
  inv : Inv X pins σ H { s with heap := h }
  obj : ∃ vs sl, h.get? a = some ({ cls := .ref C, dict := d, data := .fields vs, slots := sl } : Obj)
  free : H a = none
  entry : X.s_0.heap.get? a = none
  loc : a ≠ X.env.locals
  fs : a ∉ X.fs
  pin : ∀ p ∈ X.pn ++ pins, p.1 ≠ a
theorem Landed.of {X : Cx} {pins : List (Addr × Obj)} {σ : St} {H : Hp} {a C : Addr} {d : Option Addr} {h B : Heap} {s sI : Shared} (hs : X.stack = X.env :: X.outer) (hf : X.env.frame = some X.env.locals) (hex : X.ex = []) (J : Inv X pins σ H sI) (na : H a = none)
    (nb : ∀ b o, sI.heap.get? b = some o → b ∉ frs X.stack → B.get? b = some o) (hB : B.get? a = none) (ff : h.FunFrames B (X.env :: X.outer)) (there : ∃ oe vs, h.get? a = some oe ∧ Zc (.ref C) d oe ∧ oe.data = .fields vs) (K : Inv X pins σ H { s with heap := h }) : Landed X pins σ H a C d h s := by
  obtain ⟨⟨oc, od, odt, osl⟩, ws, at_, ⟨z1, z2⟩, z3⟩ := there
  have off : a ∉ frs (X.env :: X.outer) := fun hm => by
    obtain ⟨_, u, hu, plain⟩ := ff.mem hm
    rw [at_] at hu
    exact plain ws (by rw [← Option.some.inj hu]; exact z3)
  have out : sI.heap.get? a = none := by
    cases q : sI.heap.get? a with
    | none => rfl
    | some o => exact absurd (nb a o q (by rw [hs]; exact off)) (by rw [hB]; simp)
  refine ⟨K, ⟨ws, osl, ?_⟩, na, ?_, fun z => off (List.mem_filterMap.mpr ⟨X.env, .head _, by rw [hf, z]⟩), fun hm => ?_, fun p hp z => ?_⟩
  · dsimp only at z1 z2 z3
    rw [at_, z1, z2, z3]
  · cases q : X.s_0.heap.get? a with
    | none => rfl
    | some o =>
      obtain ⟨_, q2⟩ := J.base.there a o q (by rw [hex]; simp)
      rw [out] at q2
      cases q2
  · obtain ⟨e, m, q⟩ := List.mem_filterMap.mp hm
    exact off (List.mem_filterMap.mpr ⟨e, .tail _ m, q⟩)
  · have q := (J.pin p hp).1
    rw [z, out] at q
    cases q
/-- what is wanted of an exception in the try: as wAs, but behind the suite the exception is known -/
def wAsK (K : PySem.W.Frag) (c : Value) (i : Nat) (ts : Addr → Value → Option Addr → TS) (Wout : WX) (D : Ends) : WX := fun cls d σ H => ∃ b C, cls = Value.ref C ∧ PySem.W.exmOne K cls c = some b ∧
  (b = true → ∀ a, H a = none → ts a cls d ⟨fun σ' H' => D.nx (σ'.set i none) (upd H' a (exg a C d)), D.rt, fun σ' H' => D.bk (σ'.set i none) H', fun σ' H' => D.ct (σ'.set i none) H'⟩ (σ.set i (some (.ref a))) H) ∧ (b = false → Wout cls d σ H)
section
variable {X : Cx} {x n : Str} {c : Value} {i : Nat} {body suite : List Stmt} {st : Stmt} {np pos hpos : Pos} {tb : WX → TS} {ts : Addr → Value → Option Addr → TS} {Wout : WX}
/-- the end of such a suite -/
theorem keep_end {pins : List (Addr × Obj)} {σ σ6 : St} {H H6 : Hp} {a C : Addr} {d : Option Addr} {h : Heap} {s s6 : Shared} {oe : Obj} {Q : Shared → Prop} (L : Landed X pins σ H a C d h s) (eo : h.get? a = some oe) (hN : X.N.Nodup) (hi : X.N[i]? = some n) (hln : X.env.kindOf n = some .local)
    (S : Inv (X.suite a ((a, oe) :: (X.pn ++ pins))) [] σ6 H6 s6) (q : ∀ s7, Inv X pins (σ6.set i none) (upd H6 a (exg a C d)) s7 → Q s7) : wpAny (model X.prog X.w) X.A (do bindName X.env n .none; unbindBehindTheSuite X.env n hpos) (fun _ s7 => Q s7) X.xe s6 := by
  obtain ⟨p1, p2, _⟩ := S.pin (a, oe) (List.mem_append_left _ (.head _))
  obtain ⟨ws, sl, e0⟩ := L.obj
  rw [eo] at e0
  have p3 : s6.heap.get? a = some oe := p1
  rw [Option.some.inj e0] at p3
  have U := S.unsuite L.inv.ok
  refine gone_ok (U.known (o := exg a C d) p2 L.entry L.loc (fun y k e z => ?_) L.pin (exg_ok p3)) hN hi hln q
  obtain ⟨_, _, w1, w2⟩ := U.cell y k e
  rw [z, p3] at w1
  rw [← Option.some.inj w1] at w2
  cases w2
/-- try: body / except x as n: suite -/
theorem ps_try_keep (hs : X.stack = X.env :: X.outer) (hf : X.env.frame = some X.env.locals) (hex : X.ex = []) (hN : X.N.Nodup) (hi : X.N[i]? = some n) (hln : X.env.kindOf n = some .local) (hc : Names X x c) (tk : Takes X Wout)
    (hb : ∀ (W : WX) (pn : List (Addr × Obj)) (xe : Value → Shared → Prop), Takes (X.tr pn xe) W → PassesOwn (model X.prog X.w) X.A X.env xe → PSs (X.tr pn xe) body (tb W))
    (hsu : ∀ (a : Addr) (oe : Obj) (cls : Value) (d : Option Addr) (pn : List (Addr × Obj)), Zc cls d oe → (∃ vs, oe.data = .fields vs) → PSs (X.suite a ((a, oe) :: pn)) (st :: suite) (ts a cls d)) :
    PS X (.Try body [.ExceptHandler (some (.Name x np)) (some n) (st :: suite) hpos] [] [] pos) (fun D σ H => tb (wAsK X.K c i ts Wout D) D σ H) := by
  constructor
  intro pins s σ H D I h
  refine wpAny_Try_except (wpAny_mono ((hb (wAsK X.K c i ts Wout D) (X.pn ++ pins) (fun e t1 => wpAny (model X.prog X.w) X.A (noteFrame e X.env) (fun _ t2 => wpAny (model X.prog X.w) X.A (setFlight e none) (fun _ t3 =>
    wpAny (model X.prog X.w) X.A (handleBy e X.env [.ExceptHandler (some (.Name x np)) (some n) (st :: suite) hpos]) (SP X pins D) X.xe t3) X.xe t2) X.xe t1) (fun u s' air => ?_) PassesOwn.looking).run [] s σ H D (I.toTry _) h) (fun f t1 ok => ?_) fun _ _ z => z)
  case refine_2 =>
    cases f with
    | next => exact let ⟨σ1, H1, K, q⟩ := ok; wpAny_execs_nil ⟨σ1, H1, K.ofTry I.ok, q⟩
    | brk => exact let ⟨σ1, H1, K, q⟩ := ok; ⟨σ1, H1, K.ofTry I.ok, q⟩
    | cont => exact let ⟨σ1, H1, K, q⟩ := ok; ⟨σ1, H1, K.ofTry I.ok, q⟩
    | ret u => exact let ⟨v, σ1, H1, K, rv, q⟩ := ok; ⟨v, σ1, H1, K.ofTry I.ok, rv, q⟩
  case refine_1 =>
    obtain ⟨a, B, sI, pins', σ', H', cls, d, rfl, J', nb, up, sky, na, os, ag, b, C, rfl, mb, yes, no⟩ := air
    have J := J'.ofTry I.ok
    rw [hs] at sky
    have hfr : X.A.frames = some (X.env :: X.outer) := I.ok.frames.trans (congrArg some hs)
    show wpAny (model X.prog X.w) X.A (noteFrame (.ref a) X.env) _ _ _
    refine Sky.land Zc.steady hfr hf sky fun hA flA upA => ?_
    have KA : Inv X pins σ' H' { s' with heap := hA } := J.landed nb flA.1 (up.trans upA) os ag
    obtain ⟨oA, wA, atA, zA, dA⟩ := flA.there
    have LA := Landed.of (s := s') hs hf hex J na nb flA.2.1 flA.2.2.1 ⟨oA, wA, atA, zA, dA⟩ KA
    have SA := KA.suite atA dA na LA.loc LA.fs
    refine wpAny_handleBy_cons (codeAny_handlers_test ?_) fun z => by cases z
    have ty : PySem.W.Looks (model X.prog X.w) hA (typeOf (.ref a)) (.ref C) := fun _ _ _ _ kk q => wpAny_typeOf_ref (kk _ _ atA) (by rw [zA.1]; exact q)
    have mk := PySem.W.exm_one (M := model X.prog X.w) KA.kIn ty mb
    have named : ∀ {Q E : Value → Shared → Prop}, Q c { s' with heap := hA } → wpAny (model X.prog X.w) (X.A.mark (some (.ref a))) (eval (.Name x np) X.env) Q E { s' with heap := hA } := fun q => by
      obtain ⟨g, gd, e | ⟨e, bt, nn⟩⟩ := hc
      · exact ld_glob SA g e q gd
      · exact ld_blt SA g e bt q nn gd
    refine named (mk.here ?_)
    match b, yes, no with
    | true, yes, _ =>
      refine codeAny_handlers_suite_as (HandSPX.lands_againZ flA fun hC flC upC => ?_)
      have KC : Inv X pins σ' H' { s' with heap := hC } := J.landed nb flC.1 ((up.trans upA).trans upC) os ag
      obtain ⟨oC, wC, atC, zC, dC⟩ := flC.there
      have LC := Landed.of (s := s') hs hf hex J na nb flC.2.1 flC.2.2.1 ⟨oC, wC, atC, zC, dC⟩ KC
      refine store_ok (X := X.suite a ((a, oC) :: (X.pn ++ pins))) (v := .ref a) (KC.suite atC dC na LC.loc LC.fs) hN hi (.inl hln) rfl (fun t5 S5 => ?_) (.inr hln)
      refine wpAny_mono ((hsu a oC _ d (X.pn ++ pins) zC ⟨_, dC⟩).run [] t5 _ H' _ S5 (yes rfl a na)) (fun f t6 e6 => ?_) fun _ _ z => z.elim
      have plain : ∀ {σ6 : St} {H6 : Hp} {Q : Shared → Prop}, Inv (X.suite a ((a, oC) :: (X.pn ++ pins))) [] σ6 H6 t6 → (∀ t7, Inv X pins (σ6.set i none) H6 t7 → Q t7) → wpAny (model X.prog X.w) X.A (do bindName X.env n .none; unbindBehindTheSuite X.env n hpos) (fun _ t7 => Q t7) X.xe t6 :=
        fun S q => gone_ok (S.unsuite I.ok) hN hi hln q
      cases f with
      | next => exact let ⟨σ6, H6, S6, q6⟩ := e6; keep_end LC atC hN hi hln S6 fun t7 K7 => ⟨_, _, K7, q6⟩
      | brk => exact let ⟨σ6, H6, S6, q6⟩ := e6; plain S6 fun t7 K7 => ⟨_, _, K7, q6⟩
      | cont => exact let ⟨σ6, H6, S6, q6⟩ := e6; plain S6 fun t7 K7 => ⟨_, _, K7, q6⟩
      | ret u => exact let ⟨v6, σ6, H6, S6, r6, q6⟩ := e6; plain S6 fun t7 K7 => ⟨_, _, _, K7, r6, q6⟩
    | false, _, no =>
      show wpAny _ X.A (handleBy (.ref a) X.env []) _ _ _
      refine wpAny_handleBy_nil ?_
      obtain ⟨oe, vs, tb1, _, _, e1, _, e2, e3, _⟩ := flA.2.2.2
      unfold PySem.passOn
      refine wpAny_bind (wpAny_field e1 e2 e3 ?_)
      rw [if_neg (by simp)]
      have fly : wpAny (model X.prog X.w) X.A (setFlight (.ref a) X.env.frame) (fun _ t4 => wpAny (model X.prog X.w) X.A (throw (.ref a) : Sem Flow) (SP X pins D) X.xe t4) X.xe { s' with heap := hA } := by
        rw [hf]
        exact HandSPX.setFlight_upZ flA fun hD held upD => wpAny_throw (tk _ _ ⟨a, B, sI, pins, σ', H', .ref C, d, rfl, J, nb, (up.trans upA).trans upD, .inr (.inr (by rw [hs]; exact held)), na, os, ag, no rfl⟩)
      first | exact wpAny_bind (wpAny_pure (wpAny_bind fly)) | exact wpAny_bind fly
end
end L2


/-! raise C(..) where C's own __init__ writes no attribute -/
namespace L2
open PySem PySem.Spec PyProof.Rows
section
variable {X : Cx} {o e : Expr} {es : List Expr} {to te : TE} {ta : TA} {f : Str} {p p' p1 p2 pos : Pos}
/-- C(e, ..), C's own __init__ keeping sp; no attribute is written -/
def tMkO0 (C : Addr) (sp : Sp) (dvs : List V) (ta : TA) : St → Hp → XK → Prop := fun σ H Q => ta σ H fun vs H1 => vs.length ≤ 1000 ∧ ∀ a, H1 a = none → sp (.ref a :: (vs ++ dvs)) (upd H1 a (exo a C none))
  (fun v H2 => v = .non ∧ H2 a = some (exo a C none) ∧ Q (.ref C) none (del H2 a)) (fun _ _ _ => False)
/-- the new exception is let go -/
theorem mk_gone {pins : List (Addr × Obj)} {σ : St} {H1 H2 : Hp} {hp hp2 h2 : Heap} {g1 g2 : Array GenState} {d1 d2 : Drawn} {t1 t2 : Nat} {os1 os2 : OsState} {a C : Addr} (I1 : Inv X pins σ H1 ⟨hp, g1, d1, t1, os1⟩) (young : hp.objs.size ≤ a)
    (k : ∀ b o, hp.get? b = some o → hp2.get? b = some o) (un : Un (frs X.stack) [] (upd H1 a (exo a C none)) H2 hp2 h2) (hok : HOk X.prog X.w H2 h2) (ho : os2 = os1) (hb : AllBare g2) (ea : H2 a = some (exo a C none)) :
    ∃ (t0 : Addr) (G : Heap), Inv X pins σ (del H2 a) ⟨G, g2, d2, t2, os2⟩ ∧ (∀ b o, G.get? b = some o → h2.get? b = some o) ∧ G.get? a = none ∧ h2.get? a = some ({ cls := .ref C, dict := none, data := .fields #[.ref t0, .none, .none, .none, .bool false, .none] } : Obj) ∧ del H2 a a = none := by
  obtain ⟨t0, at2⟩ := exo_at hok ea
  have n1 : H1 a = none := I1.hok.fresh young
  obtain ⟨G, in_, out⟩ := restrict h2 fun b => decide (b ≠ a)
  have other : ∀ b, b ≠ a → G.get? b = h2.get? b := fun b nb => in_ b (decide_eq_true nb)
  have gone : G.get? a = none := out a (by simp)
  have old : ∀ {b : Addr} {o : Obj}, hp.get? b = some o → b ≠ a := fun z => Nat.ne_of_lt (Nat.lt_of_lt_of_le (Heap.lt_size z) young)
  have low : ∀ {b : Addr}, b ≠ a → H1 b = none → upd H1 a (exo a C none) b = none := fun nb n => (upd_ne nb).trans n
  have high : ∀ {b : Addr} {u : HO}, H1 b = some u → upd H1 a (exo a C none) b = some u ∧ b ≠ a := fun z => ⟨(upd_ne (ne_of_none z n1)).trans z, ne_of_none z n1⟩
  have U : Un (frs X.stack) [] H1 (del H2 a) hp G := by
    refine ⟨fun b o z n hf hx => (other b (old z)).trans (un.keep b o (k b o z) (low (old z) n) hf hx), fun b o z n hf hx => ?_, fun b o z n hx => (del_ne (old z)).trans (un.free b o (k b o z) (low (old z) n) hx), fun b o z hx => ?_, fun b xs z => (del_ne (high z).2).trans (un.tups b xs (high z).1),
      fun b o v z => (del_ne (high z).2).trans (un.frzs b o v (high z).1), fun b ps z => ?_⟩
    · obtain ⟨sl, q⟩ := un.slot b o (k b o z) (low (old z) n) hf hx
      exact ⟨sl, (other b (old z)).trans q⟩
    · obtain ⟨o', q⟩ := un.there b o (k b o z) hx
      exact ⟨o', (other b (old z)).trans q⟩
    · obtain ⟨m, q⟩ := un.tbls b ps (high z).1
      exact ⟨m, (del_ne (high z).2).trans q⟩
  have held : HOk X.prog X.w (del H2 a) G := fun b o z => by
    have nb : b ≠ a := fun e => by
      rw [e, del_same] at z
      cases z
    rw [del_ne nb] at z
    refine (hok b o z).stay (fun c v hc y => ?_) (fun c hc => (del_ne (at_ne ea hc exo_own)).trans hc) fun c xs hc => (del_ne (at_ne ea hc exo_tup)).trans hc
    refine (other c ?_).trans y
    rcases hc with rfl | hc
    · exact nb
    · exact at_ne ea hc exo_own
  refine ⟨t0, G, I1.call' (ch := []) ho U held hb (fun b z => absurd z (by simp)), fun b o z => ?_, gone, at2, del_same⟩
  by_cases nb : b = a
  · rw [nb, gone] at z
    cases z
  · exact (other b nb).symm.trans z
variable {CX : CXT} {x : Str} {C fI : Addr} {k : Nat} {fd : FuncData} {ps : List Str} {sp : Sp} {ds : List Value} {dvs : List V}
theorem run_mk0 {pins : List (Addr × Obj)} {σ : St} {H1 : Hp} {s : Shared} {Q : XK} {us : List Value} {vs : List V} (T : OexC X.K C) (iC : PySem.W.findIn X.K (.ref C) "__init__" = some (some (.ref fI))) (tI : PySem.W.typeIn X.K (.ref fI) = some (.type "function"))
    (F1 : FnOk X.prog X.w X.K X.mg X.base CX k fI fd ps sp) (hr : Room (k + 1) X.A) (hb : Binds X.K fd ps ds) (hd : Vals dvs ds) (hx : Passes CX X (fun _ _ _ => False)) (I1 : Inv X pins σ H1 s) (r1 : Vals vs us) (hz : vs.length ≤ 1000)
    (q1 : ∀ a, H1 a = none → sp (.ref a :: (vs ++ dvs)) (upd H1 a (exo a C none)) (fun v H2 => v = .non ∧ H2 a = some (exo a C none) ∧ Q (.ref C) none (del H2 a)) (fun _ _ _ => False)) :
    wpAny (model X.prog X.w) X.A (call (.ref C) us) (MkP X pins σ Q) X.xe s := by
  obtain ⟨_, _, _, _, bm, _, _, _, _, _, _, _, _, _, _, oC, tail⟩ := T.cls
  obtain ⟨hp, gn, dr, tk, os⟩ := s
  obtain ⟨new, J⟩ := Inv.xnew C us I1
  have want := q1 _ new
  have rel : Vals (V.ref (hp.objs.size + 1) :: (vs ++ dvs)) (Value.ref (hp.objs.size + 1) :: (us ++ ds)) := .cons rfl (r1.append hd)
  have len : (Value.ref (hp.objs.size + 1) :: us ++ ds).length = ps.length := rel.length.symm.trans (F1.len _ _ _ _ want)
  have few : us.length ≤ sizeLine := by
    have := r1.length
    rw [sizeLine_eq]; omega
  have go := F1.run _ X.stack _ _ ⟨Value.ref (hp.objs.size + 1) :: us, []⟩ (Value.ref (hp.objs.size + 1) :: (us ++ ds)) _ _ (fun _ _ _ => False) (hr.make C us []) (J.env0.make C us []) (hb _ (Value.ref (hp.objs.size + 1) :: us) J.kIn len) rel want
  refine wpAny_call (PySem.HandSPX.call_own F.excBase_ValueError (fun Y => PySem.HandSPX.refsVE_contains Y bm tail) (I1.kIn _ _ oC) (PySem.W.looks_findIn I1.kIn iC) (fun me => PySem.W.bind_fn I1.kIn me tI) few (codeAny_mono go fun r z q => ?_))
  match r, q with
  | .error er, q => exact hx pins σ _ _ er z J q
  | .ok (.ret u), q =>
    obtain ⟨v, H2, os2, bare2, un2, hok2, rv, ev, ea, q2⟩ := q
    subst ev
    obtain ⟨h2, g2, d2, t2, os'⟩ := z
    have up : ∀ b o, hp.get? b = some o → (FX.withX hp C us).get? b = some o := fun b o e => Heap.get?_push_of_some _ (Heap.get?_push_of_some _ e)
    obtain ⟨t0, G, JG, kG, gG, oG, nG⟩ := mk_gone (d2 := d2) (t2 := t2) I1 (Nat.le_succ _) up un2 hok2 os2 bare2 ea
    exact ⟨rv, _, _, _, ⟨G, g2, d2, t2, os'⟩, _, .ref C, none, rfl, JG, kG, gG, oG, ⟨rfl, rfl⟩, rfl, rfl, nG, rfl, bare2, raises_own T.exC T.tyC, q2⟩
  | .ok .next, q => exact q.elim
  | .ok .brk, q => exact q.elim
  | .ok .cont, q => exact q.elim
/-- C() -/
theorem pmk_none (T : OexC X.K C) (iC : PySem.W.findIn X.K (.ref C) "__init__" = some (some (.ref fI))) (tI : PySem.W.typeIn X.K (.ref fI) = some (.type "function"))
    (F1 : FnOk X.prog X.w X.K X.mg X.base CX k fI fd ps sp) (hr : Room (k + 1) X.A) (hb : Binds X.K fd ps ds) (hd : Vals dvs ds) (hx : Passes CX X (fun _ _ _ => False)) (hg : Gl X x) (hm : X.mg x = some (.ref C)) (hdb : (x == ("__debug__" : Str)) = false := by decide) :
    PMk X (.Call (.Name x p) [] [] pos) (tMkO0 C sp dvs tNil) := by
  intro pins s σ H Q I h
  refine wpAny_Call_Name_kw (ld_glob I hg hm ?_ hdb)
  exact PySem.W.callWith_K0 I.kIn T.kC (run_mk0 (us := []) T iC tI F1 hr hb hd hx I .nil h.1 h.2)
end
end L2


/-! sorted(a dict of texts, key=a lambda of one parameter that gives (int, text)) -/
namespace SrtKy
open PySem PyProof.Rows Srt SrtO
/-- a tuple of a number and a text -/
def IsIS (h : Heap) (v : Value) (x : Int) (z : Str) : Prop := ∃ a o t u n, v = .ref a ∧ h.get? a = some o ∧ o.cls = .type "tuple" ∧ o.data = .seq #[.int x t, .str z u] n
theorem IsIS.keeps {h h' : Heap} {v : Value} {x : Int} {z : Str} (p : IsIS h v x z) (k : ∀ b o, h.get? b = some o → o.cls = .type "tuple" → h'.get? b = some o) : IsIS h' v x z := by
  obtain ⟨a, o, t, u, n, e, ho, hc, hd⟩ := p
  exact ⟨a, o, t, u, n, e, k _ _ ho hc, hc, hd⟩
def isLt (p q : Int × Str) : Bool := if p.1 = q.1 then decide (p.2.cps.toList < q.2.cps.toList) else decide (p.1 < q.1)
theorem isLt_iff {p q : Int × Str} : isLt p q = true ↔ p.1 < q.1 ∨ (p.1 = q.1 ∧ p.2.cps.toList < q.2.cps.toList) := by
  unfold isLt
  by_cases e : p.1 = q.1
  · rw [if_pos e, decide_eq_true_eq]
    constructor
    · exact fun h => .inr ⟨e, h⟩
    · rintro (h | h)
      · omega
      · exact h.2
  · rw [if_neg e, decide_eq_true_eq]
    constructor
    · exact .inl
    · rintro (h | h)
      · exact h
      · exact absurd h.1 e
theorem isLt_no {p q : Int × Str} : isLt p q = false ↔ q.1 < p.1 ∨ (p.1 = q.1 ∧ q.2.cps.toList ≤ p.2.cps.toList) := by
  unfold isLt
  by_cases e : p.1 = q.1
  · rw [if_pos e, decide_eq_false_iff_not, List.not_lt]
    constructor
    · exact fun h => .inr ⟨e, h⟩
    · rintro (h | h)
      · omega
      · exact h.2
  · rw [if_neg e, decide_eq_false_iff_not]
    constructor
    · exact fun h => .inl (by omega)
    · rintro (h | h)
      · omega
      · exact absurd h.1 e
theorem swo_is {α : Type} (k : α → Int × Str) : Swo fun v u => isLt (k v) (k u) := by
  refine ⟨fun x y h => ?_, fun x y z h1 h2 => ?_⟩
  · refine isLt_no.mpr ?_
    rcases isLt_iff.mp h with h | ⟨e, h⟩
    · exact .inl h
    · exact .inr ⟨e.symm, List.le_of_lt h⟩
  · refine isLt_no.mpr ?_
    rcases isLt_no.mp h1 with a | ⟨a, a'⟩ <;> rcases isLt_no.mp h2 with b | ⟨b, b'⟩
    · exact .inl (by omega)
    · exact .inl (by omega)
    · exact .inl (by omega)
    · exact .inr ⟨by omega, List.le_trans a' b'⟩
section
variable {prog : Program} {w : World} {s : Shared} {A : Around} {E : Value → Shared → Prop}
/-- two such tuples compare as isLt says -/
theorem is_lt {a1 a2 : Addr} {o1 o2 : Obj} {x1 x2 : Int} {z1 z2 : Str} {t1 t2 u1 u2 : Tok} {n1 n2 : Nat} (g1 : s.heap.get? a1 = some o1) (d1 : o1.data = .seq #[.int x1 t1, .str z1 u1] n1) (g2 : s.heap.get? a2 = some o2) (d2 : o2.data = .seq #[.int x2 t2, .str z2 u2] n2) :
    wpAny (model prog w) A (keyLt' (tuples' true) (.ref a1) (.ref a2)) (fun r s' => s' = s ∧ r = isLt (x1, z1) (x2, z2)) (fun _ _ => False) s := by
  refine PySem.W.kat_lt g1 d1 g2 d2 ?_
  show PySem.W.KatLex prog w A true (decide (2 < 2)) _ [(.int x1 t1, .int x2 t2), (.str z1 u1, .str z2 u2)] 0 s
  refine PySem.W.kat_cons (SeqAt.EqAt.int_int x1 t1 x2 t2 prog w _ _ (PySem.W.kat_go (fun y1 => ?_) fun y1 => ?_))
  · have e1 : x1 = x2 := of_decide_eq_true (by simpa using y1)
    refine PySem.W.kat_yes (PySem.W.kat_cons (SeqAt.EqAt.str_str z1 u1 z2 u2 prog w _ _ (PySem.W.kat_go (fun y2 => ?_) fun y2 => ?_)))
    · have e2 : z1 = z2 := of_decide_eq_true (by simpa using y2)
      subst e1 e2
      exact PySem.W.kat_yes (PySem.W.kat_nil ⟨rfl, ((swo_is id).refl (x1, z1)).symm⟩)
    · exact PySem.W.kat_no (PySem.W.kat_one _ _ (PyProof.Rows.lt_str ⟨rfl, (if_pos (c := (x1, z1).1 = (x2, z2).1) e1).symm⟩))
  · have e1 : ¬ x1 = x2 := fun e => by
      subst e
      simp at y1
    exact PySem.W.kat_no (oneLt_int ⟨rfl, (if_neg (c := (x1, z1).1 = (x2, z2).1) e1).symm⟩)
theorem is_cmp {keys : List Value} {k : Value → Int × Str} (hp : ∀ v ∈ keys, IsIS s.heap v (k v).1 (k v).2) : Cmp prog w A s (tuples' true) (fun p => p.1 ∈ keys) (fun p q => isLt (k p.1) (k q.1)) := by
  rintro ⟨v1, w1⟩ ⟨v2, w2⟩ m1 m2
  obtain ⟨a1, o1, t1, u1, n1, e1, g1, _, d1⟩ := hp v1 m1
  obtain ⟨a2, o2, t2, u2, n2, e2, g2, _, d2⟩ := hp v2 m2
  have q := is_lt (prog := prog) (w := w) (A := A) (s := s) g1 d1 g2 d2
  rw [← e1, ← e2] at q
  exact q
theorem is_firsts {h : Heap} (keys : List Value) (hp : ∀ v ∈ keys, ∃ x z, IsIS h v x z) : ∃ fs : List Value, PySem.W.KatTups h keys fs ∧ fs.length = keys.length ∧ ∀ f ∈ fs, ∃ x t, f = Value.int x t := by
  induction keys with
  | nil => exact ⟨[], .nil, rfl, fun _ m => nomatch m⟩
  | cons v keys ih =>
    obtain ⟨fs, i1, i2, i3⟩ := ih fun u m => hp u (.tail _ m)
    obtain ⟨x, z, a, o, t, u, n, rfl, g, c, d⟩ := hp v (.head _)
    exact ⟨.int x t :: fs, .cons g c d rfl i1, congrArg Nat.succ i2, fun f m => (List.mem_cons.mp m).elim (fun e => ⟨x, t, e⟩) (i3 f)⟩
theorem is_kind {keys : List Value} {k : Value → Int × Str} {Q : SortKind → Shared → Prop} (some_ : 0 < keys.length) (hp : ∀ v ∈ keys, IsIS s.heap v (k v).1 (k v).2) (q : Q (tuples' true) s) : wpAny (model prog w) A (keyKind' keys.toArray) Q E s := by
  obtain ⟨fs, i1, i2, i3⟩ := is_firsts keys fun v m => ⟨_, _, hp v m⟩
  have differ : (Value.type "int" != Value.type "tuple") = true := by decide +kernel
  refine PySem.W.kat_kind (T := .type "int") i1 (by omega) (fun f m => ?_) rfl (by rw [differ]; exact q)
  obtain ⟨x, t, rfl⟩ := i3 f m
  exact PySem.W.Looks.now
/-- the sort itself: the keys stand in the store at kS, the list at a is empty -/
theorem key_end {a kS : Addr} {keys vs : List Value} {e e1 : Nat} {k : Value → Int × Str} {P : PySem.Fin → Shared → Prop} (hk : s.heap.get? kS = some (seqObj "list" keys.toArray e)) (ha : s.heap.get? a = some (seqObj "list" #[] e1)) (ne : kS ≠ a)
    (hl : keys.length = vs.length) (hz : vs.length ≤ sizeLine) (hp : ∀ v ∈ keys, IsIS s.heap v (k v).1 (k v).2)
    (h : ∀ (h' : Heap) (out : List (Value × Value)) (c : Nat), out.Perm (keys.zip vs) → out.Pairwise (fun p q => isLt (k q.1) (k p.1) = false) → (∀ b o, b ≠ kS → b ≠ a → s.heap.get? b = some o → h'.get? b = some o) →
      h'.get? a = some (seqObj "list" (out.map (·.2)).toArray c) → (∃ c', h'.get? kS = some (seqObj "list" #[] c')) → P (.done (.ret .none)) { s with heap := h' }) :
    wpAny (model prog w) A (ksk_end a false vs.toArray e1 (.ref kS) keys.toArray) P E s := by
  have ezip : (keys.toArray.zip vs.toArray).toList = keys.zip vs := by
    rw [ksk_zip, List.toList_toArray]
  have lz : (keys.zip vs).length = vs.length := by rw [List.length_zip, hl, Nat.min_self]
  have tail : ∀ st : SortSt, Srtd (fun p q : Keyed => isLt (k p.1) (k q.1)) (arrOf st).toList → Stb (fun p q : Keyed => isLt (k p.1) (k q.1)) (arrOf st).toList (keys.zip vs) → failedOf st = none →
      wpAny (model prog w) A (ksk_tail a false e1 (.ref kS) st) P E s := by
    intro st hs hb hf
    have hpm : (arrOf st).toList.Perm (keys.zip vs) := hb.perm
    have ls : ((arrOf st).map (·.2)).size = vs.length := by
      rw [Array.size_map, ← Array.length_toList, hpm.length_eq, lz]
    unfold ksk_tail
    try dsimp only
    refine wpAny_bind (listUpdate_at hk rfl ?_ (by rw [List.size_toArray, hl]; exact hz) (Nat.zero_le _))
    refine wpAny_bind (wpAny_letGo ?_)
    have ha1 : (s.heap.update kS (Obj.mapSeq fun _ => (#[] : Array Value))).get? a = some (seqObj "list" #[] e1) := ((Heap.SameBut.update s.heap kS _).2 a ne.symm).trans ha
    obtain ⟨c1, hk1⟩ : ∃ c1, (s.heap.update kS (Obj.mapSeq fun _ => (#[] : Array Value))).get? kS = some (seqObj "list" #[] c1) := ⟨_, get?_update_seq hk fun _ => #[]⟩
    refine wpAny_bind (seqEpoch_at ha1 rfl ?_)
    refine wpAny_bind (listUpdate_at ha1 rfl ?_ (Nat.zero_le _) (by show ((arrOf st).map (·.2)).size ≤ _; omega))
    rw [hf]
    simp only [bne_self_eq_false, Bool.false_eq_true, if_false]
    have s2 := Heap.SameBut.update (s.heap.update kS (Obj.mapSeq fun _ => (#[] : Array Value))) a (Obj.mapSeq fun _ => (arrOf st).map (·.2))
    obtain ⟨c2, hc2⟩ : ∃ c2, ((s.heap.update kS (Obj.mapSeq fun _ => (#[] : Array Value))).update a (Obj.mapSeq fun _ => (arrOf st).map (·.2))).get? a = some (seqObj "list" ((arrOf st).map (·.2)) c2) := ⟨_, get?_update_seq ha1 fun _ => (arrOf st).map (·.2)⟩
    have eo : (((arrOf st).toList.map (·.2)).toArray : Array Value) = (arrOf st).map (·.2) := by
      apply Array.ext'
      rw [List.toList_toArray, Array.toList_map]
    refine wpAny_pure (h _ (arrOf st).toList c2 hpm hs (fun b o n1 n2 q => (s2.2 b n2).trans (((Heap.SameBut.update s.heap kS _).2 b n1).trans q)) (by rw [eo]; exact hc2) ⟨c1, (s2.2 kS ne).trans hk1⟩)
  unfold ksk_end
  try dsimp only
  simp only [Bool.false_eq_true, if_false]
  by_cases h2 : vs.toArray.size < 2
  · rw [if_pos h2, if_pos h2]
    refine wpAny_bind (wpAny_pure ?_)
    rw [StateT.run_pure]
    refine wpAny_bind (wpAny_pure ?_)
    try dsimp only
    refine tail (SortSt.mk' general' (keys.toArray.zip vs.toArray) #[] 7 none) ?_ ?_ rfl
    · show Srtd _ (keys.toArray.zip vs.toArray).toList
      rw [ezip]
      rw [List.size_toArray] at h2
      match hh : keys.zip vs with
      | [] => exact List.Pairwise.nil
      | [v] => exact List.pairwise_singleton _ _
      | _ :: _ :: l =>
        rw [hh] at lz
        rw [List.length_cons, List.length_cons] at lz
        omega
    · show Stb _ (keys.toArray.zip vs.toArray).toList _
      rw [ezip]
      exact Stb.refl _
  · rw [if_neg h2, if_neg h2]
    rw [List.size_toArray] at h2
    refine wpAny_bind (is_kind (k := k) (by omega) hp ?_)
    have hall : AllL (fun p : Keyed => p.1 ∈ keys) (keys.toArray.zip vs.toArray).toList := fun p hm => by
      rw [ezip] at hm
      exact (List.of_mem_zip hm).1
    refine wpAny_bind (wpAny_mono (wpS_sortO (st0 := SortSt.mk' (tuples' true) (keys.toArray.zip vs.toArray) #[] 7 none)
      (Q := fun _ st' => Srtd (fun p q : Keyed => isLt (k p.1) (k q.1)) (arrOf st').toList ∧ Stb (fun p q : Keyed => isLt (k p.1) (k q.1)) (arrOf st').toList (keys.toArray.zip vs.toArray).toList ∧ failedOf st' = none)
      (swo_is fun p : Keyed => k p.1) (is_cmp hp) rfl hall rfl rfl fun st' a1 a2 a3 => ⟨a1, a2, a3⟩) ?_ fun _ _ e => e)
    rintro ⟨⟨⟩, st'⟩ s' ⟨rfl, hp1, hp2, hf⟩
    try dsimp only
    rw [ezip] at hp2
    exact tail st' hp1 hp2 hf
end
end SrtKy


namespace L2
open PySem PySem.Spec PyProof.Rows
section
variable {X : Cx} {pins : List (Addr × Obj)} {σ : St} {H : Hp} {s : Shared} {h' : Heap}
/-- the same, a second object of ours having changed too -/
theorem Inv.adopt2 {a a2 : Addr} {o : HO} {t' : Nat} (I : Inv X pins σ H s) (k : ∀ b u, b ≠ a → b ≠ a2 → s.heap.get? b = some u → h'.get? b = some u) (hn : H a = none) (hn2 : H a2 = none)
    (hL : ∀ b, b = a ∨ b = a2 → ((b ∈ X.ex ∨ X.s_0.heap.objs.size ≤ b) ∧ b ≠ X.env.locals ∧ (∀ x c, X.env.cells.lookup x = some c → c ≠ b) ∧ ∀ p ∈ X.pn ++ pins, p.1 ≠ b)) (new : ObjOk X.prog X.w (upd H a o) h' a o) :
    Inv X pins σ (upd H a o) { s with heap := h', toks := t' } := by
  have nit : ∀ b u, H b = some u → b ≠ a := fun b u e z => by rw [z, hn] at e; cases e
  have nit2 : ∀ b u, H b = some u → b ≠ a2 := fun b u e z => by rw [z, hn2] at e; cases e
  refine I.step (g' := s.gens) (d' := s.drawn) (ch := [a, a2]) (fun b hb => hL b (by simpa using hb)) (fun b o _ _ hc e _ => k b o (fun z => hc (by simp [z])) (fun z => hc (by simp [z])) e)
    (fun b o _ _ hc e _ => ⟨o.slots, k b o (fun z => hc (by simp [z])) (fun z => hc (by simp [z])) e⟩) (fun b _ hc _ n => by rw [upd_ne (fun z => hc (by simp [z]))]; exact n)
    (fun b o hc e => ⟨o, k b o (fun z => hc (by simp [z])) (fun z => hc (by simp [z])) e⟩) (fun b _ e => by rw [upd_ne (nit b _ e)]; exact e) (fun b _ _ e => by rw [upd_ne (nit b _ e)]; exact e) (fun b ps e => ⟨#[], by rw [upd_ne (nit b _ e), e]; simp⟩) (fun m hm => ?_) (fun b u e => ?_) I.bare
  · obtain ⟨o, es, ep, ho, r⟩ := hm
    exact ⟨o, es, ep, k _ o (Ne.symm (hL a (.inl rfl)).2.1) (Ne.symm (hL a2 (.inr rfl)).2.1) ho, r⟩
  · by_cases hb : b = a
    · subst hb
      rw [upd_same] at e
      cases e
      exact new
    · rw [upd_ne hb] at e
      have hb2 := nit2 b _ e
      refine (I.hok b u e).stay (fun c v hc q => k c v ?_ ?_ q) (fun c q => by rw [upd_ne (nit c _ q)]; exact q) fun c _ q => by rw [upd_ne (nit c _ q)]; exact q
      · rcases hc with z | z
        · rw [z]; exact hb
        · exact nit c _ z
      · rcases hc with z | z
        · rw [z]; exact hb2
        · exact nit2 c _ z
/-- no cell of ours is a list -/
theorem Inv.nocell {a : Addr} {u : Obj} (I : Inv X pins σ H s) (h : s.heap.get? a = some u) (d : ∀ v, u.data ≠ .cell v) : ∀ x c, X.env.cells.lookup x = some c → c ≠ a := fun x c e z => by
  obtain ⟨v, o, ho, hd⟩ := I.cell x c e
  rw [z, h] at ho
  cases ho
  exact d _ hd
end
/-- what the keys of the first items are -/
def KysAt (H : Hp) (key : V → Int × Str) (xs : List V) (kA : List Value) : Prop := ∀ (j : Nat) (kv : Value), kA[j]? = some kv → ∃ (t : Addr) (x : V), kv = Value.ref t ∧ xs[j]? = some x ∧ H t = some (.tup [.int (key x).1, .str (key x).2])
theorem KysAt.up {H H' : Hp} {key : V → Int × Str} {xs : List V} {kA : List Value} (h : KysAt H key xs kA) (t : ∀ b ys, H b = some (.tup ys) → H' b = some (.tup ys)) : KysAt H' key xs kA := fun j kv e => by
  obtain ⟨a, x, e1, e2, e3⟩ := h j kv e
  exact ⟨a, x, e1, e2, t _ _ e3⟩
theorem KysAt.snoc {H : Hp} {key : V → Int × Str} {xs : List V} {kA : List Value} {t : Addr} {x : V} (h : KysAt H key xs kA) (hx : xs[kA.length]? = some x) (ht : H t = some (.tup [.int (key x).1, .str (key x).2])) : KysAt H key xs (kA ++ [.ref t]) := fun j kv e => by
  by_cases hj : j < kA.length
  · rw [List.getElem?_append_left hj] at e
    exact h j kv e
  · rw [List.getElem?_append_right (by omega)] at e
    have h0 : j - kA.length = 0 := by
      have := (List.getElem?_eq_some_iff.mp e).1
      rw [List.length_singleton] at this
      omega
    rw [h0] at e
    have e' : Value.ref t = kv := Option.some.inj e
    have : j = kA.length := by omega
    subst this
    exact ⟨t, x, e'.symm, hx, ht⟩
/-- the key that stands at an address -/
def keyOfL (H : Hp) : Value → Int × Str
  | .ref t => match H t with
    | some (.tup [.int n, .str z]) => (n, z)
    | _ => (0, "")
  | _ => (0, "")
theorem keyOfL_at {H : Hp} {t : Addr} {n : Int} {z : Str} (h : H t = some (.tup [.int n, .str z])) : keyOfL H (.ref t) = (n, z) := by
  show (match H t with
    | some (.tup [.int n, .str z]) => (n, z)
    | _ => ((0 : Int), ("" : Str))) = (n, z)
  rw [h]
theorem KysAt.is {X : Cx} {pins : List (Addr × Obj)} {σ : St} {H : Hp} {s : Shared} {key : V → Int × Str} {xs : List V} {kA : List Value} (I : Inv X pins σ H s) (h : KysAt H key xs kA) : ∀ v ∈ kA, SrtKy.IsIS s.heap v (keyOfL H v).1 (keyOfL H v).2 := fun v hv => by
  obtain ⟨j, hj⟩ := List.mem_iff_getElem?.mp hv
  obtain ⟨t, x, rfl, _, e⟩ := h j v hj
  rw [keyOfL_at e]
  obtain ⟨_, its, r, o, ho, hc, n, hd⟩ := I.hok _ _ e
  obtain ⟨u1, u2, rfl, ri, rj⟩ := vals2 r
  obtain ⟨t1, rfl⟩ := ri
  obtain ⟨t2, rfl⟩ := rj
  exact ⟨t, o, t1, t2, n, rfl, ho, hc, hd⟩
/-- a list whose picture is a permutation of a picture -/
theorem perm_lift {α β : Type} (f : α → β) {l m' : List β} (p : l.Perm m') : ∀ m : List α, m' = m.map f → ∃ l' : List α, l'.Perm m ∧ l'.map f = l := by
  induction p with
  | nil =>
    intro m e
    have : m = [] := List.map_eq_nil_iff.mp e.symm
    subst this
    exact ⟨[], .refl _, rfl⟩
  | cons x p ih =>
    intro m e
    cases m with
    | nil => cases e
    | cons y m =>
      rw [List.map_cons] at e
      injection e with e1 e2
      obtain ⟨l', h1, h2⟩ := ih m e2
      exact ⟨y :: l', h1.cons y, by rw [List.map_cons, h2, e1]⟩
  | swap x y l =>
    intro m e
    match m with
    | [] => cases e
    | [_] => simp at e
    | a :: b :: m =>
      rw [List.map_cons, List.map_cons] at e
      injection e with e1 e2
      injection e2 with e2 e3
      exact ⟨b :: a :: m, .swap a b m, by rw [List.map_cons, List.map_cons, e1, e2, e3]⟩
  | trans _ _ ih1 ih2 =>
    intro m e
    obtain ⟨l2, h1, h2⟩ := ih2 m e
    obtain ⟨l3, h3, h4⟩ := ih1 l2 h2.symm
    exact ⟨l3, h3.trans h1, h4⟩
theorem vals_map {α : Type} {f : α → V} {g : α → Value} : ∀ l : List α, (∀ p ∈ l, RelV (f p) (g p)) → Vals (l.map f) (l.map g)
  | [], _ => .nil
  | p :: l, h => .cons (h p (List.mem_cons_self ..)) (vals_map l fun q hq => h q (List.mem_cons_of_mem _ hq))
section
variable {X : Cx} {pins : List (Addr × Obj)} {σ : St} {H : Hp} {s : Shared}
theorem key_sort {A' : Around} {a f : Addr} {n : Nat} {xs : List V} {vs : List Value} {key : V → Int × Str} {J : Hp → Prop} {R : PySem.Fin → Shared → Prop} {E : Value → Shared → Prop}
    (I : Inv X pins σ H s) (hJ : J H) (r : Vals xs vs) (ha : s.heap.get? a = some (seqObj "list" vs.toArray n)) (hn : H a = none) (ho : X.s_0.heap.objs.size ≤ a) (hL : a ≠ X.env.locals) (hF : a ∉ X.fs) (hP : ∀ p ∈ X.pn ++ pins, p.1 ≠ a) (hz : vs.length ≤ sizeLine)
    (call_ : ∀ (x : V) (u : Value) (s' : Shared) (H' : Hp) (pins' : List (Addr × Obj)), x ∈ xs → RelV x u → Inv X (pins' ++ pins) σ H' s' → J H' → wpAny (model X.prog X.w) A' (call (.ref f) [u])
      (EP X (pins' ++ pins) σ fun v H2 => J H2 ∧ (∀ b ys, H' b = some (.tup ys) → H2 b = some (.tup ys)) ∧ ∃ t, v = .ref t ∧ H2 t = some (.tup [.int (key x).1, .str (key x).2])) (fun _ _ => False) s')
    (h : ∀ (ys : List V) (H1 : Hp) (s1 : Shared), ys.Perm xs → ys.Pairwise (fun x y => SrtKy.isLt (key y) (key x) = false) → J H1 → H1 a = none → Inv X pins σ (upd H1 a (.lst ys)) s1 → R (.done (.ret .none)) s1) :
    wpAny (model X.prog X.w) A' (ksk_tree a (.ref f) false) R E s := by
  have hlen : xs.length = vs.length := r.length
  obtain ⟨e1, ho1⟩ : ∃ e1, (s.heap.update a (Obj.mapSeq fun _ => (#[] : Array Value))).get? a = some (seqObj "list" #[] e1) := ⟨_, get?_update_seq ha fun _ => #[]⟩
  have emptied := Heap.SameBut.update s.heap a (Obj.mapSeq fun _ => (#[] : Array Value))
  unfold ksk_tree
  refine wpAny_bind (listItems_at ha rfl ?_)
  refine wpAny_bind (listUpdate_at ha rfl ?_ (by rw [List.size_toArray]; exact hz) (Nat.zero_le _))
  refine wpAny_bind (seqEpoch_at ho1 rfl ?_)
  refine wpAny_bind (wpAny_newTuple ?_ (by show vs.length ≤ _; exact hz))
  refine wpAny_bind (wpAny_newList ?_ (Nat.zero_le _))
  refine wpAny_holding ?_
  have next_ : ((s.heap.update a (Obj.mapSeq fun _ => (#[] : Array Value))).push (seqObj "tuple" vs.toArray 0)).objs.size = s.heap.objs.size + 1 := by rw [size_push', Heap.size_update]
  show wpAny _ _ (ksk_rest a (.ref f) false vs.toArray e1 (.ref ((s.heap.update a (Obj.mapSeq fun _ => (#[] : Array Value))).push (seqObj "tuple" vs.toArray 0)).objs.size)) _ _ { s with heap := ((s.heap.update a (Obj.mapSeq fun _ => (#[] : Array Value))).push (seqObj "tuple" vs.toArray 0)).push (seqObj "list" #[] 0) }
  have hk0 : (((s.heap.update a (Obj.mapSeq fun _ => (#[] : Array Value))).push (seqObj "tuple" vs.toArray 0)).push (seqObj "list" #[] 0)).get? ((s.heap.update a (Obj.mapSeq fun _ => (#[] : Array Value))).push (seqObj "tuple" vs.toArray 0)).objs.size = some (seqObj "list" #[] 0) := Heap.get?_push_size _ rfl
  have ha0 : (((s.heap.update a (Obj.mapSeq fun _ => (#[] : Array Value))).push (seqObj "tuple" vs.toArray 0)).push (seqObj "list" #[] 0)).get? a = some (seqObj "list" #[] e1) := Heap.get?_push_of_some _ (Heap.get?_push_of_some _ ho1)
  have hcell : ∀ x c, X.env.cells.lookup x = some c → c ≠ a := I.nocell ha (fun v z => nomatch z)
  have I1 : Inv X pins σ H { s with heap := ((s.heap.update a (Obj.mapSeq fun _ => (#[] : Array Value))).push (seqObj "tuple" vs.toArray 0)).push (seqObj "list" #[] 0) } :=
    I.turned (t' := s.toks) (it := a) (fun b o hb e => Heap.get?_push_of_some _ (Heap.get?_push_of_some _ ((emptied.2 b hb).trans e))) hn hL (.inr ho) hcell hP
  have hkn : s.heap.objs.size ≤ ((s.heap.update a (Obj.mapSeq fun _ => (#[] : Array Value))).push (seqObj "tuple" vs.toArray 0)).objs.size := by omega
  have hka : ((s.heap.update a (Obj.mapSeq fun _ => (#[] : Array Value))).push (seqObj "tuple" vs.toArray 0)).objs.size ≠ a := Nat.ne_of_gt (by rw [next_]; exact Nat.lt_succ_of_lt (Heap.lt_size ha))
  generalize ((s.heap.update a (Obj.mapSeq fun _ => (#[] : Array Value))).push (seqObj "tuple" vs.toArray 0)).objs.size = kS at hkn hka hk0 ⊢
  generalize ((s.heap.update a (Obj.mapSeq fun _ => (#[] : Array Value))).push (seqObj "tuple" vs.toArray 0)).push (seqObj "list" #[] 0) = h3 at I1 hk0 ha0 ⊢
  have kL : kS ≠ X.env.locals := Nat.ne_of_gt (Nat.lt_of_lt_of_le I.lt hkn)
  have kF : kS ∉ X.fs := I.nofs hkn
  have kP : ∀ p ∈ X.pn ++ pins, p.1 ≠ kS := fun p hp => Nat.ne_of_lt (Nat.lt_of_lt_of_le (Heap.lt_size (I.pin p hp).1) hkn)
  have kO : X.s_0.heap.objs.size ≤ kS := Nat.le_trans I.sz hkn
  have I2 : Inv X ([(kS, seqObj "list" ([] : List Value).toArray 0), (a, seqObj "list" #[] e1)] ++ pins) σ H { s with heap := h3 } := I1.pins_of fun p hp => by
    rcases List.mem_append.mp hp with hp | hp
    · rcases List.mem_cons.mp hp with rfl | hp
      · exact ⟨hk0, I.hok.fresh hkn, kL, kF, fun v z => nomatch z⟩
      · rw [List.mem_singleton.mp hp]
        exact ⟨ha0, hn, hL, hF, fun v z => nomatch z⟩
    · exact I1.pin p (List.mem_append_right _ hp)
  unfold ksk_rest
  refine wpAny_bind (wpAny_rule ?_)
  first
    | rw [List.forIn_toArray]
    | (rw [← Array.forIn_toList]; simp only [List.toList_toArray])
    | rw [← Array.forIn_toList]
  refine wpAny_bind (ksk_fold (fun i s' => ∃ (H' : Hp) (kA : List Value) (e : Nat), Inv X ([(kS, seqObj "list" kA.toArray e), (a, seqObj "list" #[] e1)] ++ pins) σ H' s' ∧ J H' ∧ kA.length = i ∧ KysAt H' key xs kA) vs 0 { s with heap := h3 }
    ⟨H, [], 0, I2, hJ, rfl, fun j kv e => by simp at e⟩ ?step ?done)
  case step =>
    rintro j u s' hu ⟨H', kA, e, I', hJ', hkl, hK⟩
    rw [Nat.zero_add] at hkl
    have hj : j < vs.length := (List.getElem?_eq_some_iff.mp hu).1
    obtain ⟨x, hx⟩ : ∃ x, xs[j]? = some x := ⟨_, List.getElem?_eq_getElem (by omega)⟩
    obtain ⟨u', hu', rx⟩ := r.get hx
    have eu : u' = u := by
      rw [hu] at hu'
      exact (Option.some.inj hu').symm
    subst eu
    refine wpAny_bind (wpAny_attempt (wpAny_mono (call_ x u' s' H' _ (List.mem_of_getElem? hx) rx I' hJ') (fun v s'' he => ?_) fun _ _ hF => hF.elim))
    obtain ⟨v', H2, J2, rv, hJ2, ht, t, ev, htt⟩ := he
    subst ev
    obtain rfl : v = Value.ref t := rv
    try dsimp only
    obtain ⟨nk, nkn, _, _, _⟩ := J2.pin (kS, seqObj "list" kA.toArray e) (List.mem_append_right _ (List.mem_append_left _ (.head _)))
    obtain ⟨na, nan, _, _, _⟩ := J2.pin (a, seqObj "list" #[] e1) (List.mem_append_right _ (List.mem_append_left _ (.tail _ (.head _))))
    obtain ⟨g, gg, gd, gt, gos⟩ := s''
    have hx1 := Heap.SameBut.update g kS (Obj.mapSeq (·.push (.ref t)))
    obtain ⟨c2, hc2⟩ : ∃ c2, (g.update kS (Obj.mapSeq (·.push (.ref t)))).get? kS = some (seqObj "list" (kA.toArray.push (.ref t)) c2) := ⟨_, get?_update_seq nk (·.push (.ref t))⟩
    refine wpAny_bind (listUpdate_at nk rfl ?_ (by rw [List.size_toArray]; omega) (by rw [Array.size_push, List.size_toArray]; omega))
    have J3 : Inv X pins σ H2 ⟨g, gg, gd, gt, gos⟩ := J2.pins_of fun p hp => J2.pin p (List.mem_append_right _ (List.mem_append_right _ hp))
    have J4 : Inv X pins σ H2 { (⟨g, gg, gd, gt, gos⟩ : Shared) with heap := g.update kS (Obj.mapSeq (·.push (.ref t))) } :=
      J3.turned (t' := gt) (it := kS) (fun b o hb q => (hx1.2 b hb).trans q) nkn kL (.inr kO) (J3.nocell nk (fun v z => nomatch z)) kP
    have eA : (kA ++ [Value.ref t]).toArray = kA.toArray.push (.ref t) := by simp
    refine wpAny_pure ⟨rfl, H2, kA ++ [.ref t], c2, J4.pins_of fun p hp => ?_, hJ2, by rw [List.length_append, List.length_singleton]; omega, (hK.up ht).snoc (by rw [hkl]; exact hx) htt⟩
    rcases List.mem_append.mp hp with hp | hp
    · rcases List.mem_cons.mp hp with rfl | hp
      · exact ⟨by rw [eA]; exact hc2, nkn, kL, kF, fun v z => nomatch z⟩
      · rw [List.mem_singleton.mp hp]
        exact ⟨(hx1.2 a hka.symm).trans na, nan, hL, hF, fun v z => nomatch z⟩
    · exact J4.pin p (List.mem_append_right _ hp)
  case done =>
    rintro s' ⟨H', kA, e, I', hJ', hkl, hK⟩
    rw [Nat.zero_add] at hkl
    obtain ⟨nk, nkn, _, _, _⟩ := I'.pin (kS, seqObj "list" kA.toArray e) (List.mem_append_right _ (List.mem_append_left _ (.head _)))
    obtain ⟨na, nan, _, _, _⟩ := I'.pin (a, seqObj "list" #[] e1) (List.mem_append_right _ (List.mem_append_left _ (.tail _ (.head _))))
    try dsimp only
    refine wpAny_bind (listItems_at nk rfl ?_)
    refine SrtKy.key_end (k := keyOfL H') nk na hka hkl hz (hK.is I') fun h' out c hp hs kp hA _ => ?_
    have J3 : Inv X pins σ H' s' := I'.pins_of fun p hp => I'.pin p (List.mem_append_right _ (List.mem_append_right _ hp))
    have lz : (kA.zip vs).length = xs.length := by rw [List.length_zip, hkl, Nat.min_self, hlen]
    obtain ⟨l', p1, p2⟩ := perm_lift Prod.fst hp ((kA.zip vs).zip xs) (by rw [List.map_fst_zip (by omega)])
    have every : ∀ p ∈ l', keyOfL H' p.1.1 = key p.2 ∧ RelV p.2 p.1.2 := fun p hm => by
      obtain ⟨j, hj⟩ := List.mem_iff_getElem?.mp (p1.mem_iff.mp hm)
      obtain ⟨⟨q1, q2⟩, q3⟩ := p
      rw [List.getElem?_zip_eq_some] at hj
      obtain ⟨hj1, hj2⟩ := hj
      rw [List.getElem?_zip_eq_some] at hj1
      obtain ⟨k1, k2⟩ := hj1
      obtain ⟨t, x, e3, e4, e5⟩ := hK j q1 k1
      obtain ⟨u, hu, ru⟩ := r.get hj2
      rw [k2] at hu
      cases hu
      rw [hj2] at e4
      cases e4
      subst e3
      exact ⟨keyOfL_at e5, ru⟩
    have py : (l'.map Prod.snd).Perm xs := by
      have q := p1.map Prod.snd
      rw [List.map_snd_zip (by omega)] at q
      exact q
    have pw : (l'.map Prod.snd).Pairwise (fun x y => SrtKy.isLt (key y) (key x) = false) := by
      rw [← p2, List.pairwise_map] at hs
      rw [List.pairwise_map]
      refine hs.imp_of_mem fun {p q} hm hm' hpq => ?_
      rw [← (every p hm).1, ← (every q hm').1]
      exact hpq
    have ev : Vals (l'.map Prod.snd) (out.map (·.2)) := by
      rw [← p2, List.map_map]
      exact vals_map l' fun p hm => (every p hm).2
    have hzy : (l'.map Prod.snd).length ≤ sizeLine := by rw [py.length_eq, hlen]; exact hz
    refine h _ H' _ py pw hJ' nan (J3.adopt2 (t' := s'.toks) (a := a) (a2 := kS) (o := .lst (l'.map Prod.snd)) (fun b u h1 h2 q => kp b u h2 h1 q) nan nkn (fun b hb => ?_) ⟨hzy, out.map (·.2), c, ev, hA⟩)
    rcases hb with rfl | rfl
    · exact ⟨.inr ho, hL, J3.nocell na (fun v z => nomatch z), hP⟩
    · exact ⟨.inr kO, kL, J3.nocell nk (fun v z => nomatch z), kP⟩
end
end L2


namespace L2
open PySem PySem.Spec PyProof.Rows LamX NdefX
/-- all that was told stays -/
def HKeep (H H' : Hp) : Prop := ∀ b o, H b = some o → H' b = some o
/-- the lambda as a function of the layer (its body is an expression: none of the statements' field is read) -/
def lamF (X : Cx) (params : Arguments) (scope : Scope) (c' : Addr) : NF := ⟨"<lambda>", X.env.qual ++ "<lambda>", params, [], scope, cloFrom X.env.cells scope.names [], c'⟩
/-- sorted(e, key=lambda ..): js: where the captured names stand among ours -/
def tSortLam (T : List (Addr × Str)) (q : Str) (N : List Str) (js : List Nat) (ta : TA) (tb : TE) : TE := fun σ H Q => ta σ H fun vs H1 => ∃ x : V, vs = [x] ∧ Tabs T H1 ∧ ∀ (c' : Addr) (H2 : Hp), ExtN H1 H2 → Tabs T H2 → H2 c' = some (CodeO c' q) →
  ∃ (a : Addr) (kvs : List (Key × V)) (ks : List Str) (key : Str → Int × Str), x = .ref a ∧ Rd H2 a (.dK kvs) ∧ kvs.map (·.1) = ks.map Sum.inr ∧ ks.length ≤ sizeLine ∧
    (∀ k ∈ ks, ∀ H, HKeep H2 H → tb (startF N [.str k] (js.map (NdefX.slotAt σ))) H fun v H3 => HKeep H H3 ∧ ∃ t, v = .ref t ∧ H3 t = some (.tup [.int (key k).1, .str (key k).2])) ∧
    ∀ (ys : List Str) (H3 : Hp) (p : Addr), ys.Perm ks → ys.Pairwise (fun x y => SrtKy.isLt (key y) (key x) = false) → HKeep H2 H3 → H3 p = none → Q (.ref p) (upd H3 p (.lst (ys.map V.str)))
section
variable {X : Cx}
theorem lam_call {pins : List (Addr × Obj)} {σ : St} {H : Hp} {s : Shared} {A' : Around} {f c' : Addr} {pm ctv : Value} {params : Arguments} {body : Expr} {scope : Scope} {N ps fr : List Str} {js : List Nat} {k : Nat} {us : List Value} {vs : List V} {tb : TE} {Q : VK}
    (I : Inv X pins σ H s) (hf : s.heap.get? f = some (PySem.W.kla_obj "<lambda>" (X.env.qual ++ "<lambda>") params body scope (cloFrom X.env.cells scope.names []) pm c' ctv)) (hc : H c' = some (CodeO c' (X.env.qual ++ "<lambda>")))
    (hb : bindArgs (PySem.W.kla_fn "<lambda>" (X.env.qual ++ "<lambda>") params body scope (cloFrom X.env.cells scope.names []) pm (.ref c') ctv) ⟨us, []⟩ = pure (ps.zip us)) (S : NScope N ps fr scope) (cp : Caps X (cloFrom X.env.cells scope.names []) fr js)
    (hr : Room (k + 1) A') (e0 : Env0 X.prog X.w X.K X.mg X.base A' X.stack s H) (hl : vs.length = ps.length) (r : Vals vs us)
    (hbody : ∀ (A : Around) (outer : List Env) (s : Shared) (H : Hp), Room k (A.deeper (envF (lamF X params scope c') f s.heap.objs.size)) → PE (ncx C8.CX0 X.prog X.w X.K X.mg X.base N (lamF X params scope c') f A outer s H C8.E0) body tb)
    (q : tb (startF N vs (js.map (NdefX.slotAt σ))) H Q) : wpAny (model X.prog X.w) A' (call (.ref f) us) (EP X pins σ fun v H2 => Q v H2 ∧ ∀ b ys, H b = some (.tup ys) → H2 b = some (.tup ys)) (fun _ _ => False) s := by
  obtain ⟨⟨oc, vs', t, hoc, hdc, hvc⟩, _, _⟩ := I.hok c' _ hc
  have rc : codeAny (model X.prog X.w) A' (.call (.ref f) ⟨us, []⟩) (CR C8.CX0 X.stack X.prog X.w H s (fun v H2 => Q v H2 ∧ ∀ b ys, H b = some (.tup ys) → H2 b = some (.tup ys)) C8.E0) s := by
    refine PySem.W.kla_callFunE hr.depth hf rfl S.co S.gen rfl ⟨c', oc, vs', t, rfl, hoc, hdc, hvc⟩ ?_
    rw [hb]
    refine wpAny_pure (wpAny_newFunctionEnv S.nocell (fun ⟨par, _⟩ mem => S.par par (List.of_mem_zip mem).1) (fun h₁ hns hsb => ⟨(e0.mod.nolimit.keeps fun b o e => (e0.bs b o e).1).fresh _ hsb, ?_⟩) S.kind)
    show codeAny _ _ (.expr body (envF (lamF X params scope c') f s.heap.objs.size)) _ _
    have stays : ∀ b o, s.heap.get? b = some o → h₁.get? b = some o := fun b o e => hsb.extBut b o (Nat.ne_of_lt (Heap.lt_size e)) (Heap.get?_push_of_some _ e)
    have J : Inv (ncx C8.CX0 X.prog X.w X.K X.mg X.base N (lamF X params scope c') f A' X.stack s H C8.E0) [] (startF N vs (js.map (NdefX.slotAt σ))) H { s with heap := h₁, toks := s.toks + (ps.zip us).length } :=
      inv_startN (F := lamF X params scope c') S hr.hd e0 hl r (cells_of I cp) hns stays
    refine PySem.W.kla_codeExpr (wpAny_mono ((hbody A' X.stack s H (hr.deeper _)).run [] _ _ H Q J q) (fun v s' hq => ?_) fun e s' hq => hq)
    obtain ⟨w', H', J', rv, hq'⟩ := hq
    exact ⟨w', H', J'.os, J'.bare, J'.base, J'.hok, rv, hq', J'.base.tups⟩
  refine wpAny_call (codeAny_mono rc fun r s' hq => ?_)
  cases r with
  | error e => exact (show False from hq).elim
  | ok fl =>
    cases fl with
    | ret u => exact I.after hq
    | next => exact False.elim hq
    | brk => exact False.elim hq
    | cont => exact False.elim hq
/-- THE RULE: sorted(e, key=lambda each: ..), e a dict of texts -/
theorem pe_sortedLam {T : List (Addr × Str)} {c P : Addr} {k : Nat} {params : Arguments} {body : Expr} {scope : Scope} {N fr : List Str} {js : List Nat} {each : Str} {e : Expr} {ta : TA} {tb : TE} {p pos kpos lpos : Pos} (hg : Gl X "sorted") (hm : X.mg "sorted" = none) (hcalm : X.calm = true) (ha : PA X [e] ta)
    (TB : TabB X.base X.mg c P) (hcode : X.env.code = .ref c) (hmT : (P, X.env.qual ++ "<lambda>") ∈ T) (hu : ∀ p ∈ T, p.1 = P → p.2 = X.env.qual ++ "<lambda>") (hdef : defaultsOf params X.env = ([], []))
    (hfree : ∀ y ∈ scope.names, y.2 = .free → X.env.scope.names.lookup y.1 = some .cell ∨ X.env.scope.names.lookup y.1 = some .free) (hfr : ∀ y ∈ fr, (y, NameKind.free) ∈ scope.names) (hjs : js.map (fun j => X.N[j]?) = fr.map some) (S : NScope N [each] fr scope)
    (hb : ∀ (q : Str) (cl : List (Str × Addr)) (pm cv ctv : Value) (u : Value), bindArgs (PySem.W.kla_fn "<lambda>" q params body scope cl pm cv ctv) ⟨[u], []⟩ = pure [(each, u)]) (hr : Room (k + 3) X.A)
    (hbody : ∀ (A : Around) (outer : List Env) (s : Shared) (H : Hp) (f c' : Addr), Room k (A.deeper (envF (lamF X params scope c') f s.heap.objs.size)) → PE (ncx C8.CX0 X.prog X.w X.K X.mg X.base N (lamF X params scope c') f A outer s H C8.E0) body tb)
    (hse : backTo pos (starEach [e] X.env) = (false, eval e X.env) :: backTo pos (starEach [] X.env) := by rfl) (hpl : (backTo pos (starEach [e] X.env)).any (·.1) = false := by rfl)
    (hall : (backToKw pos (keywordEach [⟨some "key", .Lambda params body scope lpos, kpos⟩] X.env)).all (·.1.isSome) = true := by rfl) (hnone : (backToKw pos (keywordEach [⟨some "key", .Lambda params body scope lpos, kpos⟩] X.env)).any (·.1.isNone) = false := by rfl)
    (hks : (backToKw pos (keywordEach [⟨some "key", .Lambda params body scope lpos, kpos⟩] X.env)).filterMap (·.1) = [Str.ofString "key"] := by rfl) :
    PE X (.Call (.Name "sorted" p) [e] [⟨some "key", .Lambda params body scope lpos, kpos⟩] pos) (tSortLam T (X.env.qual ++ "<lambda>") N js ta tb) := by
  refine ⟨fun pins s σ H Q I h => ?_⟩
  refine wpAny_Call_Name_kw (ld_blt I hg hm PyProof.Rows.Boot.«sorted» ?_ (by decide) (by decide))
  have hfr2 : ∀ y ∈ scope.names, y.2 = .free → ∃ c, X.env.cells.lookup y.1 = some c := fun y hy e => (hfree y hy e).elim (fun z => I.ok.has _ (.inl z)) fun z => I.ok.has _ (.inr z)
  refine PyProof.Rows.callWith_kw (thn (ha.run pos pins s σ H _ I h) fun us s1 hh => ?_) hse hpl hall hnone
  obtain ⟨vs, H1, I1, r1, x, ev, hT, hx⟩ := hh
  subst ev
  obtain ⟨ux, rfl, rx⟩ := vals1 r1
  rw [hks]
  show wpAny _ _ (evalAll ((do let v ← eval (.Lambda params body scope lpos) X.env; standAt pos; pure v) :: (backToKw pos (keywordEach [] X.env)).map (·.2))) _ _ s1
  refine wpAny_evalAll_cons (wpAny_bind (lam_make2 I1 TB hcode hmT hu hT hdef hfr2 fun f c' pm ctv H2 s2 I2 eN hT2 of f0 fF hc => ?_))
  refine wpAny_bind (wpAny_standAt (wpAny_pure (wpAny_evalAll_nil ?_)))
  obtain ⟨a, kvs, ks, key, rfl, hd, hkeys0, hz, hbs, hk⟩ := hx c' H2 eN hT2 hc
  cases rx
  show wpAny _ _ (call (.builtin "sorted") [.ref a] [(Str.ofString "key", .ref f)]) _ _ s2
  obtain ⟨z, lo, vs, rel, dd⟩ := dk_rd I2.hok hd
  obtain ⟨ep, hat⟩ := dd.dictAt
  have hkeys : vs.map (·.1) = ks.map Sum.inr := rel.keys.symm.trans hkeys0
  have hl : vs.length = ks.length := by
    have e := congrArg List.length hkeys
    rw [List.length_map, List.length_map] at e
    exact e
  have h16 : vs.length ≤ sizeLine := by rw [hl]; exact hz
  refine PyProof.Rows.call_function_entry_kw PyProof.Rows.kind_sorted PyProof.Rows.plain_sorted PyProof.Rows.entry_sorted (ksk_s1 _ _) ?_
  unfold Builtin.«sorted»
  refine wpAny_bind (m := checkCount "sorted" 1 1 _) (wpAny_pure ?_)
  refine wpAny_bind (PySem.W.kdu_collect (A := X.A.in1) (PySem.W.kdl_dict (knd := mixKind X.prog X.w) (kvs := vs) (ep := ep) lo) (I2.ok.hd hcalm) hat h16 fun h' tk acc hk2 hacc => ?_)
  have many : acc.toList.length = ks.length := by rw [Array.length_toList, hacc.1, hl]
  have hS : Vals (ks.map V.str) acc.toList := by
    have rows : Vals (vs.map fun p => kV p.1) acc.toList := keys_at (by rw [Array.length_toList]; exact hacc.1) fun j v e => hacc.2 j v (by rw [← Array.getElem?_toList]; exact e)
    have ek : (vs.map fun p => kV p.1) = ks.map V.str := by
      have e := congrArg (List.map kV) hkeys
      rw [List.map_map, List.map_map] at e
      exact e
    rw [ek] at rows
    exact rows
  have I3 : Inv X pins σ H2 { s2 with heap := h', toks := tk } := I2.kept hk2
  refine wpAny_bind (wpAny_newList ?_ (by rw [many]; exact hz))
  have laid_ : (h'.push (seqObj "list" acc.toList.toArray 0)).get? h'.objs.size = some (seqObj "list" acc.toList.toArray 0) := Heap.get?_push_size _ rfl
  show wpAny _ _ _ _ _ { s2 with heap := h'.push (seqObj "list" acc.toList.toArray 0), toks := tk }
  obtain ⟨fo, efo⟩ : ∃ fo, fo = PySem.W.kla_obj "<lambda>" (X.env.qual ++ "<lambda>") params body scope (cloFrom X.env.cells scope.names []) pm c' ctv := ⟨_, rfl⟩
  rw [← efo] at of
  have of3 : h'.get? f = some fo := hk2 _ _ of
  have fL : f ≠ X.env.locals := fun e => by
    obtain ⟨m, ⟨o, es, ep2, ho, hd2, _⟩, _⟩ := I2.loc
    rw [← e, of] at ho
    have ho' := Option.some.inj ho
    rw [← ho', efo] at hd2
    cases hd2
  have fFs : f ∉ X.fs := fun hm => fF (I2.ok.stk.elim (fun e => by rw [e]; exact hm) fun e => by rw [e.1]; exact (List.mem_filterMap.mpr (by
    obtain ⟨x, hx, q⟩ := List.mem_filterMap.mp hm
    exact ⟨x, List.mem_cons_of_mem _ hx, q⟩)))
  have I4 : Inv X ((f, fo) :: pins) σ H2 { s2 with heap := h'.push (seqObj "list" acc.toList.toArray 0), toks := tk } := (I3.kept (t' := tk) fun b u e => Heap.get?_push_of_some _ e).pins_of fun p hp => by
    rcases List.mem_cons.mp hp with rfl | hp
    · exact ⟨Heap.get?_push_of_some _ of3, f0, fL, fFs, fun v z => by
        rw [efo] at z
        cases z⟩
    · exact ⟨Heap.get?_push_of_some _ (I3.pin p (List.mem_append_right _ hp)).1, (I3.pin p (List.mem_append_right _ hp)).2⟩
  refine wpAny_bind (wpAny_holding (wpAny_call_entry_kw PyProof.Rows.slot_list_sort ⟨_, laid_, rfl⟩ PyProof.Rows.entry_list_sort ?_ (ksk_l1 _ _)))
  rw [ksk_t1]
  have hlt : ∀ p ∈ X.pn ++ ((f, fo) :: pins), p.1 ≠ h'.objs.size := fun p hp => by
    have lt : p.1 < h'.objs.size := by
      rcases List.mem_append.mp hp with hp | hp
      · exact Heap.lt_size (I3.pin p (List.mem_append_left _ hp)).1
      · rcases List.mem_cons.mp hp with rfl | hp
        · exact Heap.lt_size of3
        · exact Heap.lt_size (I3.pin p (List.mem_append_right _ hp)).1
    exact Nat.ne_of_lt lt
  refine key_sort (A' := X.A.in1.in1) (a := h'.objs.size) (xs := ks.map V.str) (key := fun v => match v with | .str y => key y | _ => (0, "")) (J := HKeep H2) I4 (fun _ _ e => e) hS laid_ (I3.hok.fresh (Nat.le_refl _)) I3.sz (Nat.ne_of_gt I3.lt) (I3.nofs (Nat.le_refl _)) hlt (by rw [many]; exact hz) (fun x u s' H' pins' hxm rx I' hJ => ?_) (fun ys H3 s3 py pw hJ hn J3 => ?_)
  · obtain ⟨y, hy, rfl⟩ := List.mem_map.mp hxm
    obtain ⟨of5, _, _, _, _⟩ := I'.pin (f, fo) (List.mem_append_right _ (List.mem_append_right _ (.head _)))
    rw [efo] at of5
    refine wpAny_mono (lam_call (vs := [V.str y]) (ps := [each]) (Q := fun v H3 => HKeep H' H3 ∧ ∃ t, v = .ref t ∧ H3 t = some (.tup [.int (key y).1, .str (key y).2])) I' of5 (hJ _ _ hc) (hb _ _ _ _ _ _) S (Caps.made I'.ok hfree hfr hjs) (hr.in1.in1) I'.env0.in1.in1 rfl (.cons rx .nil)
      (fun A outer s H hr2 => hbody A outer s H f c' hr2) (hbs y hy H' hJ)) (fun v s' hq => ?_) fun _ _ z => z
    obtain ⟨w, H4, I5, rv, ⟨q1, q2⟩, q3⟩ := hq
    exact ⟨w, H4, I5, rv, fun b o e => q1 b o (hJ b o e), q3, q2⟩
  · obtain ⟨zs, pz, ez⟩ := perm_lift V.str py ks rfl
    refine ⟨_, rfl, wpAny_pure ⟨_, rfl, .ref h'.objs.size, upd H3 h'.objs.size (.lst (zs.map V.str)), ?_, rfl, hk zs H3 _ pz ?_ hJ hn⟩⟩
    · rw [ez]
      exact J3.pins_of fun p hp => J3.pin p (List.mem_append_right _ (List.mem_cons_of_mem _ hp))
    · rw [← ez, List.pairwise_map] at pw
      exact pw
end
end L2


/-! heaps, lists, texts: what all the laws' proofs share. -/
namespace FT
open PySem L2 TL
abbrev Same (H H' : Hp) : Prop := ∀ b o, H b = some o → H' b = some o
theorem Same.refl {H : Hp} : Same H H := fun _ _ e => e
theorem Same.trans {H H1 H2 : Hp} (a : Same H H1) (b : Same H1 H2) : Same H H2 := fun x o e => b x o (a x o e)
theorem Same.free {H H' : Hp} {p : Addr} (s : Same H H') (n : H' p = none) : H p = none := by
  cases e : H p with
  | none => rfl
  | some o =>
    rw [s p o e] at n
    cases n
theorem Same.sql {K : PySem.W.Frag} {H H' : Hp} {a : Addr} {xs : List V} (e : Same H H') (h : SqL K H a xs) : SqL K H' a xs := by
  rcases h with (h | ⟨o, h⟩) | h
  · exact .inl (.inl (e _ _ h))
  · exact .inl (.inr ⟨o, e _ _ h⟩)
  · exact .inr h
theorem same_new {H : Hp} {p : Addr} {o : HO} (n : H p = none) : Same H (upd H p o) := fun b u e => by
  rw [upd_ne (ne_of_none e n)]
  exact e
theorem Same.put {H H' : Hp} {p : Addr} {o : HO} (s : Same H H') (n : H p = none) : Same H (upd H' p o) := fun b u e => by
  rw [upd_ne (ne_of_none e n)]
  exact s b u e
/-- what the text finds among the module's names -/
structure Nm (mg : Str → Option Value) : Prop where
  abs : mg "abs" = none
  len : mg "len" = none
  rng : mg "range" = none
  enu : mg "enumerate" = none
  zip : mg "zip" = none
  isi : mg "isinstance" = none
  all : mg "all" = none
  srt : mg "sorted" = none
  lst : mg "list" = none
  dct : mg "dict" = none
  str : mg "str" = none
  int : mg "int" = none
  tup : mg "tuple" = none
  sum : mg "sum" = none
  min : mg "min" = none
  max : mg "max" = none
  rep : mg "repr" = none
  bool : mg "bool" = none
  any : mg "any" = none
  vE : mg "ValueError" = none
theorem take_more {α : Type} {l : List α} {i : Nat} {x : α} (h : l[i]? = some x) : l.take (i + 1) = l.take i ++ [x] := by
  rw [List.take_succ, h] <;> rfl
theorem cut_ints (ns : List Int) (lo hi : Option Int) : ∃ ms : List Int, cutV (ns.map V.int) lo hi = ms.map V.int ∧ ms.length ≤ ns.length := by
  unfold cutV
  generalize HT.sIx (ns.map V.int).length 0 lo = i
  generalize HT.sIx (ns.map V.int).length (ns.map V.int).length hi = j
  refine ⟨(ns.drop i).take (j - i), by rw [List.map_take, List.map_drop], ?_⟩
  rw [List.length_take, List.length_drop]
  omega
theorem cut_take {xs : List V} {j : Nat} (h : j ≤ xs.length) : cutV xs none (some (j : Int)) = xs.take j := by
  have e : HT.sIx xs.length xs.length (some (j : Int)) = min j xs.length := HT.sIx_nat _ _ j
  show (xs.drop 0).take (HT.sIx xs.length xs.length (some (j : Int)) - 0) = xs.take j
  rw [e, List.drop_zero, Nat.sub_zero, Nat.min_eq_left h]
theorem map_at {α : Type} {f : α → V} {cells : List α} {j : Nat} {z : α} (h : cells[j]? = some z) : (cells.map f)[j]? = some (f z) := by
  rw [List.getElem?_map, h] <;> rfl
theorem map_of {α : Type} {f : α → V} {l : List α} {j : Nat} {x : V} (h : (l.map f)[j]? = some x) : ∃ z, l[j]? = some z ∧ x = f z := by
  rw [List.getElem?_map] at h
  obtain ⟨z, hz, rfl⟩ := Option.map_eq_some_iff.mp h
  exact ⟨z, hz, rfl⟩
theorem ixN_nat {n j : Nat} (h : j < n) : ixN n (j : Int) = some j := by
  unfold ixN
  rw [if_pos (by omega), if_pos (by omega)]
  simp
theorem map_erase {α β : Type} (f : α → β) : ∀ (l : List α) (i : Nat), (l.map f).eraseIdx i = (l.eraseIdx i).map f
  | [], _ => rfl
  | _ :: _, 0 => rfl
  | a :: l, i + 1 => congrArg (List.cons (f a)) (map_erase f l i)
theorem erase_perm {α : Type} : ∀ (l : List α) (i : Nat) (h : i < l.length), (l[i] :: l.eraseIdx i).Perm l
  | [], _, h => absurd h (Nat.not_lt_zero _)
  | _ :: _, 0, _ => .refl _
  | a :: l, i + 1, h => (List.Perm.swap a _ _).trans ((erase_perm l i (Nat.lt_of_succ_lt_succ h)).cons a)
/-- how many items stand there -/
def many (H : Hp) (a : Addr) : Nat := match H a with
  | some (.lst xs) => xs.length
  | _ => 0
theorem many_at {H : Hp} {a : Addr} {xs : List V} (h : H a = some (.lst xs)) : many H a = xs.length := by
  unfold many
  rw [h]
theorem items_strs {Pz : Str → Prop} {ws : List Str} (h : ∀ z ∈ ws, Pz z) : ∀ (i : Nat) (x : V), (ws.map V.str)[i]? = some x → ∃ z, x = .str z ∧ Pz z := fun i x e => by
  obtain ⟨z, hz, rfl⟩ := map_of e
  exact ⟨z, rfl, h z (List.mem_of_getElem? hz)⟩
theorem items_ints {Pz : Int → Prop} {ws : List Int} (h : ∀ z ∈ ws, Pz z) : ∀ (i : Nat) (x : V), (ws.map V.int)[i]? = some x → ∃ z, x = .int z ∧ Pz z := fun i x e => by
  obtain ⟨z, hz, rfl⟩ := map_of e
  exact ⟨z, rfl, h z (List.mem_of_getElem? hz)⟩
theorem inV_strs (x : Str) : ∀ fs : List Str, inV (.str x) (fs.map V.str) = decide (x ∈ fs)
  | [] => rfl
  | y :: fs => by
    show (eqV (.str y) (.str x) || inV (.str x) (fs.map V.str)) = _
    rw [inV_strs x fs]
    have e : eqV (.str y) (.str x) = decide (x = y) := by
      show (y == x) = decide (x = y)
      rw [Bool.eq_iff_iff, beq_iff_eq, decide_eq_true_eq]
      exact eq_comm
    rw [e, Bool.eq_iff_iff]
    simp only [Bool.or_eq_true, decide_eq_true_eq, List.mem_cons]
theorem flat_strs : ∀ fs : List Str, (fs.map V.str).all flatV = true
  | [] => rfl
  | _ :: fs => flat_strs fs
/-! ### texts -/
/-- a name: letters, one to eight, not self -/
def NameL (z : Str) : Prop := (∀ c ∈ tl z, 97 ≤ c ∧ c ≤ 122) ∧ 1 ≤ (tl z).length ∧ (tl z).length ≤ 8 ∧ z ≠ "self"
instance (z : Str) : Decidable (NameL z) := by unfold NameL; infer_instance
theorem NameL.len {z : Str} (h : NameL z) : 1 ≤ z.length ∧ z.length ≤ 8 := by
  rw [len_tl]
  exact ⟨h.2.1, h.2.2.1⟩
theorem NameL.self {z : Str} (h : NameL z) : z ≠ "self" := h.2.2.2
theorem NameL.ne {z : Str} (h : NameL z) : z ≠ "" := fun e => by
  subst e
  have := h.2.1
  revert this
  decide +kernel
theorem strOk_name {z : Str} (h : NameL z) : PyData.strOk z = true := by
  unfold PyData.strOk
  simp only [Bool.and_eq_true, decide_eq_true_eq, Array.all_eq_true_iff_forall_mem]
  intro c hc
  have := h.1 c (Array.mem_toList_iff.mpr hc)
  omega
theorem strOk_root : PyData.strOk "" = true := by decide +kernel
/-! ### order -/
theorem rising_all : ∀ (l : List Str) (p : Str), PyProof.Rows.risingS p l = true → (∀ y ∈ l, tl p ≤ tl y) ∧ l.Pairwise (fun a b => tl a ≤ tl b)
  | [], p, _ => ⟨fun y h => (by cases h), List.Pairwise.nil⟩
  | x :: r, p, h => by
    have h' : (!PySem.Spec.ltCps x.cps.toList p.cps.toList && PyProof.Rows.risingS x r) = true := h
    rw [Bool.and_eq_true, PyProof.Rows.ltCps_eq] at h'
    obtain ⟨h1, h2⟩ := h'
    have px : tl p ≤ tl x := by
      show ¬ (tl x < tl p)
      intro z
      rw [decide_eq_true z] at h1
      cases h1
    obtain ⟨i1, i2⟩ := rising_all r x h2
    refine ⟨fun y hy => ?_, List.pairwise_cons.mpr ⟨i1, i2⟩⟩
    rcases List.mem_cons.mp hy with rfl | hy
    · exact px
    · exact List.le_trans px (i1 y hy)
theorem sorted_pw {l : List Str} (h : PyProof.Rows.sortedS l = true) : l.Pairwise (fun a b => tl a ≤ tl b) := by
  cases l with
  | nil => exact .nil
  | cons x r =>
    obtain ⟨i1, i2⟩ := rising_all r x h
    exact List.pairwise_cons.mpr ⟨i1, i2⟩
/-- one order of the same texts -/
theorem sorted_one {l m : List Str} (p : l.Perm m) (hl : PyProof.Rows.sortedS l = true) (hm : PyProof.Rows.sortedS m = true) : l = m :=
  List.Perm.eq_of_pairwise (le := fun a b => tl a ≤ tl b) (fun a b _ _ h1 h2 => ext_tl (List.le_antisymm h1 h2)) (sorted_pw hl) (sorted_pw hm) p
/-! ### comprehensions of dicts, locks -/
/-- a dict comprehension over a walk: Pv by the turn and the heap (the new dict at D within) -/
theorem dc_it {J : It} {n : Nat} {G : Hp → Prop} {Y : Nat → Hp → V → Hp → Prop} (w : Walk J n G Y) {g : TG} {tt : TT} {tk tv : TE} {vs : List Nat} {σ : St} {H1 : Hp} {D : Addr} {Qd : Hp → Prop} (Pv : Nat → Hp → Prop) (h0 : Pv 0 (upd H1 D (.dK []))) (hG : ∀ i H, i ≤ n → Pv i H → G H)
    (hs : ∀ i x H H', i < n → Pv i H → Y i H x H' → g x (wipe σ vs) H' fun σ2 H2 => wipe σ2 vs = wipe σ vs ∧ tt σ2 H2 fun b H3 =>
      if b = true then tk σ2 H3 fun y H4 => tv σ2 H4 fun z H5 => ∃ kvs k, y = kV k ∧ H5 D = some (.dK kvs) ∧ kvs.length < sizeLine ∧ Pv (i + 1) (upd H5 D (.dK (putK kvs k z))) else Pv (i + 1) H3) (hd : ∀ H, Pv n H → Qd H) :
    ∃ W : Nat → Nat → Hp → Prop, (∃ m, W 0 m (upd H1 D (.dK []))) ∧ ∀ i m H, W i m H →
      (J.stop i H ∧ Qd H) ∨ (J.go i H ∧ ∃ Nx : Hp → Prop, (∀ H', Nx H' → ∃ m', m' < m ∧ W (i + 1) m' H') ∧ ∀ x H', J.yld i H x H' → g x (wipe σ vs) H' fun σ2 H2 => wipe σ2 vs = wipe σ vs ∧ tt σ2 H2 fun b H3 =>
        if b = true then tk σ2 H3 fun y H4 => tv σ2 H4 fun z H5 => ∃ kvs k, y = kV k ∧ H5 D = some (.dK kvs) ∧ kvs.length < sizeLine ∧ Nx (upd H5 D (.dK (putK kvs k z))) else Nx H3) := by
  refine ⟨fun i m H => m = n - i ∧ i ≤ n ∧ Pv i H, ⟨n, by simp, Nat.zero_le _, h0⟩, fun i m H ⟨em, hi, p⟩ => ?_⟩
  have gh := hG i H hi p
  rcases Nat.lt_or_ge i n with lt | ge
  · exact .inr ⟨w.goes i H lt gh, Pv (i + 1), fun H' p' => ⟨n - (i + 1), by omega, rfl, lt, p'⟩, fun x H' y => hs i x H H' lt p (w.yields i H x H' lt gh y)⟩
  · have ei : i = n := by omega
    subst ei
    exact .inl ⟨w.stops H gh, hd H p⟩
theorem unlock_same {H H' : Hp} {q : Addr} {u : HO} {o : Obj} (e : H q = some u) (s : Same (upd H q (.frz o u)) H') : Same H (upd H' q u) := fun b x h => by
  by_cases z : b = q
  · subst z
    rw [upd_same]
    exact e.symm.trans h |>.symm ▸ rfl
  · rw [upd_ne z]
    exact s b x (by rw [upd_ne z]; exact h)
/-! ### dicts with text keys, by any values -/
/-- a dict of values by texts -/
def kvT (t : List (Str × V)) : List (Key × V) := t.map fun p => (Sum.inr p.1, p.2)
theorem kvT_len (t : List (Str × V)) : (kvT t).length = t.length := by unfold kvT; rw [List.length_map]
theorem kvT_app (t : List (Str × V)) (f : Str) (z : V) : kvT t ++ [(Sum.inr f, z)] = kvT (t ++ [(f, z)]) := by
  unfold kvT
  rw [List.map_append] <;> rfl
theorem kvT_any (t : List (Str × V)) (f : Str) : ((kvT t).any fun kv => decide (kv.1 = Sum.inr f)) = decide (f ∈ t.map Prod.fst) := by
  induction t with
  | nil => rfl
  | cons p t ih =>
    show (decide ((Sum.inr p.1 : Key) = Sum.inr f) || ((kvT t).any fun kv => decide (kv.1 = Sum.inr f))) = _
    rw [ih, Bool.eq_iff_iff]
    simp only [Bool.or_eq_true, decide_eq_true_eq, List.map_cons, List.mem_cons]
    constructor
    · rintro (h | h)
      · exact .inl (Sum.inr.inj h).symm
      · exact .inr h
    · rintro (h | h)
      · exact .inl (by rw [h])
      · exact .inr h
theorem kvT_put {t : List (Str × V)} {f : Str} {z : V} (n : f ∉ t.map Prod.fst) : putK (kvT t) (Sum.inr f) z = kvT (t ++ [(f, z)]) := by
  unfold putK
  rw [kvT_any, decide_eq_false n, if_neg (by decide), kvT_app]
/-- the value of a key -/
def look (t : List (Str × V)) (f : Str) : Option V := (t.find? fun p => decide (p.1 = f)).map Prod.snd
theorem look_cons (p : Str × V) (t : List (Str × V)) (f : Str) : look (p :: t) f = if p.1 = f then some p.2 else look t f := by
  unfold look
  rw [List.find?_cons]
  by_cases e : p.1 = f
  · rw [if_pos e, decide_eq_true e] <;> rfl
  · rw [if_neg e, decide_eq_false e]
theorem kvT_val : ∀ (t : List (Str × V)) (f : Str), valV (kvT t) (Sum.inr f) = look t f
  | [], f => rfl
  | p :: t, f => by
    rw [look_cons]
    by_cases e : p.1 = f
    · rw [if_pos e]
      exact valV_pos (by show (Sum.inr p.1 : Key) = Sum.inr f; rw [e])
    · rw [if_neg e]
      exact (valV_neg (p := (Sum.inr p.1, p.2)) (fun z => e (Sum.inr.inj z))).trans (kvT_val t f)
/-- a key's value, written anew -/
def putT (t : List (Str × V)) (f : Str) (z : V) : List (Str × V) := if f ∈ t.map Prod.fst then t.map fun p => if p.1 = f then (p.1, z) else p else t ++ [(f, z)]
theorem kvT_putT (t : List (Str × V)) (f : Str) (z : V) : putK (kvT t) (Sum.inr f) z = kvT (putT t f z) := by
  by_cases h : f ∈ t.map Prod.fst
  · unfold putK putT
    rw [kvT_any, decide_eq_true h, if_pos rfl, if_pos h]
    unfold kvT
    rw [List.map_map, List.map_map]
    refine List.map_congr_left fun p _ => ?_
    show (if (Sum.inr p.1 : Key) = Sum.inr f then ((Sum.inr p.1 : Key), z) else (Sum.inr p.1, p.2)) = (Sum.inr (if p.1 = f then (p.1, z) else p).1, (if p.1 = f then (p.1, z) else p).2)
    by_cases e : p.1 = f
    · rw [if_pos e, if_pos (by rw [e])]
    · rw [if_neg e, if_neg fun q => e (Sum.inr.inj q)]
  · rw [kvT_put h]
    unfold putT
    rw [if_neg h]
end FT


/-! forests as pairs of a flag and its parent, in any order. -/
namespace FT
open PySem L2 TL
/-- a dict of texts by texts -/
def prs (t : List (Str × Str)) : List (Key × V) := kvT (t.map fun p => (p.1, V.str p.2))
theorem prs_len (t : List (Str × Str)) : (prs t).length = t.length := by unfold prs; rw [kvT_len, List.length_map]
theorem prs_fst (t : List (Str × Str)) : (t.map fun p => (p.1, V.str p.2)).map Prod.fst = t.map Prod.fst := by rw [List.map_map] <;> rfl
theorem prs_keys (t : List (Str × Str)) : (prs t).map (·.1) = (t.map Prod.fst).map Sum.inr := by unfold prs kvT; rw [List.map_map, List.map_map, List.map_map] <;> rfl
theorem keys_prs (t : List (Str × Str)) : ((prs t).map fun kv => kV kv.1) = (t.map Prod.fst).map V.str := by
  unfold prs kvT
  rw [List.map_map, List.map_map, List.map_map] <;> rfl
theorem put_new {t : List (Str × Str)} {f z : Str} (n : f ∉ t.map Prod.fst) : putK (prs t) (Sum.inr f) (V.str z) = prs (t ++ [(f, z)]) := by
  unfold prs
  rw [kvT_put (by rw [prs_fst]; exact n), List.map_append] <;> rfl
/-- the parent of a flag -/
def par (t : List (Str × Str)) (a : Str) : Option Str := (t.find? fun p => decide (p.1 = a)).map Prod.snd
theorem par_cons (p : Str × Str) (t : List (Str × Str)) (a : Str) : par (p :: t) a = if p.1 = a then some p.2 else par t a := by
  unfold par
  rw [List.find?_cons]
  by_cases e : p.1 = a
  · rw [if_pos e, decide_eq_true e] <;> rfl
  · rw [if_neg e, decide_eq_false e]
theorem val_prs (a : Str) : ∀ t : List (Str × Str), valV (prs t) (Sum.inr a) = (par t a).map V.str
  | [] => rfl
  | p :: t => by
    have ih := val_prs a t
    unfold prs at ih ⊢
    rw [List.map_cons, kvT_val, look_cons, par_cons]
    rw [kvT_val] at ih
    by_cases e : p.1 = a
    · rw [if_pos e, if_pos e] <;> rfl
    · rw [if_neg e, if_neg e, ih]
theorem par_mem {t : List (Str × Str)} {a z : Str} (h : par t a = some z) : (a, z) ∈ t := by
  induction t with
  | nil => cases h
  | cons p t ih =>
    rw [par_cons] at h
    by_cases e : p.1 = a
    · rw [if_pos e] at h
      cases h
      exact List.mem_cons.mpr (.inl (by rw [← e]))
    · rw [if_neg e] at h
      exact List.mem_cons_of_mem _ (ih h)
theorem par_of {t : List (Str × Str)} {a z : Str} (nd : (t.map Prod.fst).Nodup) (h : (a, z) ∈ t) : par t a = some z := by
  induction t with
  | nil => cases h
  | cons p t ih =>
    obtain ⟨n1, n2⟩ := List.nodup_cons.mp nd
    rw [par_cons]
    rcases List.mem_cons.mp h with e | h
    · subst e
      exact if_pos rfl
    · rw [if_neg fun e => n1 (by rw [e]; exact List.mem_map.mpr ⟨_, h, rfl⟩)]
      exact ih n2 h
theorem par_none {t : List (Str × Str)} {a : Str} (n : a ∉ t.map Prod.fst) : par t a = none := by
  cases e : par t a with
  | none => rfl
  | some z => exact absurd (List.mem_map.mpr ⟨_, par_mem e, rfl⟩) n
theorem par_some {t : List (Str × Str)} {a : Str} (nd : (t.map Prod.fst).Nodup) (h : a ∈ t.map Prod.fst) : ∃ z, par t a = some z := by
  obtain ⟨p, hp, rfl⟩ := List.mem_map.mp h
  exact ⟨p.2, par_of nd hp⟩
theorem par_perm {t u : List (Str × Str)} (nd : (t.map Prod.fst).Nodup) (p : t.Perm u) (a : Str) : par t a = par u a := by
  cases e : par t a with
  | some v => exact (par_of ((p.map _).nodup_iff.mp nd) (p.mem_iff.mp (par_mem e))).symm
  | none =>
    cases e2 : par u a with
    | none => rfl
    | some v =>
      have := par_of nd (p.mem_iff.mpr (par_mem e2))
      rw [e] at this
      cases this
/-- each parent has a lower rank -/
def Rk (t : List (Str × Str)) (rk : Str → Nat) : Prop := ∀ p ∈ t, rk p.1 < t.length ∧ (p.2 = "" ∨ (p.2 ∈ t.map Prod.fst ∧ rk p.2 < rk p.1))
/-- a forest of one to twelve flags -/
structure TreeOk (t : List (Str × Str)) : Prop where
  one : 1 ≤ t.length
  few : t.length ≤ 12
  nd : (t.map Prod.fst).Nodup
  nm : ∀ z ∈ t.map Prod.fst, NameL z
  up : ∃ rk : Str → Nat, Rk t rk
theorem TreeOk.perm {t u : List (Str × Str)} (p : t.Perm u) (o : TreeOk t) : TreeOk u := by
  obtain ⟨rk, hr⟩ := o.up
  have l := p.length_eq
  refine ⟨by have := o.one; omega, by have := o.few; omega, (p.map _).nodup_iff.mp o.nd, fun z h => o.nm z ((p.map _).mem_iff.mpr h), rk, fun q hq => ?_⟩
  obtain ⟨h1, h2⟩ := hr q (p.mem_iff.mpr hq)
  exact ⟨by omega, h2.imp id fun h => ⟨(p.map _).mem_iff.mp h.1, h.2⟩⟩
theorem TreeOk.root {t : List (Str × Str)} (o : TreeOk t) : ("" : Str) ∉ t.map Prod.fst := fun h => (o.nm _ h).ne rfl
/-- the step up -/
theorem TreeOk.step {t : List (Str × Str)} (o : TreeOk t) {rk : Str → Nat} (r : Rk t rk) {a : Str} (h : a ∈ t.map Prod.fst) : ∃ p : Str, par t a = some p ∧ (p = "" ∨ (p ∈ t.map Prod.fst ∧ rk p < rk a)) ∧ rk a < t.length := by
  obtain ⟨z, hz⟩ := par_some o.nd h
  obtain ⟨h1, h2⟩ := r _ (par_mem hz)
  exact ⟨z, hz, h2, h1⟩
/-! ### paths -/
/-- the flags from the top down to a place; n bounds the steps -/
def upN (t : List (Str × Str)) : Nat → Str → List Str
  | 0, _ => []
  | n + 1, a => if a = "" then [] else upN t n ((par t a).getD "") ++ [a]
def pathOf (t : List (Str × Str)) (a : Str) : List Str := upN t t.length a
/-- a place: the root or a flag -/
def Pl (t : List (Str × Str)) (a : Str) : Prop := a = "" ∨ a ∈ t.map Prod.fst
theorem upN_root (t : List (Str × Str)) (n : Nat) : upN t n "" = [] := by
  cases n with
  | zero => rfl
  | succ n => exact if_pos rfl
theorem upN_eq {t : List (Str × Str)} (o : TreeOk t) {rk : Str → Nat} (r : Rk t rk) : ∀ (n m : Nat) (a : Str), Pl t a → (a ≠ "" → rk a < n) → (a ≠ "" → rk a < m) → upN t n a = upN t m a := by
  intro n
  induction n with
  | zero =>
    intro m a hp h1 h2
    by_cases e : a = ""
    · subst e
      rw [upN_root, upN_root]
    · exact absurd (h1 e) (Nat.not_lt_zero _)
  | succ n ih =>
    intro m a hp h1 h2
    by_cases e : a = ""
    · subst e
      rw [upN_root, upN_root]
    · cases m with
      | zero => exact absurd (h2 e) (Nat.not_lt_zero _)
      | succ m =>
        obtain ⟨p, ep, hp2, _⟩ := o.step r (hp.resolve_left e)
        have q1 := h1 e
        have q2 := h2 e
        show (if a = "" then [] else upN t n ((par t a).getD "") ++ [a]) = if a = "" then [] else upN t m ((par t a).getD "") ++ [a]
        rw [if_neg e, if_neg e, ep]
        show upN t n p ++ [a] = upN t m p ++ [a]
        rw [ih m p (hp2.imp id And.left) (fun z => by have := (hp2.resolve_left z).2; omega) (fun z => by have := (hp2.resolve_left z).2; omega)]
theorem path_root (t : List (Str × Str)) : pathOf t "" = [] := upN_root _ _
theorem path_step {t : List (Str × Str)} (o : TreeOk t) {a p : Str} (h : a ∈ t.map Prod.fst) (e : par t a = some p) : pathOf t a = pathOf t p ++ [a] := by
  obtain ⟨rk, r⟩ := o.up
  have ne : a ≠ "" := fun z => o.root (by rw [← z]; exact h)
  obtain ⟨p', e', hp, la⟩ := o.step r h
  cases e.symm.trans e'
  have lt := o.one
  obtain ⟨n, hn⟩ : ∃ n, t.length = n + 1 := ⟨t.length - 1, by omega⟩
  unfold pathOf
  rw [hn]
  show (if a = "" then [] else upN t n ((par t a).getD "") ++ [a]) = _
  rw [if_neg ne, e]
  show upN t n p ++ [a] = _
  rw [upN_eq o r n (n + 1) p (hp.imp id And.left) (fun z => by have := (hp.resolve_left z).2; omega) (fun z => by have := (hp.resolve_left z).2; omega)]
theorem path_perm {t u : List (Str × Str)} (nd : (t.map Prod.fst).Nodup) (p : t.Perm u) (a : Str) : pathOf t a = pathOf u a := by
  unfold pathOf
  rw [p.length_eq]
  generalize u.length = n
  induction n generalizing a with
  | zero => rfl
  | succ n ih =>
    show (if a = "" then [] else upN t n ((par t a).getD "") ++ [a]) = if a = "" then [] else upN u n ((par u a).getD "") ++ [a]
    rw [ih, par_perm nd p]
theorem upN_len (t : List (Str × Str)) : ∀ (n : Nat) (a : Str), (upN t n a).length ≤ n
  | 0, _ => Nat.le_refl _
  | n + 1, a => by
    show (if a = "" then [] else upN t n ((par t a).getD "") ++ [a]).length ≤ n + 1
    by_cases e : a = ""
    · rw [if_pos e]
      exact Nat.zero_le _
    · rw [if_neg e, List.length_append]
      have := upN_len t n ((par t a).getD "")
      show _ + 1 ≤ n + 1
      omega
theorem path_len (t : List (Str × Str)) (a : Str) : (pathOf t a).length ≤ t.length := upN_len _ _ _
theorem upN_all {t : List (Str × Str)} (o : TreeOk t) : ∀ (n : Nat) (a : Str), Pl t a → ∀ z ∈ upN t n a, z ∈ t.map Prod.fst
  | 0, _, _, z, h => by cases h
  | n + 1, a, hp, z, h => by
    have h' : z ∈ (if a = "" then [] else upN t n ((par t a).getD "") ++ [a]) := h
    by_cases e : a = ""
    · rw [if_pos e] at h'
      cases h'
    · rw [if_neg e] at h'
      have ha := hp.resolve_left e
      obtain ⟨rk, r⟩ := o.up
      obtain ⟨p, ep, hp2, _⟩ := o.step r ha
      rw [ep] at h'
      rcases List.mem_append.mp h' with h' | h'
      · exact upN_all o n p (hp2.imp id And.left) z h'
      · rw [List.mem_singleton.mp h']
        exact ha
theorem path_all {t : List (Str × Str)} (o : TreeOk t) {a : Str} (h : Pl t a) : ∀ z ∈ pathOf t a, z ∈ t.map Prod.fst := upN_all o _ _ h
/-! ### sums over children -/
/-- the sum of sizes of the children of a place -/
def kids (t : List (Str × Str)) (p : Str) : List Str := (t.filter fun q => decide (q.2 = p)).map Prod.fst
def resid (t : List (Str × Str)) (n : Int) (sz : Str → Int) (p : Str) : Int := (if p = "" then n else sz p) - ((kids t p).map sz).sum
theorem kids_snoc (t : List (Str × Str)) (q : Str × Str) (p : Str) : kids (t ++ [q]) p = kids t p ++ (if q.2 = p then [q.1] else []) := by
  unfold kids
  rw [List.filter_append, List.map_append]
  by_cases e : q.2 = p
  · rw [if_pos e, List.filter_cons, decide_eq_true e, List.filter_nil] <;> rfl
  · rw [if_neg e, List.filter_cons, decide_eq_false e, List.filter_nil] <;> rfl
theorem kids_perm {t u : List (Str × Str)} (h : t.Perm u) (p : Str) : (kids t p).Perm (kids u p) := (h.filter _).map _
theorem sum_perm {l m : List Int} (h : l.Perm m) : l.sum = m.sum := by
  induction h with
  | nil => rfl
  | cons x _ ih => rw [List.sum_cons, List.sum_cons, ih]
  | swap x y l => rw [List.sum_cons, List.sum_cons, List.sum_cons, List.sum_cons]; omega
  | trans _ _ a b => rw [a, b]
theorem resid_perm {t u : List (Str × Str)} (h : t.Perm u) (n : Int) (sz : Str → Int) (p : Str) : resid t n sz p = resid u n sz p := by
  unfold resid
  rw [sum_perm ((kids_perm h p).map sz)]
theorem resid_snoc (t : List (Str × Str)) (q : Str × Str) (n : Int) (sz : Str → Int) (p : Str) : resid (t ++ [q]) n sz p = if q.2 = p then resid t n sz p - sz q.1 else resid t n sz p := by
  unfold resid
  rw [kids_snoc]
  by_cases e : q.2 = p
  · rw [if_pos e, if_pos e, List.map_append, List.sum_append]
    show _ - (_ + (sz q.1 + 0)) = _
    omega
  · rw [if_neg e, if_neg e, List.append_nil]
end FT


namespace FT
open PySem L2 TL ClX
def letters : Str := "abcdefghijklmnopqrstuvwxyz"
theorem in_letters {c : Nat} (h0 : 97 ≤ c) (h1 : c ≤ 122) : c ∈ letters.cps.toList := by
  have all : ∀ i : Fin 26, (97 + i.1) ∈ letters.cps.toList := by decide +kernel
  have q := all ⟨c - 97, by omega⟩
  rw [show 97 + (⟨c - 97, by omega⟩ : Fin 26).1 = c by show 97 + (c - 97) = c; omega] at q
  exact q
/-- the module's own constants -/
structure Cs (mg : Str → Option Value) : Prop where
  long : ∃ t, mg "LONGEST" = some (.int 8 t)
  lett : ∃ t, mg "LETTERS" = some (.str letters t)
/-- the class Forest: its two constants -/
structure Fc (K : PySem.W.Frag) (mg : Str → Option Value) (CF : Addr) (mc : Value) : Prop where
  gF : mg "Forest" = some (.ref CF)
  rd : CRead K CF mc
  most : ∃ u, CVal K CF mc "MOST" (.int 12) u
  root : ∃ u, CVal K CF mc "ROOT" (.str "") u
/-- one of the text's defs, called by place -/
structure Dn (P : Program) (w : World) (K : PySem.W.Frag) (mg : Str → Option Value) (base : Heap) (CX : CXT) (k : Nat) (x : Str) (ps : List Str) (sp : Sp) (f : Addr) (fd : FuncData) : Prop where
  ok : FnOk P w K mg base CX k f fd ps sp
  kp : PySem.W.keepIn K (.ref f) = true
  bn : Binds K fd ps []
  mgn : mg x = some (.ref f)
def spIsName : Sp := fun vs H Q _ => ∃ z : Str, vs = [.str z] ∧ NameL z ∧ ∀ H', Same H H' → Q (.bl true) H'
def spIsAnc : Sp := fun vs H Q _ => ∃ (q : Addr) (f : Str) (t : List (Str × Str)), vs = [.ref q, .str f] ∧ H q = some (.dK (prs t)) ∧ TreeOk t ∧ f ∈ t.map Prod.fst ∧ ∀ H', Same H H' → Q (.bl false) H'
def spNeed : Sp := fun vs H Q _ => ∃ (q : Addr) (t : List (Str × Str)), vs = [.ref q] ∧ H q = some (.dK (prs t)) ∧ TreeOk t ∧ ∀ H', Same H H' → Q .non H'
section
variable {P : Program} {w : World} {K : PySem.W.Frag} {mg : Str → Option Value} {base : Heap}
theorem scIsName : FnScope ["value", "letter"] ["value"] (defScope s_is_name) := ⟨rfl, rfl, rfl, by decide +kernel, rfl, by decide +kernel, by decide +kernel⟩
theorem ok_isName {f : Addr} {fd : FuncData} (F : Fun K "is_name" "is_name" s_is_name f fd) (T : Nm mg) (C : Cs mg) : FnOk P w K mg base CX0 1 f fd ["value"] spIsName := by
  obtain ⟨t1, g1⟩ := C.long
  obtain ⟨t2, g2⟩ := C.lett
  refine F.ok scIsName (fun vs H Q E h => ?_) (fun cdv A outer s H vs Q E hr h => ?_)
  · obtain ⟨z, rfl, _⟩ := h
    rfl
  · obtain ⟨z, rfl, nm, k⟩ := h
    refine ⟨_, pss_cons (ps_if (PW.pt (pw_or (pt_not (pt_val (pe_callB call_isi (by rfl) T.isi (by decide +kernel) (pa_cons (pv 0) (pa_cons (pe_bltn (v := .ty "str") (u := .type "str") (by rfl) T.str (by decide +kernel) rfl) pa_nil)))))
        (pw_or (pt_not (pt_chain op_le op_le pe_int (pe_callB call_len_str (by rfl) T.len PySem.boot_len (pa_cons (pv 0) pa_nil)) (pe_glob (v := .int 8) (by rfl) g1 ⟨_, rfl⟩))) (pw_or1 (pt_cmpR op_eq (pv 0) pe_str (nomark _))))))
        (pss_one (ps_ret pe_bl)) pss_nil)
      (pss_one (ps_ret (pe_callB (cr_all rfl) (by rfl) T.all (by decide +kernel) (pa_cons (pe_lc (own := [("letter", 1)]) (g := gName 1) (tt := tYes) (te := tOp (fun x y H Q => ∃ (c : Nat) (z : Str), x = .str ⟨#[c]⟩ ∧ y = .str z ∧ Q (.bl (decide (c ∈ z.cps.toList))) H) (tVar 1) (tC (.str letters))) rfl scIsName.nd (pi_str (pv 0))
        (blkOk_by (N := ["value", "letter"]) (sc := defScope s_is_name) (by decide +kernel))
        (fun _ _ _ _ _ => pg_name (i := 1) scIsName.nd rfl (Or.inl rfl)) (fun _ _ _ _ _ => pts_nil) (fun _ _ _ _ _ => pe_cmpR op_in_sign (pv 1) (pe_glob (v := .str letters) (by rfl) g2 ⟨_, rfl⟩) rfl)) pa_nil)))), ?_⟩
    have l := nm.len
    have big : 1000 ≤ sizeLine := by decide
    refine ⟨_, rfl, .str z, _, _, _, true, rfl, .ty _, .base (.str z), kit_ty (by decide +kernel), true, rfl, ?_⟩
    refine iteF ?_
    refine ⟨_, rfl, z, rfl, by omega, _, _, rfl, rfl, _, rfl, ?_⟩
    rw [if_pos (decide_eq_true (by omega))]
    refine ⟨_, _, rfl, rfl, _, rfl, ?_⟩
    rw [decide_eq_true (show (z.length : Int) ≤ 8 by omega)]
    refine iteF ?_
    refine ⟨_, rfl, rfl, _, rfl, ?_⟩
    rw [decide_eq_false (show ¬ V.str z = V.str "self" from fun e => nm.self (V.str.inj e))]
    refine iteF ?_
    refine ⟨_, rfl, z, rfl, fun D nD => lc_it walk_str (fun i H' => Same H H' ∧ H' D = some (.lst ((List.replicate i true).map V.bl))) ⟨same_new nD, upd_same⟩ (fun _ _ _ _ => trivial) ?_ ?_⟩
    · intro i x Ha Hb hi ⟨q1, q2⟩ ⟨e, ch, hc, ex⟩
      subst e
      subst ex
      have hm : ch ∈ letters.cps.toList := by
        have hz : ch ∈ tl z := by
          rw [← Array.getElem?_toList] at hc
          exact List.mem_of_getElem? hc
        exact in_letters (nm.1 ch hz).1 (nm.1 ch hz).2
      refine ⟨rfl, ?_⟩
      refine ⟨_, rfl, ch, letters, rfl, rfl, _, q2, ?_, ?_, ?_⟩
      · rw [List.length_map, List.length_replicate]
        have : z.cps.size = z.length := rfl
        omega
      · exact Same.put q1 nD
      · rw [upd_same, decide_eq_true hm, List.replicate_succ', List.map_append] <;> rfl
    · intro H' ⟨q1, q2⟩
      refine ⟨D, _, rfl, SqL.of q2, ?_⟩
      have e : (List.replicate z.cps.size true).all id = true := by simp
      rw [e]
      exact k H' q1
def rankS (t : List (Str × Str)) (rk : Str → Nat) (σ : St) : Nat := match σ[3]? with
  | some (some (V.str a)) => if a ∈ t.map Prod.fst then rk a + 1 else 0
  | _ => 0
theorem scIsAnc : FnScope ["parents", "name", "seen", "above"] ["parents", "name"] (defScope s_is_ancestor) := ⟨rfl, rfl, rfl, by decide +kernel, rfl, by decide +kernel, by decide +kernel⟩
theorem ok_isAnc {f : Addr} {fd : FuncData} (F : Fun K "is_ancestor" "is_ancestor" s_is_ancestor f fd) : FnOk P w K mg base CX0 1 f fd ["parents", "name"] spIsAnc := by
  refine F.ok scIsAnc (fun vs H Q E h => ?_) (fun cdv A outer s H vs Q E hr h => ?_)
  · obtain ⟨q, g, t, rfl, _⟩ := h
    rfl
  · obtain ⟨q, g, t, rfl, hq, o, hg, k⟩ := h
    have hu := hu_of hr
    obtain ⟨rk, r⟩ := o.up
    refine ⟨_, pss_cons (ps_set (i := 2) scIsAnc.nd rfl (.inl rfl) (pe_lst pa_nil))
      (pss_cons (ps_set (i := 3) scIsAnc.nd rfl (.inl rfl) (pe_dget hu (pv 0) (pv 1) (fun _ _ => rfl)))
      (pss_cons (ps_while PassesOwn.never (PW.pt (pw_and (pt_cmp (pc_din hu (pv 3) (pv 0))) (pw_and1 (pt_cmpR op_notIn_seq (pv 3) (pv 2) rfl))))
        (pss_cons (ps_if (pt_cmpR op_eq (pv 3) (pv 1) (nomark _)) (pss_one (ps_ret pe_bl)) pss_nil)
        (pss_cons (ps_expr (pe_bm PySem.F.plainAttrs_list PySem.F.slot_list_append PySem.F.type_list_append mt_append (pv 2) (pa_cons (pv 3) pa_nil)))
        (pss_one (ps_set (i := 3) scIsAnc.nd rfl (.inl rfl) (pe_dget hu (pv 0) (pv 3) (fun _ _ => rfl)))))))
      (pss_one (ps_ret pe_bl)))), ?_⟩
    obtain ⟨p0, v0, w0, i0⟩ := o.step r hg
    have few := o.few
    have big : 1000 ≤ sizeLine := by decide
    refine ⟨by show 0 ≤ sizeLine; omega, fun l nl => ?_⟩
    have hq1 : (upd H l (.lst [])) q = some (.dK (prs t)) := by rw [upd_ne (ne_of_none hq nl)]; exact hq
    have ql : q ≠ l := ne_of_none hq nl
    refine ⟨_, rfl, _, rfl, q, V.str p0, rfl, by have z := DGet.k (k := Sum.inr g) hq1; rw [val_prs, v0] at z; exact z, ?_⟩
    refine while_by (fun σ H' => ∃ (a : Str) (ws : List Str), σ = [some (.ref q), some (.str g), some (.ref l), some (.str a)] ∧ H' l = some (.lst (ws.map V.str)) ∧ (∀ b u, H b = some u → H' b = some u) ∧ (a = "" ∨ (a ∈ t.map Prod.fst ∧ rk a < rk g ∧ ws.length + rk a < t.length)))
      (fun σ _ => rankS t rk σ) ⟨p0, [], rfl, upd_same, same_new nl, w0.imp id fun z => ⟨z.1, z.2, by simp only [List.length_nil]; omega⟩⟩ ?_ ?_
    · rintro σ Hx ⟨a, ws, rfl, hl, sm, ha⟩
      have hqx := sm _ _ hq
      have dg := DGet.k (k := Sum.inr a) hqx
      rw [val_prs] at dg
      refine ⟨_, rfl, _, rfl, q, _, rfl, dg, _, rfl, ?_⟩
      rcases ha with rfl | ⟨ha, ia, la⟩
      · rw [par_none o.root]
        refine iteF ?_
        exact iteF (k Hx sm)
      · obtain ⟨p, hv, hp, il⟩ := o.step r ha
        rw [hv]
        show if true = true then _ else _
        rw [if_pos rfl]
        refine ⟨_, rfl, _, rfl, l, _, rfl, .inl (SqL.of hl), rfl, flat_strs ws, _, rfl, ?_⟩
        rw [inV_strs]
        by_cases hw : a ∈ ws
        · rw [decide_eq_true hw]
          exact iteF (k Hx sm)
        · rw [decide_eq_false hw]
          show if true = true then _ else _
          rw [if_pos rfl]
          refine ⟨_, rfl, _, rfl, rfl, _, rfl, ?_⟩
          rw [decide_eq_false (show ¬ V.str a = V.str g from fun e => by
            have := V.str.inj e
            subst this
            omega)]
          refine iteF ?_
          refine ⟨_, rfl, .inl ⟨rfl, _, SqL.of hl⟩, _, rfl, l, _, _, rfl, rfl, hl, by rw [List.length_map]; omega, ?_⟩
          have hq2 : (upd Hx l (.lst (ws.map V.str ++ [.str a]))) q = some (.dK (prs t)) := by rw [upd_ne ql]; exact hqx
          refine ⟨_, rfl, _, rfl, q, V.str p, rfl, by have z := DGet.k (k := Sum.inr a) hq2; rw [val_prs, hv] at z; exact z, ?_⟩
          refine ⟨⟨p, ws ++ [a], rfl, by rw [upd_same, List.map_append] <;> rfl, fun b u e => ?_, ?_⟩, ?_⟩
          · rw [upd_ne (ne_of_none e nl)]
            exact sm b u e
          · rcases hp with rfl | ⟨hp, ip⟩
            · exact .inl rfl
            · refine .inr ⟨hp, by omega, ?_⟩
              rw [List.length_append]
              show ws.length + 1 + rk p < t.length
              omega
          · show rankS t rk [some (.ref q), some (.str g), some (.ref l), some (.str p)] < rankS t rk [some (.ref q), some (.str g), some (.ref l), some (.str a)]
            have e1 : rankS t rk [some (.ref q), some (.str g), some (.ref l), some (.str a)] = rk a + 1 := if_pos ha
            rw [e1]
            rcases hp with rfl | ⟨hp, ip⟩
            · have e2 : rankS t rk [some (.ref q), some (.str g), some (.ref l), some (.str "")] = 0 := if_neg o.root
              rw [e2]
              omega
            · have e2 : rankS t rk [some (.ref q), some (.str g), some (.ref l), some (.str p)] = rk p + 1 := if_pos hp
              rw [e2]
              omega
    · intro σ Hx Qa Qb h
      rintro ⟨v, e1, w, e2, a, r, e3, g, d, e4, z⟩
      refine ⟨v, e1, w, e2, a, r, e3, g, d, e4, ?_⟩
      cases d with
      | false =>
        rw [if_neg (by decide)] at z ⊢
        exact h _ _ z
      | true =>
        rw [if_pos rfl] at z ⊢
        obtain ⟨v, e1, w, e2, p, xs, e3, e4, e5, e6, b, e7, z⟩ := z
        exact ⟨v, e1, w, e2, p, xs, e3, e4, e5, e6, b, e7, h _ _ z⟩
theorem scNeed : FnScope ["parents", "name", "above", "other"] ["parents"] (defScope s_need_parents) := ⟨rfl, rfl, rfl, by decide +kernel, rfl, by decide +kernel, by decide +kernel⟩
theorem ok_need {f fI fA CF : Addr} {mc : Value} {fd fdI fdA : FuncData} (F : Fun K "need_parents" "need_parents" s_need_parents f fd) (T : Nm mg) (C : Cs mg) (Z : Fc K mg CF mc)
    (FI : Dn P w K mg base CX0 1 "is_name" ["value"] spIsName fI fdI) (FA : Dn P w K mg base CX0 1 "is_ancestor" ["parents", "name"] spIsAnc fA fdA) : FnOk P w K mg base CX0 2 f fd ["parents"] spNeed := by
  obtain ⟨um, cm⟩ := Z.most
  obtain ⟨ur, cr⟩ := Z.root
  refine F.ok scNeed (fun vs H Q E h => ?_) (fun cdv A outer s H vs Q E hr h => ?_)
  · obtain ⟨q, t, rfl, _⟩ := h
    rfl
  · obtain ⟨q, t, rfl, hq, o, k⟩ := h
    have hu := hu_of hr
    obtain ⟨rk, r⟩ := o.up
    refine ⟨_, pss_cons (ps_if (PW.pt (pw_or (pt_not (pt_val (pe_callB call_isi (by rfl) T.isi (by decide +kernel) (pa_cons (pv 0) (pa_cons (pe_bltn (v := .ty "dict") (u := .type "dict") (by rfl) T.dct (by decide +kernel) rfl) pa_nil)))))
        (pw_or1 (pt_not (pt_chain op_le op_le pe_int (pe_callB call_lenD (by rfl) T.len PySem.boot_len (pa_cons (pv 0) pa_nil)) (pe_cval (pe_glob (v := .ref CF) (by rfl) Z.gF rfl))))))) pss_never pss_nil)
      (pss_cons (ps_if (pt_not (pt_val (pe_callB (cr_all rfl) (by rfl) T.all (by decide +kernel) (pa_cons (pe_lock (pe_lc (own := [("name", 1)]) (g := gName 1) (tt := tYes) rfl scNeed.nd (pi_keys (pv 0))
        (blkOk_by (N := ["parents", "name", "above", "other"]) (sc := defScope s_need_parents) (by decide +kernel))
        (fun _ _ _ _ _ => pg_name (i := 1) scNeed.nd rfl (Or.inl rfl)) (fun _ _ _ _ _ => pts_nil) (fun _ _ _ _ _ => pe_call FI.ok hr rfl FI.mgn FI.kp FI.bn .nil pass0 (pa_cons (pv 1) pa_nil)))) pa_nil)))) pss_never pss_nil)
      (pss_one (ps_for PassesOwn.never rfl (pi_list (pe_callB (call_sortedD rfl) (by rfl) T.srt (by decide +kernel) (pa_cons (pv 0) pa_nil))) (pg_name (i := 1) scNeed.nd rfl (.inl rfl))
        (pss_cons (ps_set (i := 2) scNeed.nd rfl (.inl rfl) (pe_dget hu (pv 0) (pv 1) (fun _ _ => rfl)))
        (pss_cons (ps_if (PW.pt (pw_or (pt_not (pt_val (pe_callB call_isi (by rfl) T.isi (by decide +kernel) (pa_cons (pv 2) (pa_cons (pe_bltn (v := .ty "str") (u := .type "str") (by rfl) T.str (by decide +kernel) rfl) pa_nil)))))
          (pw_or1 (PW.pt (pw_and (pt_cmpR op_ne (pv 2) (pe_cval (pe_glob (v := .ref CF) (by rfl) Z.gF rfl)) (nomark _)) (pw_and1 (pt_cmp (pc_dnotin hu (pv 2) (pv 0))))))))) pss_never pss_nil)
        (pss_one (ps_if (pt_val (pe_call FA.ok hr rfl FA.mgn FA.kp FA.bn .nil pass0 (pa_cons (pe_lock (pe_dc (own := [("other", 3)]) (g := gName 3) (tt := tB (tCB (rIsi K) (tCons (tDGet (tVar 0) (tVar 3)) (tCons (tC (.ty "str")) tNil)))) rfl scNeed.nd (pi_keys (pv 0))
          (blkOk_by (N := ["parents", "name", "above", "other"]) (sc := defScope s_need_parents) (by decide +kernel))
          (fun _ _ _ _ _ => pg_name (i := 3) scNeed.nd rfl (Or.inl rfl)) (fun _ _ _ _ _ => pts_one (pt_val (pe_callB call_isi (by rfl) T.isi (by decide +kernel) (pa_cons (pe_dget hu (pv 0) (pv 3) (fun _ _ => rfl)) (pa_cons (pe_bltn (v := .ty "str") (u := .type "str") (by rfl) T.str (by decide +kernel) rfl) pa_nil)))))
          (fun _ _ _ _ _ => pv 3) (fun _ _ _ _ _ => pe_dget hu (pv 0) (pv 3) (fun _ _ => rfl)))) (pa_cons (pv 1) pa_nil)))) pss_never pss_nil))))))), ?_⟩
    have few := o.few
    have one := o.one
    have big : 1000 ≤ sizeLine := by decide
    have lp := prs_len t
    -- a dict, of one to twelve
    refine ⟨_, rfl, .ref q, _, _, _, true, rfl, .ty _, .base (.dK hq), kit_ty (by decide +kernel), true, rfl, ?_⟩
    refine iteF ?_
    refine ⟨_, rfl, q, _, rfl, hq, _, _, rfl, rfl, _, rfl, ?_⟩
    rw [if_pos (decide_eq_true (by omega))]
    refine ⟨CF, mc, _, um, rfl, Z.rd, cm, _, _, rfl, rfl, _, rfl, ?_⟩
    rw [decide_eq_true (show ((prs t).length : Int) ≤ 12 by omega)]
    refine iteF ?_
    -- all are names
    refine ⟨q, .dK (prs t), hq, trivial, fun od => ⟨_, rfl, q, od, rfl, .inl ⟨prs t, upd_same, fun D nD => ?_⟩⟩⟩
    have Dq : D ≠ q := (ne_of_none upd_same nD).symm
    have key : ∀ {i : Nat} {k : Key} {v : V}, (prs t)[i]? = some (k, v) → ∃ a p : Str, k = Sum.inr a ∧ v = .str p ∧ t[i]? = some (a, p) := fun {i k v} h => by
      unfold prs kvT at h
      rw [List.map_map, List.getElem?_map] at h
      obtain ⟨⟨a, p⟩, hp, e⟩ := Option.map_eq_some_iff.mp h
      cases e
      exact ⟨a, p, rfl, rfl, hp⟩
    refine lc_it walk_keys (fun i H' => Same (upd H q (.frz od (.dK (prs t)))) H' ∧ H' D = some (.lst ((List.replicate i true).map V.bl))) ⟨same_new nD, upd_same⟩ (fun i H' _ z => z.1 q _ upd_same) ?_ ?_
    · intro i x Ha Hb hi ⟨q1, q2⟩ ⟨e, k', v, hk, ex⟩
      subst e
      subst ex
      obtain ⟨a, p, rfl, rfl, hp⟩ := key hk
      refine ⟨rfl, ?_⟩
      refine ⟨_, rfl, a, rfl, o.nm a (List.mem_map.mpr ⟨(a, p), List.mem_of_getElem? hp, rfl⟩), fun H' s' => ⟨_, s' D _ q2, ?_, ?_, ?_⟩⟩
      · rw [List.length_map, List.length_replicate]
        omega
      · intro b u e
        rw [upd_ne (ne_of_none e nD)]
        exact s' _ _ (q1 b u e)
      · rw [upd_same, List.replicate_succ', List.map_append] <;> rfl
    intro H1 ⟨q1, q2⟩
    refine ⟨q1 q _ upd_same, D, _, rfl, SqL.of (by rw [upd_ne Dq]; exact q2), true, by rw [show (List.replicate (prs t).length true).all id = true by simp], ?_⟩
    refine iteF ?_
    have s1 : Same H (upd H1 q (.dK (prs t))) := unlock_same hq q1
    -- one by one, in their order
    refine ⟨_, rfl, q, prs t, t.map Prod.fst, rfl, .inl upd_same, prs_keys t, by rw [List.length_map]; omega, fun ys p perm srt np => ⟨p, rfl, ⟨_, SqL.of upd_same⟩, ?_⟩⟩
    obtain ⟨H2, e2⟩ : ∃ X, X = upd (upd H1 q (.dK (prs t))) p (.lst (ys.map V.str)) := ⟨_, rfl⟩
    have s2 : Same H H2 := s1.trans (e2 ▸ same_new np)
    have at2 : H2 p = some (.lst (ys.map V.str)) := by rw [e2]; exact upd_same
    rw [← e2]
    refine for_it walk_list (fun j σ' H' => (∃ u1 u2 u3, σ' = [some (.ref q), u1, u2, u3]) ∧ Same H2 H') ⟨⟨_, _, _, rfl⟩, fun _ _ e => e⟩ (fun j σ' H' _ z => SqL.of (z.2 _ _ at2)) ?_ ?_
    · intro j x σ' Ha Hb hj ⟨⟨u1, u2, u3, e⟩, sa⟩ ⟨eb, ex⟩
      subst e
      subst eb
      rw [List.getElem?_map] at ex
      obtain ⟨a, ha, rfl⟩ := Option.map_eq_some_iff.mp ex
      have ma : a ∈ t.map Prod.fst := perm.mem_iff.mp (List.mem_of_getElem? ha)
      obtain ⟨pa, hv, hpa, ia⟩ := o.step r ma
      have s0a : Same H Hb := s2.trans sa
      have hqa := s0a _ _ hq
      refine ⟨_, rfl, _, rfl, q, V.str pa, rfl, by have z := DGet.k (k := Sum.inr a) hqa; rw [val_prs, hv] at z; exact z, ?_⟩
      refine ⟨_, rfl, .str pa, _, _, _, true, rfl, .ty _, .base (.str pa), kit_ty (by decide +kernel), true, rfl, ?_⟩
      refine iteF ?_
      have anc : tIfS (tB (tCall spIsAnc [] E0 (tCons (tLockE (tDc (iKeys (tVar 0)) (gName 3) (tB (tCB (rIsi K) (tCons (tDGet (tVar 0) (tVar 3)) (tCons (tC (.ty "str")) tNil)))) (tVar 3) (tDGet (tVar 0) (tVar 3)) [3])) (tCons (tVar 1) tNil)))) tNever tNext
          ⟨fun σ' H' => (∃ u1 u2 u3, σ' = [some (.ref q), u1, u2, u3]) ∧ Same H2 H', fun v H' => Q v H', fun σ' H' => Q .non H', fun σ' H' => (∃ u1 u2 u3, σ' = [some (.ref q), u1, u2, u3]) ∧ Same H2 H'⟩ [some (.ref q), some (.str a), some (.str pa), u3] Hb := by
        refine ⟨q, .dK (prs t), hqa, trivial, fun od => ⟨_, rfl, q, od, rfl, .inl ⟨prs t, upd_same, fun D nD => ?_⟩⟩⟩
        have Dq : D ≠ q := (ne_of_none upd_same nD).symm
        refine dc_it walk_keys (fun i H' => Same (upd Hb q (.frz od (.dK (prs t)))) H' ∧ H' D = some (.dK (prs (t.take i)))) ⟨same_new nD, upd_same⟩ (fun i H' _ z => z.1 q _ upd_same) ?_ ?_
        · intro i x Hc Hd hi ⟨q1, q2⟩ ⟨e, k', v, hk, ex⟩
          subst e
          subst ex
          obtain ⟨b, r', rfl, rfl, hp⟩ := key hk
          have fz := q1 q _ upd_same
          have dg : DGet Hd q (.str b) (some (.str r')) := .inl ⟨prs t, Sum.inr b, .inr ⟨od, fz⟩, rfl, by rw [val_prs, par_of o.nd (List.mem_of_getElem? hp)] <;> rfl⟩
          have nb : b ∉ (t.take i).map Prod.fst := fun hm => by
            rw [List.map_take] at hm
            obtain ⟨j, hj⟩ := List.mem_iff_getElem?.mp hm
            have jl := (List.getElem?_eq_some_iff.mp hj).1
            rw [List.length_take] at jl
            rw [List.getElem?_take, if_pos (by omega)] at hj
            have e0 : (t.map Prod.fst)[i]? = some b := by rw [List.getElem?_map, hp] <;> rfl
            have := (List.getElem?_inj (by omega) o.nd).mp (hj.trans e0.symm)
            omega
          refine ⟨rfl, ?_⟩
          refine ⟨_, rfl, _, rfl, q, _, rfl, dg, .str r', _, _, _, true, rfl, .ty _, .base (.str r'), kit_ty (by decide +kernel), true, rfl, ?_⟩
          show if true = true then _ else _
          rw [if_pos rfl]
          refine ⟨_, rfl, _, rfl, _, rfl, q, _, rfl, dg, prs (t.take i), Sum.inr b, rfl, q2, ?_, ?_, ?_⟩
          · rw [prs_len, List.length_take]
            omega
          · intro c u e
            rw [upd_ne (ne_of_none e nD)]
            exact q1 c u e
          · rw [upd_same, put_new nb, take_more hp]
        · intro Hc ⟨q1, q2⟩
          rw [lp, List.take_length] at q2
          refine ⟨q1 q _ upd_same, _, rfl, D, a, t, rfl, by rw [upd_ne Dq]; exact q2, o, ma, fun H' s' => ⟨false, rfl, iteF ⟨⟨_, _, _, rfl⟩, (sa.trans (unlock_same hqa q1)).trans s'⟩⟩⟩
      rcases hpa with rfl | ⟨hp, _⟩
      · refine ⟨_, rfl, CF, mc, _, ur, rfl, Z.rd, cr, rfl, _, rfl, ?_⟩
        rw [decide_eq_true rfl]
        refine iteF ?_
        exact iteF anc
      · obtain ⟨pp, hv2, _⟩ := o.step r hp
        refine ⟨_, rfl, CF, mc, _, ur, rfl, Z.rd, cr, rfl, _, rfl, ?_⟩
        have ne : ¬ V.str pa = V.str "" := fun e => o.root (by rw [← V.str.inj e]; exact hp)
        rw [decide_eq_false ne]
        show if true = true then _ else _
        rw [if_pos rfl]
        refine ⟨_, rfl, _, rfl, q, V.str pp, rfl, by have z := DGet.k (k := Sum.inr pa) hqa; rw [val_prs, hv2] at z; exact z, _, rfl, ?_⟩
        exact iteF anc
    · intro σ' H' ⟨_, sa⟩
      exact k H' (s2.trans sa)
/-! ### Forest -/
/-- a forest at x, its pairs ts -/
def FAt (CF : Addr) (H : Hp) (x : Addr) (ts : List (Str × Str)) : Prop := ∃ dx dq, H x = some (.ins CF dx [("above", .ref dq)]) ∧ H dq = some (.dK (prs ts))
theorem FAt.mono {CF x : Addr} {H H' : Hp} {ts : List (Str × Str)} (s : Same H H') (h : FAt CF H x ts) : FAt CF H' x ts := let ⟨dx, dq, e1, e2⟩ := h; ⟨dx, dq, s _ _ e1, s _ _ e2⟩
/-- in ascending order -/
def Asc (ts : List (Str × Str)) : Prop := PyProof.Rows.sortedS (ts.map Prod.fst) = true
/-- facts of a class of the text -/
structure FoC (K : PySem.W.Frag) (CF : Addr) : Prop where
  cl : Cls K CF
  nA : NoAttr K CF "above"
def spFInit (CF : Addr) : Sp := fun vs H Q _ => ∃ (x q dx : Addr) (t : List (Str × Str)), vs = [.ref x, .ref q] ∧ H x = some (.ins CF dx []) ∧ H q = some (.dK (prs t)) ∧ TreeOk t ∧
  ∀ (H' : Hp) (ts : List (Str × Str)), ts.Perm t → Asc ts → FAt CF H' x ts → (∀ b o, b ≠ x → H b = some o → H' b = some o) → Q .non H'
def spFFlags (CF : Addr) : Sp := fun vs H Q _ => ∃ (x : Addr) (ts : List (Str × Str)), vs = [.ref x] ∧ FAt CF H x ts ∧ ∀ p, H p = none → Q (.ref p) (upd H p (.lst ((ts.map Prod.fst).map V.str)))
def spFParents (CF : Addr) : Sp := fun vs H Q _ => ∃ (x : Addr) (ts : List (Str × Str)), vs = [.ref x] ∧ FAt CF H x ts ∧ ∀ p, H p = none → Q (.ref p) (upd H p (.dK (prs ts)))
theorem scFInit : FnScope ["self", "parents", "name"] ["self", "parents"] (defScope s_Forest___init__) := ⟨rfl, rfl, rfl, by decide +kernel, rfl, by decide +kernel, by decide +kernel⟩
theorem perm_pairs : ∀ {ts t : List (Str × Str)}, (t.map Prod.fst).Nodup → (ts.map Prod.fst).Perm (t.map Prod.fst) → (∀ p ∈ ts, p ∈ t) → ts.Perm t
  | [], t, _, pf, _ => by
    have := pf.length_eq
    rw [List.length_map, List.length_map] at this
    rw [List.length_eq_zero_iff.mp (this.symm : t.length = 0)]
  | p :: ts, t, nd, pf, h => by
    have mp := h p (List.mem_cons_self ..)
    have pe := List.perm_cons_erase mp
    have pk : (ts.map Prod.fst).Perm ((t.erase p).map Prod.fst) := (pf.trans (pe.map Prod.fst)).cons_inv
    have nk := (pe.map Prod.fst).nodup_iff.mp nd
    obtain ⟨n1, n2⟩ := List.nodup_cons.mp (show (p.1 :: (t.erase p).map Prod.fst).Nodup from nk)
    refine ((perm_pairs n2 pk fun q hq => ?_).cons p).trans pe.symm
    rcases List.mem_cons.mp (pe.mem_iff.mp (h q (List.mem_cons_of_mem _ hq))) with e | m
    · exfalso
      refine n1 (pk.mem_iff.mp (List.mem_map.mpr ⟨q, hq, ?_⟩))
      rw [e]
    · exact m
theorem ok_finit {f fN CF : Addr} {fd fdN : FuncData} (F : Fun K "__init__" "Forest.__init__" s_Forest___init__ f fd) (T : Nm mg) (O : FoC K CF) (GN : Dn P w K mg base CX0 2 "need_parents" ["parents"] spNeed fN fdN) :
    FnOk P w K mg base CX0 3 f fd ["self", "parents"] (spFInit CF) := by
  refine F.ok scFInit (fun vs H Q E h => ?_) (fun cdv A outer s H vs Q E hr h => ?_)
  · obtain ⟨x, q, dx, t, rfl, _⟩ := h
    rfl
  · obtain ⟨x, q, dx, t, rfl, hx, hq, o, k⟩ := h
    have hu := hu_of hr
    refine ⟨_, pss_cons (ps_expr (pe_call GN.ok hr rfl GN.mgn GN.kp GN.bn .nil pass0 (pa_cons (pv 1) pa_nil)))
      (pss_one (ps_fld (pv 0) (pe_dc (own := [("name", 2)]) (g := gName 2) (tt := tYes) rfl scFInit.nd (pi_list (pe_callB (call_sortedD rfl) (by rfl) T.srt (by decide +kernel) (pa_cons (pv 1) pa_nil)))
        (blkOk_by (N := ["self", "parents", "name"]) (sc := defScope s_Forest___init__) (by decide +kernel))
        (fun _ _ _ _ _ => pg_name (i := 2) scFInit.nd rfl (Or.inl rfl)) (fun _ _ _ _ _ => pts_nil) (fun _ _ _ _ _ => pv 2) (fun _ _ _ _ _ => pe_dget hu (pv 1) (pv 2) (fun _ _ => rfl))) rfl)), ?_⟩
    have few := o.few
    have big : 1000 ≤ sizeLine := by decide
    refine ⟨_, rfl, q, t, rfl, hq, o, fun H1 s1 => ?_⟩
    have hq1 := s1 _ _ hq
    refine ⟨_, rfl, q, prs t, t.map Prod.fst, rfl, .inl hq1, prs_keys t, by rw [List.length_map]; omega, fun ys p perm srt np => ⟨p, rfl, ⟨_, SqL.of upd_same⟩, fun D nD => ?_⟩⟩
    obtain ⟨H2, e2⟩ : ∃ X, X = upd H1 p (.lst (ys.map V.str)) := ⟨_, rfl⟩
    have s2 : Same H H2 := s1.trans (e2 ▸ same_new np)
    have at2 : H2 p = some (.lst (ys.map V.str)) := by rw [e2]; exact upd_same
    rw [← e2] at nD ⊢
    have ndy : ys.Nodup := perm.nodup_iff.mpr o.nd
    have ly := perm.length_eq
    rw [List.length_map] at ly
    refine dc_it walk_list (fun i H' => Same H2 H' ∧ ∃ ts : List (Str × Str), H' D = some (.dK (prs ts)) ∧ ts.map Prod.fst = ys.take i ∧ ∀ p ∈ ts, p ∈ t) ⟨same_new nD, [], upd_same, by rw [List.take_zero] <;> rfl, fun p h => by cases h⟩ (fun i H' _ z => SqL.of (z.1 _ _ at2)) ?_ ?_
    · intro i y Ha Hb hi ⟨q1, ts, hD, ets, hts⟩ ⟨eb, ex⟩
      subst eb
      rw [List.getElem?_map] at ex
      obtain ⟨a, ha, rfl⟩ := Option.map_eq_some_iff.mp ex
      have ma : a ∈ t.map Prod.fst := perm.mem_iff.mp (List.mem_of_getElem? ha)
      obtain ⟨pa, hv⟩ := par_some o.nd ma
      have hqa := q1 _ _ (s2 _ _ hq)
      have fresh : a ∉ ts.map Prod.fst := by
        rw [ets]
        intro hm
        obtain ⟨j, hj⟩ := List.mem_iff_getElem?.mp hm
        have jl := (List.getElem?_eq_some_iff.mp hj).1
        have il := (List.getElem?_eq_some_iff.mp ha).1
        rw [List.length_take] at jl
        rw [List.getElem?_take, if_pos (by omega)] at hj
        have := (List.getElem?_inj (by omega) ndy).mp (hj.trans ha.symm)
        omega
      have lt := congrArg List.length ets
      rw [List.length_map, List.length_take] at lt
      refine ⟨rfl, ?_⟩
      refine ⟨_, rfl, _, rfl, _, rfl, q, V.str pa, rfl, by have z := DGet.k (k := Sum.inr a) hqa; rw [val_prs, hv] at z; exact z, prs ts, Sum.inr a, rfl, hD, by rw [prs_len]; omega, ?_, ts ++ [(a, pa)], ?_, ?_, fun z hz => ?_⟩
      · intro b u e
        rw [upd_ne (ne_of_none e nD)]
        exact q1 b u e
      · rw [upd_same, put_new fresh]
      · rw [List.map_append, ets, take_more ha] <;> rfl
      · rcases List.mem_append.mp hz with h | h
        · exact hts z h
        · rw [List.mem_singleton.mp h]
          exact par_mem hv
    · intro H3 ⟨q1, ts, hD, ets, hts⟩
      rw [List.length_map, List.take_length] at ets
      have s3 : Same H H3 := s2.trans q1
      refine ⟨_, rfl, x, CF, dx, [], rfl, s3 _ _ hx, O.cl, O.nA, by show 0 < 1000; decide, ?_⟩
      have xD : D ≠ x := (ne_of_none (s2 _ _ hx) nD).symm
      refine k _ ts (perm_pairs o.nd (by rw [ets]; exact perm) hts) (by unfold Asc; rw [ets]; exact srt) ⟨dx, D, upd_same, by rw [upd_ne xD]; exact hD⟩ fun b u bx e => ?_
      rw [upd_ne bx]
      exact s3 b u e
theorem scFFlags : FnScope ["self"] ["self"] (defScope s_Forest_flags) := ⟨rfl, rfl, rfl, by decide +kernel, rfl, by decide +kernel, by decide +kernel⟩
theorem ok_fflags {f CF : Addr} {fd : FuncData} (F : Fun K "flags" "Forest.flags" s_Forest_flags f fd) (T : Nm mg) (O : FoC K CF) : FnOk P w K mg base CX0 1 f fd ["self"] (spFFlags CF) := by
  refine F.ok scFFlags (fun vs H Q E h => ?_) (fun cdv A outer s H vs Q E hr h => ?_)
  · obtain ⟨x, ts, rfl, _⟩ := h
    rfl
  · obtain ⟨x, ts, rfl, ⟨dx, dq, hx, hd⟩, k⟩ := h
    refine ⟨_, pss_one (ps_ret (pe_callTy (call_listD rfl) (by rfl) T.lst (by decide +kernel) (pa_cons (pe_fld (pv 0) rfl) pa_nil))), ?_⟩
    refine ⟨_, rfl, x, CF, dx, _, .ref dq, rfl, hx, O.cl, O.nA, rfl, dq, prs ts, rfl, .inl hd, fun p np => ?_⟩
    rw [keys_prs]
    exact k p np
/-- a property of a class -/
structure Pr1 (P : Program) (w : World) (K : PySem.W.Frag) (mg : Str → Option Value) (base : Heap) (CF : Addr) (x : Str) (sp : Sp) (p g : Addr) (fd : FuncData) : Prop where
  pr : PropOf K CF x p g
  fn : FnOk P w K mg base CX0 1 g fd ["self"] sp
  bn : Binds K fd ["self"] []
def spPlacesOf (CF : Addr) : Sp := fun vs H Q _ => ∃ (x : Addr) (ts : List (Str × Str)), vs = [.ref x] ∧ FAt CF H x ts ∧ ts.length ≤ 12 ∧ ∀ p H', Same H H' → H p = none → H' p = some (.lst ((("" : Str) :: ts.map Prod.fst).map V.str)) → Q (.ref p) H'
end
end FT


/-! the package's errors: their __init__, how they are raised. -/
namespace FT
open PySem L2 TL ClX
/-- what the top has written of an error class at C, its __init__ at I; f its attribute, or the empty text -/
structure Er (K : PySem.W.Frag) (mg : Str → Option Value) (nm f : Str) (C I : Addr) : Prop where
  g : mg nm = some (.ref C)
  x : XCls K C
  ini : PySem.W.findIn K (.ref C) "__init__" = some (some (.ref I))
  ity : PySem.W.typeIn K (.ref I) = some (.type "function")
  no : PySem.W.findIn K (.ref C) f = some none
/-- the base class -/
structure Rt (K : PySem.W.Frag) (mg : Str → Option Value) (R : Addr) : Prop where
  g : mg "RolloutError" = some (.ref R)
  ini : XIni K R
def spInit1 (C : Addr) (f : Str) : Sp := fun vs H Q _ => ∃ (a : Addr) (v : V), vs = [.ref a, v] ∧ H a = some (exo a C none) ∧ ∀ d, H d = none → d ≠ a → Q .non (upd (upd H d (exd d [(f, v)])) a (exo a C (some d)))
def spInit0 (C : Addr) : Sp := fun vs H Q _ => ∃ (a : Addr), vs = [.ref a] ∧ H a = some (exo a C none) ∧ Q .non H
/-- C(v): what is asked -/
theorem raise1 {C : Addr} {f : Str} {H1 : Hp} {Q : XK} {v : V} (k : ∀ d, H1 d = none → Q (.ref C) (some d) (upd H1 d (.xd [(f, v)]))) :
    [v].length ≤ 1000 ∧ ∀ a, H1 a = none → spInit1 C f (.ref a :: ([v] ++ [])) (upd H1 a (exo a C none))
      (fun w H2 => w = .non ∧ ∃ (d : Addr) (fs : List (Str × V)), H2 a = some (exo a C (some d)) ∧ H2 d = some (exd d fs) ∧ H1 d = none ∧ Q (.ref C) (some d) (upd (del H2 a) d (.xd fs))) (fun _ _ _ => False) := by
  refine ⟨by show 1 ≤ 1000; omega, fun a na => ⟨a, v, rfl, upd_same, fun d nd nda => ⟨rfl, d, [(f, v)], upd_same, by rw [upd_ne nda, upd_same], ?_, ?_⟩⟩⟩
  · rw [upd_ne nda] at nd
    exact nd
  · rw [upd_ne nda] at nd
    have e : upd (del (upd (upd (upd H1 a (exo a C none)) d (exd d [(f, v)])) a (exo a C (some d))) a) d (.xd [(f, v)]) = upd H1 d (.xd [(f, v)]) := by
      funext b
      by_cases h1 : b = d
      · subst h1
        rw [upd_same, upd_same]
      · rw [upd_ne h1, upd_ne h1]
        by_cases h2 : b = a
        · subst h2
          rw [del_same, na]
        · rw [del_ne h2, upd_ne h2, upd_ne h1, upd_ne h2]
    rw [e]
    exact k d nd
/-- C(): what is asked -/
theorem raise0 {C : Addr} {H1 : Hp} {Q : XK} (k : Q (.ref C) none H1) :
    ([] : List V).length ≤ 1000 ∧ ∀ a, H1 a = none → spInit0 C (.ref a :: ([] ++ [])) (upd H1 a (exo a C none)) (fun v H2 => v = .non ∧ H2 a = some (exo a C none) ∧ Q (.ref C) none (del H2 a)) (fun _ _ _ => False) := by
  refine ⟨Nat.zero_le _, fun a na => ⟨a, rfl, upd_same, rfl, upd_same, ?_⟩⟩
  have e : del (upd H1 a (exo a C none)) a = H1 := by
    funext b
    by_cases h : b = a
    · subst h
      rw [del_same, na]
    · rw [del_ne h, upd_ne h]
  rw [e]
  exact k
/-- an error class with its __init__, as a whole: with one value -/
structure Er1 (P : Program) (w : World) (K : PySem.W.Frag) (mg : Str → Option Value) (base : Heap) (nm f : Str) (C I : Addr) (fd : FuncData) : Prop where
  e : Er K mg nm f C I
  fn : FnOk P w K mg base CX0 1 I fd ["self", f] (spInit1 C f)
  bn : Binds K fd ["self", f] []
structure Er0 (P : Program) (w : World) (K : PySem.W.Frag) (mg : Str → Option Value) (base : Heap) (nm : Str) (C I : Addr) (fd : FuncData) : Prop where
  e : Er K mg nm "" C I
  fn : FnOk P w K mg base CX0 1 I fd ["self"] (spInit0 C)
  bn : Binds K fd ["self"] []
section
variable {X : Cx} {W : WX} {nm f : Str} {C I : Addr} {fd : FuncData} {ex : Expr} {te : TE} {p pos pos2 : Pos}
/-- raise C(e) -/
theorem ps_err1 (L : Er1 X.prog X.w X.K X.mg X.base nm f C I fd) (hc : X.calm = true) (tk : Takes X W) (hr : Room 2 X.A) (hg : Gl X nm) (he : PE X ex te) (hdb : (nm == ("__debug__" : Str)) = false := by decide)
    (hse : starEach (ex :: []) X.env = (false, eval ex X.env) :: starEach [] X.env := by rfl) (hpl : (backTo pos (starEach [] X.env)).any (·.1) = false := by rfl) :
    PS X (.Raise (some (.Call (.Name nm p) [ex] [] pos)) none pos2) (fun _ σ H => tMkO C (spInit1 C f) [] (tCons te tNil) σ H fun cls d H' => W cls d σ H') :=
  ps_raise hc tk (pmk_oex L.e.x.oex L.e.ini L.e.ity L.fn hr L.bn .nil (fun _ _ _ _ _ _ _ h => h.elim) hg L.e.g (pa_cons (hs := hse) he pa_nil) hdb hse hpl)
/-- raise C() -/
theorem ps_err0 (L : Er0 X.prog X.w X.K X.mg X.base nm C I fd) (hc : X.calm = true) (tk : Takes X W) (hr : Room 2 X.A) (hg : Gl X nm) (hdb : (nm == ("__debug__" : Str)) = false := by decide) :
    PS X (.Raise (some (.Call (.Name nm p) [] [] pos)) none pos2) (fun _ σ H => tMkO0 C (spInit0 C) [] tNil σ H fun cls d H' => W cls d σ H') :=
  ps_raise hc tk (pmk_none L.e.x.oex L.e.ini L.e.ity L.fn hr L.bn .nil (fun _ _ _ _ _ _ _ h => h.elim) hg L.e.g hdb)
end
end FT


namespace FT
open PySem L2 TL ClX
section
variable {P : Program} {w : World} {K : PySem.W.Frag} {mg : Str → Option Value} {base : Heap}
theorem sc_UnknownName : FnScope ["self", "name"] ["self", "name"] (defScope s_UnknownName___init__) := ⟨rfl, rfl, rfl, by decide +kernel, rfl, by decide +kernel, by decide +kernel⟩
theorem ok_UnknownName {f R C I : Addr} {fd : FuncData} (F : Fun K "__init__" "UnknownName.__init__" s_UnknownName___init__ f fd) (T : Rt K mg R) (L : Er K mg "UnknownName" "name" C I) : FnOk P w K mg base CX0 1 f fd ["self", "name"] (spInit1 C "name") := by
  refine F.ok sc_UnknownName (fun vs H Q E h => ?_) (fun cdv A outer s H vs Q E hr h => ?_)
  · obtain ⟨a, v, rfl, _⟩ := h
    rfl
  · obtain ⟨a, v, rfl, ha, k⟩ := h
    refine ⟨_, pss_cons (ps_expr (pe_clsinit T.ini rfl T.g (pa_cons (pv 0) (pa_cons pe_str pa_nil)))) (pss_one (ps_ost (pv 0) (pv 1))), ?_⟩
    refine ⟨_, rfl, a, C, _, rfl, by show 1 ≤ 1000; omega, L.x.oex, ha, ?_⟩
    exact ⟨_, rfl, _, rfl, a, C, rfl, L.x.oex, L.no, .inl ⟨ha, fun d nd nda => k d nd nda⟩⟩
theorem sc_InvalidUsers : FnScope ["self"] ["self"] (defScope s_InvalidUsers___init__) := ⟨rfl, rfl, rfl, by decide +kernel, rfl, by decide +kernel, by decide +kernel⟩
theorem ok_InvalidUsers {f R C I : Addr} {fd : FuncData} (F : Fun K "__init__" "InvalidUsers.__init__" s_InvalidUsers___init__ f fd) (T : Rt K mg R) (L : Er K mg "InvalidUsers" "" C I) : FnOk P w K mg base CX0 1 f fd ["self"] (spInit0 C) := by
  refine F.ok sc_InvalidUsers (fun vs H Q E h => ?_) (fun cdv A outer s H vs Q E hr h => ?_)
  · obtain ⟨a, rfl, _⟩ := h
    rfl
  · obtain ⟨a, rfl, ha, k⟩ := h
    refine ⟨_, pss_one (ps_expr (pe_clsinit T.ini rfl T.g (pa_cons (pv 0) (pa_cons pe_str pa_nil)))), ?_⟩
    exact ⟨_, rfl, a, C, _, rfl, by show 1 ≤ 1000; omega, L.x.oex, ha, k⟩
theorem sc_InvalidPlace : FnScope ["self", "user"] ["self", "user"] (defScope s_InvalidPlace___init__) := ⟨rfl, rfl, rfl, by decide +kernel, rfl, by decide +kernel, by decide +kernel⟩
theorem ok_InvalidPlace {f R C I : Addr} {fd : FuncData} (F : Fun K "__init__" "InvalidPlace.__init__" s_InvalidPlace___init__ f fd) (T : Rt K mg R) (L : Er K mg "InvalidPlace" "user" C I) : FnOk P w K mg base CX0 1 f fd ["self", "user"] (spInit1 C "user") := by
  refine F.ok sc_InvalidPlace (fun vs H Q E h => ?_) (fun cdv A outer s H vs Q E hr h => ?_)
  · obtain ⟨a, v, rfl, _⟩ := h
    rfl
  · obtain ⟨a, v, rfl, ha, k⟩ := h
    refine ⟨_, pss_cons (ps_expr (pe_clsinit T.ini rfl T.g (pa_cons (pv 0) (pa_cons pe_str pa_nil)))) (pss_one (ps_ost (pv 0) (pv 1))), ?_⟩
    refine ⟨_, rfl, a, C, _, rfl, by show 1 ≤ 1000; omega, L.x.oex, ha, ?_⟩
    exact ⟨_, rfl, _, rfl, a, C, rfl, L.x.oex, L.no, .inl ⟨ha, fun d nd nda => k d nd nda⟩⟩
theorem sc_UnknownUser : FnScope ["self", "user"] ["self", "user"] (defScope s_UnknownUser___init__) := ⟨rfl, rfl, rfl, by decide +kernel, rfl, by decide +kernel, by decide +kernel⟩
theorem ok_UnknownUser {f R C I : Addr} {fd : FuncData} (F : Fun K "__init__" "UnknownUser.__init__" s_UnknownUser___init__ f fd) (T : Rt K mg R) (L : Er K mg "UnknownUser" "user" C I) : FnOk P w K mg base CX0 1 f fd ["self", "user"] (spInit1 C "user") := by
  refine F.ok sc_UnknownUser (fun vs H Q E h => ?_) (fun cdv A outer s H vs Q E hr h => ?_)
  · obtain ⟨a, v, rfl, _⟩ := h
    rfl
  · obtain ⟨a, v, rfl, ha, k⟩ := h
    refine ⟨_, pss_cons (ps_expr (pe_clsinit T.ini rfl T.g (pa_cons (pv 0) (pa_cons pe_str pa_nil)))) (pss_one (ps_ost (pv 0) (pv 1))), ?_⟩
    refine ⟨_, rfl, a, C, _, rfl, by show 1 ≤ 1000; omega, L.x.oex, ha, ?_⟩
    exact ⟨_, rfl, _, rfl, a, C, rfl, L.x.oex, L.no, .inl ⟨ha, fun d nd nda => k d nd nda⟩⟩
end
end FT


/-! data of any kind; what is raised; numbers by places -/
namespace FT
open PySem L2 TL ClX
/-! ### data of any kind -/
inductive Dat (K : PySem.W.Frag) (H : Hp) : V → String → Prop where
  | non : Dat K H .non "NoneType"
  | bl (b : Bool) : Dat K H (.bl b) "bool"
  | int (i : Int) : Dat K H (.int i) "int"
  | str (z : Str) : Dat K H (.str z) "str"
  | lst {a : Addr} {xs : List V} (h : H a = some (.lst xs)) : Dat K H (.ref a) "list"
  | tup {a : Addr} {xs : List V} (h : H a = some (.tup xs)) : Dat K H (.ref a) "tuple"
  | dct {a : Addr} {kvs : List (Key × V)} (h : H a = some (.dK kvs)) : Dat K H (.ref a) "dict"
theorem Dat.ty {K : PySem.W.Frag} {H : Hp} {v : V} {T : String} (d : Dat K H v T) : TyX K H v (.type T) := by
  cases d with
  | non => exact .base .non
  | bl b => exact .base (.bl b)
  | int i => exact .base (.int i)
  | str z => exact .base (.str z)
  | lst h => exact .base (.lst h)
  | tup h => exact .base (.tup h)
  | dct h => exact .base (.dK h)
theorem Dat.mono {K : PySem.W.Frag} {H H' : Hp} {v : V} {T : String} (s : Same H H') (d : Dat K H v T) : Dat K H' v T := by
  cases d with
  | non => exact .non
  | bl b => exact .bl b
  | int i => exact .int i
  | str z => exact .str z
  | lst h => exact .lst (s _ _ h)
  | tup h => exact .tup (s _ _ h)
  | dct h => exact .dct (s _ _ h)
def IsDat (K : PySem.W.Frag) (H : Hp) (v : V) : Prop := ∃ T, Dat K H v T
theorem IsDat.mono {K : PySem.W.Frag} {H H' : Hp} {v : V} (s : Same H H') (d : IsDat K H v) : IsDat K H' v := let ⟨T, d⟩ := d; ⟨T, d.mono s⟩
/-- isinstance(v, int) -/
def isIntV : V → Bool
  | .int _ => true
  | .bl _ => true
  | _ => false
def isBlV : V → Bool
  | .bl _ => true
  | _ => false
def isDictV (H : Hp) (v : V) : Bool := match v with
  | .ref a => match H a with
    | some (.dK _) => true
    | _ => false
  | _ => false
theorem Dat.int_ {K : PySem.W.Frag} {H : Hp} {v : V} {T : String} (d : Dat K H v T) : PySem.W.kitOne K (.type T) (.type "int") = some (isIntV v) := by
  cases d with
  | non => exact kit_ty (r := false) (by decide +kernel)
  | bl b => exact kit_ty (r := true) (by decide +kernel)
  | int i => exact kit_ty (r := true) (by decide +kernel)
  | str z => exact kit_ty (r := false) (by decide +kernel)
  | lst h => exact kit_ty (r := false) (by decide +kernel)
  | tup h => exact kit_ty (r := false) (by decide +kernel)
  | dct h => exact kit_ty (r := false) (by decide +kernel)
theorem Dat.bool_ {K : PySem.W.Frag} {H : Hp} {v : V} {T : String} (d : Dat K H v T) : PySem.W.kitOne K (.type T) (.type "bool") = some (isBlV v) := by
  cases d with
  | non => exact kit_ty (r := false) (by decide +kernel)
  | bl b => exact kit_ty (r := true) (by decide +kernel)
  | int i => exact kit_ty (r := false) (by decide +kernel)
  | str z => exact kit_ty (r := false) (by decide +kernel)
  | lst h => exact kit_ty (r := false) (by decide +kernel)
  | tup h => exact kit_ty (r := false) (by decide +kernel)
  | dct h => exact kit_ty (r := false) (by decide +kernel)
theorem Dat.str_ {K : PySem.W.Frag} {H : Hp} {v : V} {T : String} (d : Dat K H v T) : PySem.W.kitOne K (.type T) (.type "str") = some (decide (T = "str")) := by
  cases d with
  | non => exact kit_ty (r := false) (by decide +kernel)
  | bl b => exact kit_ty (r := false) (by decide +kernel)
  | int i => exact kit_ty (r := false) (by decide +kernel)
  | str z => exact kit_ty (r := true) (by decide +kernel)
  | lst h => exact kit_ty (r := false) (by decide +kernel)
  | tup h => exact kit_ty (r := false) (by decide +kernel)
  | dct h => exact kit_ty (r := false) (by decide +kernel)
/-- an integer, no bool, of at least l -/
def isGe (v : V) (l : Int) : Bool := match v with
  | .int i => decide (l ≤ i)
  | _ => false
/-! ### what is raised -/
inductive Err where
  | e0 (C : Addr)
  | e1 (C : Addr) (f : Str) (v : V)
/-- the way out of such an error, from the heap H -/
def Out (H : Hp) (E : XK) : Err → Prop
  | .e0 C => ∀ H', Same H H' → E (.ref C) none H'
  | .e1 C f v => ∀ d H', Same H H' → H d = none → H' d = some (.xd [(f, v)]) → E (.ref C) (some d) H'
theorem Out.mono {H H1 : Hp} {E : XK} {e : Err} (s : Same H H1) (o : Out H E e) : Out H1 E e := by
  cases e with
  | e0 C => exact fun H' s' => o H' (s.trans s')
  | e1 C f v => exact fun d H' s' n => o d H' (s.trans s') (s.free n)
/-- raise C(v) in a def that lets it out -/
theorem out1 {C : Addr} {f : Str} {v : V} {H H1 : Hp} {E : XK} (o : Out H E (.e1 C f v)) (s : Same H H1) :
    [v].length ≤ 1000 ∧ ∀ a, H1 a = none → spInit1 C f (.ref a :: ([v] ++ [])) (upd H1 a (exo a C none))
      (fun w H2 => w = .non ∧ ∃ (d : Addr) (fs : List (Str × V)), H2 a = some (exo a C (some d)) ∧ H2 d = some (exd d fs) ∧ H1 d = none ∧ E (.ref C) (some d) (upd (del H2 a) d (.xd fs))) (fun _ _ _ => False) :=
  raise1 (Q := fun cls d H' => E cls d H') fun d nd => o d _ (s.trans (same_new nd)) (s.free nd) upd_same
theorem out0 {C : Addr} {H H1 : Hp} {E : XK} (o : Out H E (.e0 C)) (s : Same H H1) :
    ([] : List V).length ≤ 1000 ∧ ∀ a, H1 a = none → spInit0 C (.ref a :: ([] ++ [])) (upd H1 a (exo a C none)) (fun v H2 => v = .non ∧ H2 a = some (exo a C none) ∧ E (.ref C) none (del H2 a)) (fun _ _ _ => False) :=
  raise0 (Q := fun cls d H' => E cls d H') (o _ s)
/-! ### numbers by places -/
def tblI (l : List Str) (g : Str → Int) : List (Key × V) := kvT (l.map fun a => (a, V.int (g a)))
theorem tblI_len (l : List Str) (g : Str → Int) : (tblI l g).length = l.length := by unfold tblI; rw [kvT_len, List.length_map]
theorem tblI_fst (l : List Str) (g : Str → Int) : (l.map fun a => (a, V.int (g a))).map Prod.fst = l := by rw [List.map_map]; exact List.map_id _
theorem tblI_at {l : List Str} {g : Str → Int} {i : Nat} {k : Key} {v : V} (h : (tblI l g)[i]? = some (k, v)) : ∃ a, l[i]? = some a ∧ k = Sum.inr a ∧ v = .int (g a) := by
  unfold tblI kvT at h
  rw [List.map_map, List.getElem?_map] at h
  obtain ⟨a, ha, e⟩ := Option.map_eq_some_iff.mp h
  cases e
  exact ⟨a, ha, rfl, rfl⟩
theorem tblI_val {l : List Str} {g : Str → Int} {a : Str} (h : a ∈ l) : valV (tblI l g) (Sum.inr a) = some (.int (g a)) := by
  unfold tblI
  rw [kvT_val]
  induction l with
  | nil => cases h
  | cons b l ih =>
    rw [List.map_cons, look_cons]
    by_cases e : b = a
    · subst e
      exact if_pos rfl
    · rw [if_neg e]
      exact ih ((List.mem_cons.mp h).resolve_left fun z => e z.symm)
theorem tblI_put {l : List Str} {g : Str → Int} {a : Str} {z : Int} (h : a ∈ l) : putK (tblI l g) (Sum.inr a) (.int z) = tblI l (fun p => if p = a then z else g p) := by
  unfold tblI
  rw [kvT_putT]
  unfold putT
  rw [if_pos (by rw [tblI_fst]; exact h), List.map_map]
  congr 1
  refine List.map_congr_left fun p _ => ?_
  show (if p = a then (p, V.int z) else (p, V.int (g p))) = (p, V.int (if p = a then z else g p))
  by_cases e : p = a
  · rw [if_pos e, if_pos e]
  · rw [if_neg e, if_neg e]
theorem tblI_snoc {l : List Str} {g : Str → Int} {a : Str} {z : Int} (h : a ∉ l) (e : z = g a) : putK (tblI l g) (Sum.inr a) (.int z) = tblI (l ++ [a]) g := by
  unfold tblI
  rw [kvT_put (by rw [tblI_fst]; exact h), List.map_append, e] <;> rfl
theorem tblI_congr {l : List Str} {g g' : Str → Int} (h : ∀ a ∈ l, g a = g' a) : tblI l g = tblI l g' := by
  unfold tblI
  rw [List.map_congr_left fun a ha => by rw [h a ha]]
/-! ### feasible sizes -/
/-- sizes: a dict, its pairs told, or another value -/
def SzV (K : PySem.W.Frag) (H : Hp) (sv : V) : Option (List (Key × V)) → Prop
  | some kvs => ∃ q, sv = .ref q ∧ H q = some (.dK kvs) ∧ ∀ p ∈ kvs, IsDat K H p.2
  | none => ∃ T, Dat K H sv T ∧ T ≠ "dict"
theorem SzV.mono {K : PySem.W.Frag} {H H' : Hp} {sv : V} {o : Option (List (Key × V))} (s : Same H H') (h : SzV K H sv o) : SzV K H' sv o := by
  cases o with
  | none => exact let ⟨T, d, n⟩ := h; ⟨T, d.mono s, n⟩
  | some kvs => exact let ⟨q, e, h, a⟩ := h; ⟨q, e, s _ _ h, fun p hp => (a p hp).mono s⟩
def szOf (kvs : List (Key × V)) (a : Str) : Int := match valV kvs (Sum.inr a) with
  | some (.int i) => i
  | _ => 0
def badKey (kvs : List (Key × V)) (a : Str) : Bool := !isGe ((valV kvs (Sum.inr a)).getD .non) 0
/-- the place of the first fault, as the error tells it -/
def feas (ts : List (Str × Str)) (n : Int) : Option (List (Key × V)) → Option V
  | none => some .non
  | some kvs => if kvs.length ≠ ts.length then some .non else if (ts.map Prod.fst).all (fun a => (valV kvs (Sum.inr a)).isSome) = false then some .non else
    match (ts.map Prod.fst).find? (badKey kvs) with
    | some a => some (.str a)
    | none => ((("" : Str) :: ts.map Prod.fst).find? fun p => decide (resid ts n (szOf kvs) p < 0)).map V.str
def usersOk (v : V) (m : Int) : Bool := match v with
  | .int i => decide (1 ≤ i) && decide (i ≤ m)
  | _ => false
def feE (CS : Addr) (ts : List (Str × Str)) (n : Int) (o : Option (List (Key × V))) : Option Err := (feas ts n o).map fun v => .e1 CS "place" v
def szE (CU CS : Addr) (ts : List (Str × Str)) (uv : V) (o : Option (List (Key × V))) : Option Err := if usersOk uv (10 ^ 30) = true then feE CS ts (match uv with | .int n => n | _ => 0) o else some (.e0 CU)
/-- a def that hands back None, or raises -/
def Res (H : Hp) (Q : VK) (E : XK) : Option Err → Prop
  | none => ∀ H', Same H H' → Q .non H'
  | some e => Out H E e
theorem Res.mono {H H1 : Hp} {Q : VK} {E : XK} {o : Option Err} (s : Same H H1) (r : Res H Q E o) : Res H1 Q E o := by
  cases o with
  | none => exact fun H' s' => r H' (s.trans s')
  | some e => exact Out.mono s r
def spIsInt (K : PySem.W.Frag) : Sp := fun vs H Q _ => ∃ (v : V) (l : Int), vs = [v, .int l] ∧ IsDat K H v ∧ Q (.bl (isGe v l)) H
def spUsers (K : PySem.W.Frag) (CU : Addr) : Sp := fun vs H Q E => ∃ (v : V) (m : Int), vs = [v, .int m] ∧ IsDat K H v ∧ Res H Q E (if usersOk v m = true then none else some (.e0 CU))
def spResid (CF : Addr) : Sp := fun vs H Q _ => ∃ (x q : Addr) (n : Int) (ts : List (Str × Str)) (kvs : List (Key × V)), vs = [.ref x, .int n, .ref q] ∧ FAt CF H x ts ∧ TreeOk ts ∧ H q = some (.dK kvs) ∧ (∀ a ∈ ts.map Prod.fst, valV kvs (Sum.inr a) = some (.int (szOf kvs a))) ∧
  ∀ p H', Same H H' → H p = none → H' p = some (.dK (tblI ("" :: ts.map Prod.fst) (resid ts n (szOf kvs)))) → Q (.ref p) H'
def spFeas (K : PySem.W.Frag) (CF CS : Addr) : Sp := fun vs H Q E => ∃ (x : Addr) (n : Int) (sv : V) (ts : List (Str × Str)) (o : Option (List (Key × V))), vs = [.ref x, .int n, sv] ∧ FAt CF H x ts ∧ TreeOk ts ∧ SzV K H sv o ∧ Res H Q E (feE CS ts n o)
def spNSizes (K : PySem.W.Frag) (CF CU CS : Addr) : Sp := fun vs H Q E => ∃ (x : Addr) (uv sv : V) (ts : List (Str × Str)) (o : Option (List (Key × V))), vs = [.ref x, uv, sv] ∧ FAt CF H x ts ∧ TreeOk ts ∧ IsDat K H uv ∧ SzV K H sv o ∧ Res H Q E (szE CU CS ts uv o)
end FT


namespace FT
open PySem L2 TL ClX
theorem valV_mem {kvs : List (Key × V)} {k : Key} {v : V} (h : valV kvs k = some v) : (k, v) ∈ kvs := by
  unfold valV at h
  obtain ⟨p, hp, e⟩ := Option.map_eq_some_iff.mp h
  have m := List.mem_of_find?_eq_some hp
  have q : p.1 = k := of_decide_eq_true (List.find?_some (p := fun kv : Key × V => decide (kv.1 = k)) hp)
  obtain ⟨k', v'⟩ := p
  cases e
  cases (show k' = k from q)
  exact m
theorem feas_some (ts : List (Str × Str)) (n : Int) (kvs : List (Key × V)) : feas ts n (some kvs) = if kvs.length ≠ ts.length then some .non else if (ts.map Prod.fst).all (fun a => (valV kvs (Sum.inr a)).isSome) = false then some .non else
    match (ts.map Prod.fst).find? (badKey kvs) with
    | some a => some (.str a)
    | none => ((("" : Str) :: ts.map Prod.fst).find? fun p => decide (resid ts n (szOf kvs) p < 0)).map V.str := rfl
end FT


namespace FT
open PySem L2 TL ClX
def kvsOf (o : Option (List (Key × V))) : List (Key × V) := o.getD []
def numV (v : V) : Int := match v with
  | .int n => n
  | _ => 0
/-- what amounts raises -/
def amE (CU CS : Addr) (ts : List (Str × Str)) (uv : V) (o1 o2 : Option (List (Key × V))) : Option Err := (szE CU CS ts uv o1).or (feE CS ts (numV uv) o2)
def amt (o1 o2 : Option (List (Key × V))) (a : Str) : Int := szOf (kvsOf o2) a - szOf (kvsOf o1) a
def absI (z : Int) : Int := if z < 0 then -z else z
def spAmtOf (CF : Addr) : Sp := fun vs H Q _ => ∃ (x q1 q2 : Addr) (ts : List (Str × Str)) (k1 k2 : List (Key × V)), vs = [.ref x, .ref q1, .ref q2] ∧ FAt CF H x ts ∧ TreeOk ts ∧ H q1 = some (.dK k1) ∧ H q2 = some (.dK k2) ∧
  (∀ a ∈ ts.map Prod.fst, valV k1 (Sum.inr a) = some (.int (szOf k1 a))) ∧ (∀ a ∈ ts.map Prod.fst, valV k2 (Sum.inr a) = some (.int (szOf k2 a))) ∧
  ∀ p H', Same H H' → H p = none → H' p = some (.dK (tblI (ts.map Prod.fst) fun a => szOf k2 a - szOf k1 a)) → Q (.ref p) H'
def spAmounts (K : PySem.W.Frag) (CF CU CS : Addr) : Sp := fun vs H Q E => ∃ (x : Addr) (uv sv nv : V) (ts : List (Str × Str)) (o1 o2 : Option (List (Key × V))), vs = [.ref x, uv, sv, nv] ∧ FAt CF H x ts ∧ TreeOk ts ∧ IsDat K H uv ∧ SzV K H sv o1 ∧ SzV K H nv o2 ∧
  match amE CU CS ts uv o1 o2 with
  | none => ∀ p H', Same H H' → H p = none → H' p = some (.dK (tblI (ts.map Prod.fst) (amt o1 o2))) → Q (.ref p) H'
  | some e => Out H E e
def spLeast (K : PySem.W.Frag) (CF CU CS : Addr) : Sp := fun vs H Q E => ∃ (x : Addr) (uv sv nv : V) (ts : List (Str × Str)) (o1 o2 : Option (List (Key × V))), vs = [.ref x, uv, sv, nv] ∧ FAt CF H x ts ∧ TreeOk ts ∧ IsDat K H uv ∧ SzV K H sv o1 ∧ SzV K H nv o2 ∧
  match amE CU CS ts uv o1 o2 with
  | none => ∀ H', Same H H' → Q (.int ((ts.map Prod.fst).map fun a => absI (amt o1 o2 a)).sum) H'
  | some e => Out H E e
end FT


namespace FT
open PySem L2 TL ClX LiI
/-! ### crossings -/
def crs (g : Str → Int) (ts : List (Str × Str)) : List (Str × Str × Int) := ts.flatMap fun p => if 0 < g p.1 then [(p.2, p.1, g p.1)] else if g p.1 < 0 then [(p.1, p.2, - g p.1)] else []
def EdG (H : Hp) (rs : List Addr) (es : List (Str × Str × Int)) : Prop := Paired (fun (r : Addr) (e : Str × Str × Int) => H r = some (.tup [.str e.1, .str e.2.1, .int e.2.2])) rs es
theorem EdG.mono {H H' : Hp} (s : Same H H') : ∀ {rs : List Addr} {es : List (Str × Str × Int)}, EdG H rs es → EdG H' rs es
  | _, _, .nil => .nil
  | _, _, .cons h t => .cons (s _ _ h) (EdG.mono s t)
theorem EdG.push {H : Hp} {D : Addr} {xs : List V} {o : HO} (e : H D = some (.lst xs)) : ∀ {rs : List Addr} {es : List (Str × Str × Int)}, EdG H rs es → EdG (upd H D o) rs es
  | _, _, .nil => .nil
  | _, _, .cons h t => .cons (by rw [upd_ne (ne_of h e (by intro z; cases z))]; exact h) (EdG.push e t)
theorem EdG.snoc {H : Hp} {r : Addr} {e : Str × Str × Int} (h : H r = some (.tup [.str e.1, .str e.2.1, .int e.2.2])) : ∀ {rs : List Addr} {es : List (Str × Str × Int)}, EdG H rs es → EdG H (rs ++ [r]) (es ++ [e])
  | _, _, .nil => .cons h .nil
  | _, _, .cons q t => .cons q (EdG.snoc h t)
theorem EdG.len {H : Hp} : ∀ {rs : List Addr} {es : List (Str × Str × Int)}, EdG H rs es → rs.length = es.length
  | _, _, .nil => rfl
  | _, _, .cons _ t => congrArg (· + 1) (EdG.len t)
theorem EdG.at_ {H : Hp} {rs : List Addr} {es : List (Str × Str × Int)} (p : EdG H rs es) {i : Nat} {r : Addr} (h : rs[i]? = some r) : ∃ e, es[i]? = some e ∧ H r = some (.tup [.str e.1, .str e.2.1, .int e.2.2]) := LiI.paired_get p h
def spCross (CF : Addr) : Sp := fun vs H Q _ => ∃ (x q : Addr) (ts : List (Str × Str)) (g : Str → Int), vs = [.ref x, .ref q] ∧ FAt CF H x ts ∧ TreeOk ts ∧ H q = some (.dK (tblI (ts.map Prod.fst) g)) ∧
  ∀ p rs H', Same H H' → H p = none → H' p = some (.lst (rs.map V.ref)) → EdG H' rs (crs g ts) → Q (.ref p) H'
end FT


/-! plain: lists of users by place, how a change of sizes moves them, that the way back restores them. No program here. -/
namespace FT
open PySem L2 TL
/-! ### sums -/
/-! ### places, neighbours -/
def pls (ts : List (Str × Str)) : List Str := "" :: ts.map Prod.fst
theorem par_pl {ts : List (Str × Str)} (o : TreeOk ts) {a z : Str} (h : par ts a = some z) : Pl ts z := by
  obtain ⟨rk, r⟩ := o.up
  exact (r _ (par_mem h)).2.imp id And.left
/-- the other ends of the edges of a place -/
def adj (ts : List (Str × Str)) (p : Str) : List Str := (if p = "" then [] else [(par ts p).getD ""]) ++ kids ts p
/-! ### how many users cross an edge -/
def lv (ts : List (Str × Str)) (c : Str → Int) (p o : Str) : Nat := if par ts o = some p ∧ 0 < c o then (c o).toNat else if par ts p = some o ∧ c p < 0 then (- c p).toNat else 0
/-! ### an order of the places that all moves follow -/
def sg (z : Int) : Int := if 0 < z then 1 else if z < 0 then -1 else 0
def phi (ts : List (Str × Str)) (c : Str → Int) (p : Str) : Int := ((pathOf ts p).map fun x => sg (c x)).sum
def lvl (ts : List (Str × Str)) (c : Str → Int) (p : Str) : Nat := (phi ts c p + 12).toNat
/-! ### a change moves the lists -/
/-- groups that come to a place, in the order in which they are put behind its list -/
def ins (ts : List (Str × Str)) (G : Str → Str → List Int) (p : Str) : List Int := ((adj ts p).reverse.map fun o => G o p).flatten
/-- groups that leave a place -/
def outs (ts : List (Str × Str)) (G : Str → Str → List Int) (p : Str) : List Int := ((adj ts p).reverse.map fun o => G p o).flatten
def Moved (ts : List (Str × Str)) (c : Str → Int) (L L' : Str → List Int) : Prop := ∃ G : Str → Str → List Int, (∀ p, Pl ts p → ∀ o ∈ adj ts p, (G p o).length = lv ts c p o) ∧ ∀ p, Pl ts p → L p ++ ins ts G p = L' p ++ outs ts G p
/-- the lengths are the residents -/
def Lens (ts : List (Str × Str)) (n : Int) (sz : Str → Int) (L : Str → List Int) : Prop := ∀ p, Pl ts p → ((L p).length : Int) = resid ts n sz p
end FT


/-! plain: sizes of lists; every user at one place; a user's way through the tree. -/
namespace FT
open PySem L2 TL
/-! ### sizes and lengths -/
def under (ts : List (Str × Str)) (a : Str) : List Str := (ts.map Prod.fst).filter fun b => decide (a ∈ pathOf ts b)
def lsz (ts : List (Str × Str)) (L : Str → List Int) (a : Str) : Int := ((under ts a).map fun b => ((L b).length : Int)).sum
/-- the paths' flags rank no higher -/
theorem path_rank {ts : List (Str × Str)} (o : TreeOk ts) {rk : Str → Nat} (r : Rk ts rk) : ∀ (n : Nat) (a : Str), Pl ts a → (a ≠ "" → rk a < n) → ∀ z ∈ pathOf ts a, rk z ≤ rk a := by
  intro n
  induction n with
  | zero =>
    intro a ha h z hz
    by_cases e : a = ""
    · subst e
      rw [path_root] at hz
      cases hz
    · exact absurd (h e) (Nat.not_lt_zero _)
  | succ n ih =>
    intro a ha h z hz
    by_cases e : a = ""
    · subst e
      rw [path_root] at hz
      cases hz
    · obtain ⟨p, ep, hp, _⟩ := o.step r (ha.resolve_left e)
      rw [path_step o (ha.resolve_left e) ep] at hz
      rcases List.mem_append.mp hz with hz | hz
      · have hh := h e
        rcases hp with e0 | ⟨hp, lt⟩
        · subst e0
          rw [path_root] at hz
          cases hz
        · have := ih p (.inr hp) (fun _ => by omega) z hz
          omega
      · rw [List.mem_singleton.mp hz]
        exact Nat.le_refl _
theorem not_above {ts : List (Str × Str)} (o : TreeOk ts) {a p : Str} (h : par ts a = some p) : a ∉ pathOf ts p := fun hm => by
  obtain ⟨rk, r⟩ := o.up
  have lt := (r _ (par_mem h)).2
  rcases lt with e | ⟨hp, lt⟩
  · have e : p = "" := e
    rw [e, path_root] at hm
    cases hm
  · have lt : rk p < rk a := lt
    have := path_rank o r (rk p + 1) p (.inr hp) (fun _ => Nat.lt_succ_self _) a hm
    omega
theorem path_nd {ts : List (Str × Str)} (o : TreeOk ts) {a : Str} (h : Pl ts a) : (pathOf ts a).Nodup := by
  obtain ⟨rk, r⟩ := o.up
  have key : ∀ (n : Nat) (a : Str), Pl ts a → (a ≠ "" → rk a < n) → (pathOf ts a).Nodup := by
    intro n
    induction n with
    | zero =>
      intro a ha h
      by_cases e : a = ""
      · subst e
        rw [path_root]
        exact List.nodup_nil
      · exact absurd (h e) (Nat.not_lt_zero _)
    | succ n ih =>
      intro a ha h
      by_cases e : a = ""
      · subst e
        rw [path_root]
        exact List.nodup_nil
      · obtain ⟨p, ep, hp, _⟩ := o.step r (ha.resolve_left e)
        rw [path_step o (ha.resolve_left e) ep]
        refine List.nodup_append.mpr ⟨ih p (hp.imp id And.left) (fun z => ?_), by simp, fun x hx y hy e => ?_⟩
        · have := (hp.resolve_left z).2
          have := h e
          omega
        · rw [List.mem_singleton.mp hy] at e
          subst e
          exact not_above o ep hx
  exact key (rk a + 1) a h fun _ => Nat.lt_succ_self _
def inP (ts : List (Str × Str)) (a x : Str) : Int := if a ∈ pathOf ts x then 1 else 0
/-! ### every user at one place -/
def usr (n : Nat) : List Int := (List.range n).map fun k : Nat => (k : Int)
def Val (ts : List (Str × Str)) (n : Nat) (L : Str → List Int) : Prop := ((pls ts).flatMap L).Perm (usr n)
/-- the place of a user -/
def plOf (ts : List (Str × Str)) (L : Str → List Int) (u : Int) : Str := ((pls ts).find? fun p => decide (u ∈ L p)).getD ""
/-! ### a user's way -/
inductive Rc (ts : List (Str × Str)) (c : Str → Int) (p : Str) : Str → Prop where
  | refl : Rc ts c p p
  | step {q x : Str} : Rc ts c p q → 0 < lv ts c q x → Rc ts c p x
end FT


/-! lists of pairs of a text and a value; dict(..) of them. -/
namespace FT
open PySem L2 TL ClX
/-- pairs (a, g a) at the addresses rs -/
def PrG (g : Str → V) (H : Hp) (rs : List Addr) (l : List Str) : Prop := Paired (fun (r : Addr) (a : Str) => H r = some (.tup [.str a, g a])) rs l
theorem PrG.imp {g : Str → V} {H H' : Hp} (m : ∀ r (a : Str), H r = some (.tup [.str a, g a]) → H' r = some (.tup [.str a, g a])) : ∀ {rs : List Addr} {l : List Str}, PrG g H rs l → PrG g H' rs l
  | _, _, .nil => .nil
  | _, _, .cons h t => .cons (m _ _ h) (PrG.imp m t)
theorem PrG.mono {g : Str → V} {H H' : Hp} {rs : List Addr} {l : List Str} (s : Same H H') (p : PrG g H rs l) : PrG g H' rs l := p.imp fun r a e => s _ _ e
theorem PrG.push {g : Str → V} {H : Hp} {rs : List Addr} {l : List Str} {D : Addr} {xs : List V} {o : HO} (e : H D = some (.lst xs)) (p : PrG g H rs l) : PrG g (upd H D o) rs l := p.imp fun r a q => by
  rw [upd_ne (ne_of q e (by intro z; cases z))]
  exact q
theorem PrG.snoc {g : Str → V} {H : Hp} {r : Addr} {a : Str} (h : H r = some (.tup [.str a, g a])) : ∀ {rs : List Addr} {l : List Str}, PrG g H rs l → PrG g H (rs ++ [r]) (l ++ [a])
  | _, _, .nil => .cons h .nil
  | _, _, .cons q t => .cons q (PrG.snoc h t)
theorem PrG.len {g : Str → V} {H : Hp} : ∀ {rs : List Addr} {l : List Str}, PrG g H rs l → rs.length = l.length
  | _, _, .nil => rfl
  | _, _, .cons _ t => congrArg (· + 1) (PrG.len t)
theorem PrG.at_ {g : Str → V} {H : Hp} {rs : List Addr} {l : List Str} (p : PrG g H rs l) {i : Nat} {r : Addr} (h : rs[i]? = some r) : ∃ a, l[i]? = some a ∧ H r = some (.tup [.str a, g a]) := LiI.paired_get p h
/-- as dict(..) asks it -/
theorem PrG.kvs {K : PySem.W.Frag} {g : Str → V} {H : Hp} : ∀ {rs : List Addr} {l : List Str}, PrG g H rs l → Paired (fun (p : Addr) (kv : Key × V) => SqT K H p [kV kv.1, kv.2]) rs (kvT (l.map fun a => (a, g a)))
  | _, _, .nil => .nil
  | _, _, .cons h t => .cons (.inl (.inl h)) (PrG.kvs t)
theorem merge_app : ∀ (more : List (Str × V)) (acc : List (Str × V)), ((acc ++ more).map Prod.fst).Nodup → mergeK (kvT acc) (kvT more) = kvT (acc ++ more)
  | [], acc, _ => by rw [List.append_nil] <;> rfl
  | p :: more, acc, nd => by
    have e : acc ++ p :: more = (acc ++ [p]) ++ more := by rw [List.append_assoc] <;> rfl
    have fresh : p.1 ∉ acc.map Prod.fst := fun h => by
      rw [List.map_append] at nd
      obtain ⟨_, _, d⟩ := List.nodup_append.mp nd
      exact d _ h _ (List.mem_cons_self ..) rfl
    show mergeK (putK (kvT acc) (Sum.inr p.1) p.2) (kvT more) = _
    rw [kvT_put fresh, e]
    rw [e] at nd
    exact merge_app more _ nd
theorem merge_nd {l : List (Str × V)} (nd : (l.map Prod.fst).Nodup) : mergeK [] (kvT l) = kvT l := merge_app l [] nd
theorem map_fst (l : List Str) (g : Str → V) : (l.map fun a => (a, g a)).map Prod.fst = l := by rw [List.map_map]; exact List.map_id _
theorem put_old {t : List (Str × Str)} {f z z' : Str} (n : f ∉ t.map Prod.fst) : putK (prs (t ++ [(f, z)])) (Sum.inr f) (V.str z') = prs (t ++ [(f, z')]) := by
  have key : ∀ t : List (Str × Str), f ∉ t.map Prod.fst → ((t.map fun p => (p.1, V.str p.2)).map fun p => if p.1 = f then (p.1, V.str z') else p) = t.map fun p => (p.1, V.str p.2) := by
    intro t
    induction t with
    | nil => intro _; rfl
    | cons p t ih =>
      intro n
      rw [List.map_cons, List.mem_cons] at n
      rw [List.map_cons, List.map_cons, ih fun h => n (.inr h), if_neg (fun e => n (.inl e.symm))]
  unfold prs
  rw [kvT_putT]
  unfold putT
  rw [prs_fst, if_pos (by rw [List.map_append]; exact List.mem_append_right _ (List.mem_cons_self ..)), List.map_append, List.map_append, List.map_append, key t n]
  congr 2
  show [if f = f then (f, V.str z') else (f, V.str z)] = [(f, V.str z')]
  rw [if_pos rfl]
/-- the place of an item -/
theorem idx_at {l : List Str} {i : Nat} {a : Str} (nd : l.Nodup) (h : l[i]? = some a) : l.idxOf a = i := by
  have m : a ∈ l := List.mem_of_getElem? h
  have lt := List.idxOf_lt_length_of_mem m
  have e : l[l.idxOf a]? = some a := by rw [List.getElem?_eq_getElem lt, List.getElem_idxOf lt]
  exact (List.getElem?_inj lt nd).mp (e.trans h.symm)
/-- a tree from the order of its making -/
theorem tree_of {t : List (Str × Str)} (h1 : 1 ≤ t.length) (h2 : t.length ≤ 12) (nd : (t.map Prod.fst).Nodup) (nm : ∀ z ∈ t.map Prod.fst, NameL z) (up : ∀ (i : Nat) (p : Str × Str), t[i]? = some p → p.2 = "" ∨ p.2 ∈ (t.map Prod.fst).take i) : TreeOk t := by
  refine ⟨h1, h2, nd, nm, fun a => (t.map Prod.fst).idxOf a, fun p hp => ?_⟩
  obtain ⟨i, hi⟩ := List.mem_iff_getElem?.mp hp
  have il := (List.getElem?_eq_some_iff.mp hi).1
  have hk : (t.map Prod.fst)[i]? = some p.1 := by rw [List.getElem?_map, hi] <;> rfl
  refine ⟨by show (t.map Prod.fst).idxOf p.1 < _; rw [idx_at nd hk]; exact il, (up i p hi).imp id fun m => ⟨List.mem_of_mem_take m, ?_⟩⟩
  show (t.map Prod.fst).idxOf p.2 < (t.map Prod.fst).idxOf p.1
  rw [idx_at nd hk]
  obtain ⟨j, hj⟩ := List.mem_iff_getElem?.mp m
  have jl := (List.getElem?_eq_some_iff.mp hj).1
  rw [List.length_take] at jl
  rw [List.getElem?_take, if_pos (by omega)] at hj
  rw [idx_at nd hj]
  omega
end FT


/-! dicts from texts to any values; lists by place in the heap. -/
namespace FT
open PySem L2 TL ClX
def tblV (l : List Str) (g : Str → V) : List (Key × V) := kvT (l.map fun a => (a, g a))
theorem tblV_val {l : List Str} {g : Str → V} {a : Str} (h : a ∈ l) : valV (tblV l g) (Sum.inr a) = some (g a) := by
  unfold tblV
  rw [kvT_val]
  induction l with
  | nil => cases h
  | cons b l ih =>
    rw [List.map_cons, look_cons]
    by_cases e : b = a
    · subst e
      exact if_pos rfl
    · rw [if_neg e]
      exact ih ((List.mem_cons.mp h).resolve_left fun z => e z.symm)
theorem nat_fresh {l : List Str} {i : Nat} {a : Str} (nd : l.Nodup) (h : l[i]? = some a) : a ∉ l.take i := fun hm => by
  obtain ⟨j, hj⟩ := List.mem_iff_getElem?.mp hm
  have jl := (List.getElem?_eq_some_iff.mp hj).1
  rw [List.length_take] at jl
  rw [List.getElem?_take, if_pos (by omega)] at hj
  have := (List.getElem?_inj (by omega) nd).mp (hj.trans h.symm)
  omega
/-- lists by place: the dict at q, the list of p at r p -/
def LsAt (H : Hp) (q : Addr) (l : List Str) (r : Str → Addr) (L : Str → List Int) : Prop := H q = some (.dK (tblV l fun p => .ref (r p))) ∧ ∀ p ∈ l, H (r p) = some (.lst ((L p).map V.int))
theorem LsAt.mono {H H' : Hp} {q : Addr} {l : List Str} {r : Str → Addr} {L : Str → List Int} (s : Same H H') (h : LsAt H q l r L) : LsAt H' q l r L := ⟨s _ _ h.1, fun p hp => s _ _ (h.2 p hp)⟩
theorem LsAt.congr {H : Hp} {q : Addr} {l : List Str} {r : Str → Addr} {L L' : Str → List Int} (h : LsAt H q l r L) (e : ∀ p ∈ l, L p = L' p) : LsAt H q l r L' := ⟨h.1, fun p hp => by rw [h.2 p hp, e p hp]⟩
theorem LsAt.get {H : Hp} {q : Addr} {l : List Str} {r : Str → Addr} {L : Str → List Int} (h : LsAt H q l r L) {p : Str} (hp : p ∈ l) : DGet H q (.str p) (some (.ref (r p))) := by
  have z := DGet.k (k := Sum.inr p) h.1
  rw [tblV_val hp] at z
  exact z
end FT


/-! sums -/
namespace FT
open PySem
end FT


/-! a parent read from a forest's dict -/
namespace FT
open PySem L2 TL ClX
theorem Rd.same {H H' : Hp} {a : Addr} {u : HO} (s : Same H H') (h : Rd H a u) : Rd H' a u := h.imp (fun e => s _ _ e) fun ⟨o, e⟩ => ⟨o, s _ _ e⟩
theorem dget_prs {H : Hp} {q : Addr} {ts : List (Str × Str)} {a p : Str} (h : Rd H q (.dK (prs ts))) (e : par ts a = some p) : DGet H q (.str a) (some (.str p)) := .inl ⟨prs ts, Sum.inr a, h, rfl, by rw [val_prs, e] <;> rfl⟩
end FT


/-! path_in, need_place, Forest.under, edges_at -/
namespace FT
open PySem L2 TL ClX
def spPathIn : Sp := fun vs H Q _ => ∃ (q : Addr) (ts : List (Str × Str)) (a : Str), vs = [.ref q, .str a] ∧ Rd H q (.dK (prs ts)) ∧ TreeOk ts ∧ Pl ts a ∧ ∀ p H', Same H H' → H p = none → H' p = some (.tup ((pathOf ts a).map V.str)) → Q (.ref p) H'
def spNeedPl (CF : Addr) : Sp := fun vs H Q _ => ∃ (x : Addr) (ts : List (Str × Str)) (a : Str), vs = [.ref x, .str a] ∧ FAt CF H x ts ∧ TreeOk ts ∧ Pl ts a ∧ Q .non H
def spEdgesAt (CF : Addr) : Sp := fun vs H Q _ => ∃ (x : Addr) (ts : List (Str × Str)) (a : Str), vs = [.ref x, .str a] ∧ FAt CF H x ts ∧ TreeOk ts ∧ Pl ts a ∧ ∀ p H', Same H H' → H p = none → H' p = some (.lst ((adj ts a).map V.str)) → Q (.ref p) H'
def pathLen (ts : List (Str × Str)) (σ : St) : Nat := match σ[1]? with
  | some (some (V.str a)) => (pathOf ts a).length
  | _ => 0
section
variable {P : Program} {w : World} {K : PySem.W.Frag} {mg : Str → Option Value} {base : Heap}
abbrev NPi : List Str := ["above", "place", "path"]
theorem scPi : FnScope NPi ["above", "place"] (defScope s_path_in) := ⟨rfl, rfl, rfl, by decide +kernel, rfl, by decide +kernel, by decide +kernel⟩
theorem ok_pathIn {f : Addr} {fd : FuncData} (F : Fun K "path_in" "path_in" s_path_in f fd) (T : Nm mg) : FnOk P w K mg base CX0 1 f fd ["above", "place"] spPathIn := by
  refine F.ok scPi (fun vs H Q E h => ?_) (fun cdv A outer s H vs Q E hr h => ?_)
  · obtain ⟨q, ts, a, rfl, _⟩ := h
    rfl
  · obtain ⟨q, ts, a0, rfl, hq, o, pl0, k⟩ := h
    have hu := hu_of hr
    have nd := scPi.nd
    have big : 1000 ≤ sizeLine := by decide
    have few := o.few
    refine ⟨_, pss_cons (ps_set (i := 2) nd rfl (.inl rfl) (pe_lst pa_nil))
      (pss_cons (ps_while PassesOwn.never (pt_cmpR op_ne (pv 1) pe_str (nomark _))
        (pss_cons (ps_expr (pe_bm PySem.F.plainAttrs_list PySem.F.slot_list_append PySem.F.type_list_append mt_append (pv 2) (pa_cons (pv 1) pa_nil)))
        (pss_one (ps_set (i := 1) nd rfl (.inl rfl) (pe_dget hu (pv 0) (pv 1) (fun _ _ => rfl))))))
      (pss_one (ps_ret (pe_tupleOf (by rfl) T.tup (pe_revL (pv 2)))))), ?_⟩
    refine ⟨by show 0 ≤ sizeLine; omega, fun l nl => ?_⟩
    refine while_by (fun σ H' => ∃ (a : Str) (ws : List Str), σ = [some (.ref q), some (.str a), some (.ref l)] ∧ H' l = some (.lst (ws.map V.str)) ∧ Same H H' ∧ Pl ts a ∧ pathOf ts a0 = pathOf ts a ++ ws.reverse) (fun σ _ => pathLen ts σ)
      ⟨a0, [], rfl, upd_same, same_new nl, pl0, by rw [List.reverse_nil, List.append_nil]⟩ ?_ ?_
    · rintro σ Hx ⟨a, ws, rfl, hl, sm, pl, ep⟩
      have len := congrArg List.length ep
      have le := path_len ts a0
      rw [List.length_append, List.length_reverse] at len
      refine ⟨_, rfl, rfl, _, rfl, ?_⟩
      by_cases e : a = ""
      · rw [decide_eq_true (show V.str a = V.str "" by rw [e])]
        refine iteF ?_
        rw [e, path_root, List.nil_append] at ep
        refine ⟨_, rfl, l, _, rfl, SqL.of hl, fun p1 n1 => .inl ⟨p1, _, rfl, SqL.of upd_same, fun p2 n2 => ?_⟩⟩
        refine k p2 _ ((sm.trans (same_new n1)).trans (same_new n2)) ((sm.trans (same_new n1)).free n2) ?_
        rw [upd_same, ep, List.map_reverse]
      · rw [decide_eq_false (show ¬ V.str a = V.str "" from fun z => e (V.str.inj z))]
        show if true = true then _ else _
        rw [if_pos rfl]
        have fl := pl.resolve_left e
        obtain ⟨pa, hp⟩ := par_some o.nd fl
        have st := path_step o fl hp
        refine ⟨_, rfl, .inl ⟨rfl, _, SqL.of hl⟩, _, rfl, l, _, _, rfl, rfl, hl, by rw [List.length_map]; omega, ?_⟩
        refine ⟨_, rfl, _, rfl, q, V.str pa, rfl, dget_prs ?_ hp, ?_⟩
        · have ql : q ≠ l := by
            intro z
            rcases hq with hq | ⟨oo, hq⟩ <;> (rw [z, nl] at hq; cases hq)
          have hq' := Rd.same sm hq
          rcases hq' with h | ⟨oo, h⟩
          · exact .inl (by rw [upd_ne ql]; exact h)
          · exact .inr ⟨oo, by rw [upd_ne ql]; exact h⟩
        · refine ⟨⟨pa, ws ++ [a], rfl, by rw [upd_same, List.map_append] <;> rfl, sm.put nl, par_pl o hp, ?_⟩, ?_⟩
          · rw [ep, st, List.reverse_append, List.append_assoc] <;> rfl
          · show (pathOf ts pa).length < (pathOf ts a).length
            rw [st, List.length_append]
            exact Nat.lt_succ_self _
    · exact fun σ H Q Q' hm ⟨v, e, e2, b, eb, z⟩ => ⟨v, e, e2, b, eb, hm _ _ z⟩
abbrev NNp : List Str := ["forest", "place"]
end
end FT


/-! methods and properties, as a whole -/
namespace FT
open PySem L2 TL ClX
/-- a method of a class, as a whole -/
structure Mt (P : Program) (w : World) (K : PySem.W.Frag) (mg : Str → Option Value) (base : Heap) (CX : CXT) (k : Nat) (C : Addr) (m : Str) (ps : List Str) (sp : Sp) (f : Addr) (fd : FuncData) : Prop where
  mt : Meth K C m f
  fn : FnOk P w K mg base CX k f fd ps sp
  bn : Binds K fd ps []
/-- a property, at any level -/
structure PrN (P : Program) (w : World) (K : PySem.W.Frag) (mg : Str → Option Value) (base : Heap) (k : Nat) (C : Addr) (x : Str) (sp : Sp) (p g : Addr) (fd : FuncData) : Prop where
  pr : PropOf K C x p g
  fn : FnOk P w K mg base CX0 k g fd ["self"] sp
  bn : Binds K fd ["self"] []
end FT


/-! Assignment: made of valid places; its places -/
namespace FT
open PySem L2 TL ClX
/-- the class Assignment -/
structure Ac (K : PySem.W.Frag) (mg : Str → Option Value) (CA : Addr) (mc : Value) : Prop where
  gA : mg "Assignment" = some (.ref CA)
  rd : CRead K CA mc
  most : ∃ u, CVal K CA mc "MOST" (.int 60) u
  cl : Cls K CA
  nF : NoAttr K CA "own_forest"
  nP : NoAttr K CA "own_places"
/-- an assignment at y: its forest, its places -/
def AAt (CA : Addr) (H : Hp) (y x : Addr) (zs : List Str) : Prop := ∃ dy p, H y = some (.ins CA dy [("own_forest", .ref x), ("own_places", .ref p)]) ∧ H p = some (.lst (zs.map V.str))
theorem AAt.mono {CA y x : Addr} {H H' : Hp} {zs : List Str} (s : Same H H') (h : AAt CA H y x zs) : AAt CA H' y x zs := let ⟨dy, p, e1, e2⟩ := h; ⟨dy, p, s _ _ e1, s _ _ e2⟩
theorem put2a {u v : V} : putF "own_places" v [(("own_forest" : Str), u)] = [(("own_forest" : Str), u), (("own_places" : Str), v)] := by
  unfold putF
  rw [if_neg (by decide +kernel)] <;> rfl
def spAInit (CF CA : Addr) : Sp := fun vs H Q _ => ∃ (y x l dy : Addr) (ts : List (Str × Str)) (zs : List Str), vs = [.ref y, .ref x, .ref l] ∧ H y = some (.ins CA dy []) ∧ FAt CF H x ts ∧ TreeOk ts ∧ H l = some (.lst (zs.map V.str)) ∧ 1 ≤ zs.length ∧ zs.length ≤ 60 ∧ (∀ z ∈ zs, Pl ts z) ∧
  ∀ H', AAt CA H' y x zs → (∀ b o, b ≠ y → H b = some o → H' b = some o) → Q .non H'
def spAPlaces (CA : Addr) : Sp := fun vs H Q _ => ∃ (y x : Addr) (zs : List Str), vs = [.ref y] ∧ AAt CA H y x zs ∧ ∀ p, H p = none → Q (.ref p) (upd H p (.lst (zs.map V.str)))
section
variable {P : Program} {w : World} {K : PySem.W.Frag} {mg : Str → Option Value} {base : Heap}
theorem scAInit : FnScope ["self", "forest", "places", "user", "place"] ["self", "forest", "places"] (defScope s_Assignment___init__) := ⟨rfl, rfl, rfl, by decide +kernel, rfl, by decide +kernel, by decide +kernel⟩
theorem ok_ainit {f CF CA : Addr} {mc mcA : Value} {fd : FuncData} (F : Fun K "__init__" "Assignment.__init__" s_Assignment___init__ f fd) (T : Nm mg) (O : FoC K CF) (Z : Fc K mg CF mc) (B : Ac K mg CA mcA) : FnOk P w K mg base CX0 1 f fd ["self", "forest", "places"] (spAInit CF CA) := by
  obtain ⟨um, cm⟩ := B.most
  obtain ⟨ur, cr⟩ := Z.root
  refine F.ok scAInit (fun vs H Q E h => ?_) (fun cdv A outer s H vs Q E hr h => ?_)
  · obtain ⟨y, x, l, dy, ts, zs, rfl, _⟩ := h
    rfl
  · obtain ⟨y, x, l, dy, ts, zs, rfl, hy, fa, o, hl, one, few, mem, k⟩ := h
    have hu := hu_of hr
    refine ⟨_, pss_cons (ps_if (PW.pt (pw_or (pt_not (pt_val (pe_callB call_isiT (by rfl) T.isi (by decide +kernel) (pa_cons (pv 2) (pa_cons (pe_tup (pa_cons (pe_bltn (v := .ty "list") (u := .type "list") (by rfl) T.lst (by decide +kernel) rfl) (pa_cons (pe_bltn (v := .ty "tuple") (u := .type "tuple") (by rfl) T.tup (by decide +kernel) rfl) pa_nil))) pa_nil)))))
        (pw_or1 (pt_not (pt_chain op_le op_le pe_int (pe_callB call_len_seq (by rfl) T.len PySem.boot_len (pa_cons (pv 2) pa_nil)) (pe_cval (pe_glob (v := .ref CA) (by rfl) B.gA rfl))))))) pss_never pss_nil)
      (pss_cons (ps_for PassesOwn.never rfl (pi_enum rfl T.enu (pa_cons (pv 2) pa_nil)) (pg_tup rfl (pgs_cons (pg_name (i := 3) scAInit.nd rfl (.inl rfl)) (pgs_cons (pg_name (i := 4) scAInit.nd rfl (.inl rfl)) pgs_nil)))
        (pss_one (ps_if (PW.pt (pw_or (pt_not (pt_val (pe_callB call_isi (by rfl) T.isi (by decide +kernel) (pa_cons (pv 4) (pa_cons (pe_bltn (v := .ty "str") (u := .type "str") (by rfl) T.str (by decide +kernel) rfl) pa_nil)))))
          (pw_or1 (PW.pt (pw_and (pt_cmpR op_ne (pv 4) (pe_cval (pe_glob (v := .ref CF) (by rfl) Z.gF rfl)) (nomark _)) (pw_and1 (pt_cmp (pc_dnotin hu (pv 4) (pe_fld (pv 1) rfl))))))))) pss_never pss_nil)))
      (pss_cons (ps_fld (pv 0) (pv 1) rfl)
      (pss_one (ps_fld (pv 0) (pe_callTy call_list_of (by rfl) T.lst (by decide +kernel) (pa_cons (pv 2) pa_nil)) rfl)))), ?_⟩
    have big : 1000 ≤ sizeLine := by decide
    obtain ⟨dx, dq, hx, hd⟩ := fa
    refine ⟨_, rfl, by show 2 ≤ sizeLine; omega, fun tp ntp => ?_⟩
    have s1 := same_new (o := .tup [.ty "list", .ty "tuple"]) ntp
    refine ⟨.ref l, tp, [.ty "list", .ty "tuple"], _, [.type "list", .type "tuple"], true, rfl, upd_same, .cons (.ty _) (.cons (.ty _) .nil), .base (.lst (s1 _ _ hl)), kitAny_cons (b := true) (kit_ty (by decide +kernel)) (fun z => nomatch z) (fun _ => rfl), true, rfl, ?_⟩
    refine iteF ?_
    obtain ⟨H1, e1⟩ : ∃ X, X = upd H tp (.tup [.ty "list", .ty "tuple"]) := ⟨_, rfl⟩
    rw [← e1] at s1 ⊢
    have hl1 := s1 _ _ hl
    refine ⟨_, rfl, l, _, rfl, .inl (SqL.of hl1), _, _, rfl, rfl, _, rfl, ?_⟩
    have ll : (zs.map V.str).length = zs.length := List.length_map ..
    rw [if_pos (decide_eq_true (by omega))]
    refine ⟨CA, mcA, _, um, rfl, B.rd, cm, _, _, rfl, rfl, _, rfl, ?_⟩
    rw [decide_eq_true (show ((zs.map V.str).length : Int) ≤ 60 by omega)]
    refine iteF ?_
    refine ⟨_, rfl, l, _, rfl, SqL.of hl1, ?_⟩
    refine for_it walk_enum (fun j σ' H' => (∃ u3 u4, σ' = [some (.ref y), some (.ref x), some (.ref l), u3, u4]) ∧ Same H1 H') ⟨⟨_, _, rfl⟩, fun _ _ e => e⟩ (fun j σ' H' _ z => SqL.of (z.2 _ _ hl1)) ?_ ?_
    · intro j T' σ' Ha Hb hj ⟨⟨u3, u4, e⟩, sa⟩ ⟨Tp, i, z, eT, nT, eH, ey, ez⟩
      subst e
      subst eT
      subst eH
      cases ey
      obtain ⟨a, ha, rfl⟩ := map_of (show (zs.map V.str)[j]? = some z from ez)
      have ma := mem a (List.mem_of_getElem? ha)
      have sT := same_new (o := .tup [.int (j : Int), .str a]) nT
      have hx2 := sT _ _ (sa _ _ (s1 _ _ hx))
      have hd2 := sT _ _ (sa _ _ (s1 _ _ hd))
      refine ⟨Tp, _, rfl, .inl (.inl upd_same), rfl, ?_⟩
      refine ⟨_, _, rfl, _, _, rfl, rfl, ?_⟩
      refine ⟨_, rfl, .str a, _, _, _, true, rfl, .ty _, .base (.str a), kit_ty (by decide +kernel), true, rfl, ?_⟩
      refine iteF ?_
      refine ⟨_, rfl, CF, mc, _, ur, rfl, Z.rd, cr, rfl, _, rfl, ?_⟩
      by_cases e0 : a = ""
      · rw [decide_eq_true (show V.str a = V.str "" by rw [e0])]
        refine iteF ?_
        exact iteF ⟨⟨_, _, rfl⟩, sa.trans sT⟩
      · rw [decide_eq_false (show ¬ V.str a = V.str "" from fun z => e0 (V.str.inj z))]
        show if true = true then _ else _
        rw [if_pos rfl]
        obtain ⟨pa, hp⟩ := par_some o.nd (ma.resolve_left e0)
        refine ⟨_, rfl, _, rfl, x, CF, dx, _, .ref dq, rfl, hx2, O.cl, O.nA, rfl, dq, _, rfl, dget_prs (.inl hd2) hp, _, rfl, ?_⟩
        exact iteF ⟨⟨_, _, rfl⟩, sa.trans sT⟩
    · intro σ' H2 ⟨⟨u3, u4, e⟩, sa⟩
      subst e
      have s2 : Same H H2 := s1.trans sa
      have hy2 := s2 _ _ hy
      have hl2 := s2 _ _ hl
      have yl : l ≠ y := ne_of hl2 hy2 (by intro z; cases z)
      refine ⟨_, rfl, _, rfl, y, CA, dy, [], rfl, hy2, B.cl, B.nF, by show 0 < 1000; decide, ?_⟩
      refine ⟨_, rfl, l, _, rfl, .inl (SqL.of (by rw [upd_ne yl]; exact hl2)), fun p np => ?_⟩
      have yp : y ≠ p := ne_of_none upd_same np
      refine ⟨_, rfl, y, CA, dy, [("own_forest", .ref x)], rfl, by rw [upd_ne yp, upd_same] <;> rfl, B.cl, B.nP, by show 1 < 1000; decide, ?_⟩
      rw [put2a]
      refine k _ ⟨dy, p, upd_same, by rw [upd_ne yp.symm, upd_same]⟩ fun b o by_ e => ?_
      have np2 : H2 p = none := by
        rw [upd_ne yp.symm] at np
        exact np
      rw [upd_ne by_, upd_ne (ne_of_none (s2 _ _ e) np2), upd_ne by_]
      exact s2 _ _ e
theorem scAPlaces : FnScope ["self"] ["self"] (defScope s_Assignment_places) := ⟨rfl, rfl, rfl, by decide +kernel, rfl, by decide +kernel, by decide +kernel⟩
theorem ok_aplaces {f CA : Addr} {mcA : Value} {fd : FuncData} (F : Fun K "places" "Assignment.places" s_Assignment_places f fd) (T : Nm mg) (B : Ac K mg CA mcA) : FnOk P w K mg base CX0 1 f fd ["self"] (spAPlaces CA) := by
  refine F.ok scAPlaces (fun vs H Q E h => ?_) (fun cdv A outer s H vs Q E hr h => ?_)
  · obtain ⟨y, x, zs, rfl, _⟩ := h
    rfl
  · obtain ⟨y, x, zs, rfl, ⟨dy, p, hy, hp⟩, k⟩ := h
    refine ⟨_, pss_one (ps_ret (pe_callTy call_list_of (by rfl) T.lst (by decide +kernel) (pa_cons (pe_fld (pv 0) rfl) pa_nil))), ?_⟩
    exact ⟨_, rfl, y, CA, dy, _, .ref p, rfl, hy, B.cl, B.nP, rfl, p, _, rfl, .inl (SqL.of hp), fun q nq => k q nq⟩
end
end FT


/-! Assignment: forest, total, sizes, users_of, at -/
namespace FT
open PySem L2 TL ClX LiI
/-- the numbers below n with a mark -/
def selU (n : Nat) (c : Nat → Bool) : List Int := ((List.range n).filter c).map fun i : Nat => (i : Int)
theorem selU_more (n : Nat) (c : Nat → Bool) : selU (n + 1) c = selU n c ++ if c n = true then [(n : Int)] else [] := by
  unfold selU
  rw [List.range_succ, List.filter_append, List.map_append]
  by_cases h : c n = true
  · rw [if_pos h, List.filter_cons, if_pos h] <;> rfl
  · rw [if_neg h, List.filter_cons, if_neg h] <;> rfl
theorem selU_len (n : Nat) (c : Nat → Bool) : (selU n c).length ≤ n := by
  unfold selU
  rw [List.length_map]
  have := List.length_filter_le c (List.range n)
  rw [List.length_range] at this
  exact this
def atC (zs : List Str) (p : Str) (i : Nat) : Bool := decide (zs[i]? = some p)
def hasC (ts : List (Str × Str)) (zs : List Str) (a : Str) (i : Nat) : Bool := match zs[i]? with
  | some z => decide (a ∈ pathOf ts z)
  | none => false
/-- the users at a place; those that have a flag; how many -/
def atU (zs : List Str) (p : Str) : List Int := selU zs.length (atC zs p)
def hasU (ts : List (Str × Str)) (zs : List Str) (a : Str) : List Int := selU zs.length (hasC ts zs a)
def szZ (ts : List (Str × Str)) (zs : List Str) (a : Str) : Int := ((zs.filter fun z => decide (a ∈ pathOf ts z)).length : Int)
theorem szZ_more {ts : List (Str × Str)} {zs : List Str} {z a : Str} {j : Nat} (h : zs[j]? = some z) : szZ ts (zs.take (j + 1)) a = szZ ts (zs.take j) a + if a ∈ pathOf ts z then 1 else 0 := by
  unfold szZ
  rw [take_more h, List.filter_append, List.length_append]
  by_cases m : a ∈ pathOf ts z
  · rw [if_pos m, List.filter_cons, if_pos (decide_eq_true m)] <;> rfl
  · rw [if_neg m, List.filter_cons, if_neg (by rw [decide_eq_false m]; decide)] <;> rfl
def spAForest (CA : Addr) : Sp := fun vs H Q _ => ∃ (y x : Addr) (zs : List Str), vs = [.ref y] ∧ AAt CA H y x zs ∧ Q (.ref x) H
def spATotal (CA : Addr) : Sp := fun vs H Q _ => ∃ (y x : Addr) (zs : List Str), vs = [.ref y] ∧ AAt CA H y x zs ∧ Q (.int (zs.length : Int)) H
def spSizesOf (CF : Addr) : Sp := fun vs H Q _ => ∃ (x l : Addr) (ts : List (Str × Str)) (zs : List Str), vs = [.ref x, .ref l] ∧ FAt CF H x ts ∧ TreeOk ts ∧ H l = some (.lst (zs.map V.str)) ∧ (∀ z ∈ zs, Pl ts z) ∧
  ∀ (p : Addr) (H' : Hp), Same H H' → H p = none → H' p = some (.dK (tblI (ts.map Prod.fst) (szZ ts zs))) → Q (.ref p) H'
def spASizes (CF CA : Addr) : Sp := fun vs H Q _ => ∃ (y x : Addr) (ts : List (Str × Str)) (zs : List Str), vs = [.ref y] ∧ AAt CA H y x zs ∧ FAt CF H x ts ∧ TreeOk ts ∧ (∀ z ∈ zs, Pl ts z) ∧
  ∀ (p : Addr) (H' : Hp), Same H H' → H p = none → H' p = some (.dK (tblI (ts.map Prod.fst) (szZ ts zs))) → Q (.ref p) H'
def spAAt (CF CA : Addr) : Sp := fun vs H Q _ => ∃ (y x : Addr) (ts : List (Str × Str)) (zs : List Str) (a : Str), vs = [.ref y, .str a] ∧ AAt CA H y x zs ∧ FAt CF H x ts ∧ TreeOk ts ∧ zs.length ≤ 1000 ∧ Pl ts a ∧
  ∀ (p : Addr) (H' : Hp), Same H H' → H p = none → H' p = some (.lst ((atU zs a).map V.int)) → Q (.ref p) H'
def spAUsers (CF CA : Addr) : Sp := fun vs H Q _ => ∃ (y x : Addr) (ts : List (Str × Str)) (zs : List Str) (a : Str), vs = [.ref y, .str a] ∧ AAt CA H y x zs ∧ FAt CF H x ts ∧ TreeOk ts ∧ (∀ z ∈ zs, Pl ts z) ∧ zs.length ≤ 1000 ∧ a ∈ ts.map Prod.fst ∧
  ∀ (p : Addr) (H' : Hp), Same H H' → H p = none → H' p = some (.lst ((hasU ts zs a).map V.int)) → Q (.ref p) H'
def spNeedFl (CF : Addr) : Sp := fun vs H Q _ => ∃ (x : Addr) (ts : List (Str × Str)) (a : Str), vs = [.ref x, .str a] ∧ FAt CF H x ts ∧ TreeOk ts ∧ a ∈ ts.map Prod.fst ∧ Q .non H
section
variable {P : Program} {w : World} {K : PySem.W.Frag} {mg : Str → Option Value} {base : Heap}
theorem scAFo : FnScope ["self"] ["self"] (defScope s_Assignment_forest) := ⟨rfl, rfl, rfl, by decide +kernel, rfl, by decide +kernel, by decide +kernel⟩
theorem ok_aforest {f CA : Addr} {mcA : Value} {fd : FuncData} (F : Fun K "forest" "Assignment.forest" s_Assignment_forest f fd) (B : Ac K mg CA mcA) : FnOk P w K mg base CX0 1 f fd ["self"] (spAForest CA) := by
  refine F.ok scAFo (fun vs H Q E h => ?_) (fun cdv A outer s H vs Q E hr h => ?_)
  · obtain ⟨y, x, zs, rfl, _⟩ := h
    rfl
  · obtain ⟨y, x, zs, rfl, ⟨dy, p, hy, hp⟩, k⟩ := h
    exact ⟨_, pss_one (ps_ret (pe_fld (pv 0) rfl)), _, rfl, y, CA, dy, _, .ref x, rfl, hy, B.cl, B.nF, rfl, k⟩
theorem scATo : FnScope ["self"] ["self"] (defScope s_Assignment_total) := ⟨rfl, rfl, rfl, by decide +kernel, rfl, by decide +kernel, by decide +kernel⟩
theorem ok_atotal {f CA : Addr} {mcA : Value} {fd : FuncData} (F : Fun K "total" "Assignment.total" s_Assignment_total f fd) (T : Nm mg) (B : Ac K mg CA mcA) : FnOk P w K mg base CX0 1 f fd ["self"] (spATotal CA) := by
  refine F.ok scATo (fun vs H Q E h => ?_) (fun cdv A outer s H vs Q E hr h => ?_)
  · obtain ⟨y, x, zs, rfl, _⟩ := h
    rfl
  · obtain ⟨y, x, zs, rfl, ⟨dy, p, hy, hp⟩, k⟩ := h
    refine ⟨_, pss_one (ps_ret (pe_callB call_len_seq (by rfl) T.len PySem.boot_len (pa_cons (pe_fld (pv 0) rfl) pa_nil))), ?_⟩
    refine ⟨_, rfl, y, CA, dy, _, .ref p, rfl, hy, B.cl, B.nP, rfl, p, _, rfl, .inl (SqL.of hp), ?_⟩
    rw [List.length_map]
    exact k
abbrev NSo : List Str := ["forest", "places", "name", "found", "place"]
theorem scSo : FnScope NSo ["forest", "places"] (defScope s_sizes_of) := ⟨rfl, rfl, rfl, by decide +kernel, rfl, by decide +kernel, by decide +kernel⟩
theorem ok_sizesOf {f fP CF p1 g1 : Addr} {fd fdP fd1 : FuncData} (F : Fun K "sizes_of" "sizes_of" s_sizes_of f fd) (T : Nm mg) (O : FoC K CF) (L1 : Pr1 P w K mg base CF "flags" (spFFlags CF) p1 g1 fd1) (DP : Dn P w K mg base CX0 1 "path_in" ["above", "place"] spPathIn fP fdP) : FnOk P w K mg base CX0 3 f fd ["forest", "places"] (spSizesOf CF) := by
  refine F.ok scSo (fun vs H Q E h => ?_) (fun cdv A outer s H vs Q E hr h => ?_)
  · obtain ⟨x, l, ts, zs, rfl, _⟩ := h
    rfl
  · obtain ⟨x, l, ts, zs, rfl, fa, o, hl, pl, k⟩ := h
    have hu := hu_of hr
    have nd := scSo.nd
    have hr1 : Room 1 _ := hr.mono (by decide)
    have hr2 : Room 2 _ := hr.mono (by decide)
    have big : 1000 ≤ sizeLine := by decide
    have few := o.few
    refine ⟨_, pss_cons (ps_set (i := 3) nd rfl (.inl rfl) (pe_callTy (call_dictP rfl) (by rfl) T.dct (by decide +kernel) (pa_cons (pe_lc (own := [("name", 2)]) (g := gName 2) (tt := tYes) rfl nd (pi_list (pe_prop (pv 0) O.cl L1.pr L1.fn hr2 L1.bn .nil pass0 (by rfl)))
          (blkOk_by (N := NSo) (sc := defScope s_sizes_of) (by decide +kernel)) (fun _ _ _ _ _ => pg_name (i := 2) nd rfl (Or.inl rfl)) (fun _ _ _ _ _ => pts_nil) (fun _ _ _ _ _ => pe_tup (pa_cons (pv 2) (pa_cons pe_int pa_nil)))) pa_nil)))
      (pss_cons (ps_for PassesOwn.never rfl (pi_list (pv 1)) (pg_name (i := 4) nd rfl (.inl rfl))
        (pss_one (ps_for PassesOwn.never rfl (pi_tup (pe_call DP.ok hr1 rfl DP.mgn DP.kp DP.bn .nil pass0 (pa_cons (pe_fld (pv 0) rfl) (pa_cons (pv 4) pa_nil)))) (pg_name (i := 2) nd rfl (.inl rfl))
          (pss_one (ps_dput hu (pv 3) (pv 2) (pe_op op_add (pe_dget hu (pv 3) (pv 2) (fun _ _ => rfl)) pe_int) rfl)))))
      (pss_one (ps_ret (pv 3)))), ?_⟩
    obtain ⟨dx, dq, hx, hd⟩ := id fa
    refine ⟨_, rfl, x, dx, _, rfl, hx, x, ts, rfl, fa, fun pf nf => ⟨pf, rfl, ⟨_, SqL.of upd_same⟩, fun D nD => ?_⟩⟩
    obtain ⟨H1, e1⟩ : ∃ X, X = upd H pf (.lst ((ts.map Prod.fst).map V.str)) := ⟨_, rfl⟩
    have s1 : Same H H1 := e1 ▸ same_new nf
    have a1 : H1 pf = some (.lst ((ts.map Prod.fst).map V.str)) := by rw [e1]; exact upd_same
    rw [← e1] at nD ⊢
    refine lc_it walk_list (fun i H' => Same H1 H' ∧ ∃ rs : List Addr, H' D = some (.lst (rs.map V.ref)) ∧ PrG (fun _ => .int 0) H' rs ((ts.map Prod.fst).take i)) ⟨same_new nD, [], upd_same, .nil⟩ (fun i H' _ z => SqL.of (z.1 _ _ a1)) ?_ ?_
    · intro i y Hz Ha hi ⟨z1, rs, hD, pr⟩ ⟨eb, ex⟩
      subst eb
      obtain ⟨a, ha, rfl⟩ := map_of ex
      have lr := pr.len
      rw [List.length_take, List.length_map] at lr
      refine ⟨rfl, ?_⟩
      refine ⟨_, rfl, by show 2 ≤ sizeLine; omega, fun tq ntq => ?_⟩
      have sq : Same Ha (upd Ha tq (.tup [.str a, .int 0])) := same_new ntq
      refine ⟨_, sq _ _ hD, by rw [List.length_map]; omega, (z1.trans sq).put nD, rs ++ [tq], by rw [upd_same, List.map_append] <;> rfl, ?_⟩
      rw [take_more ha]
      exact PrG.push (sq _ _ hD) (PrG.snoc upd_same (pr.mono sq))
    intro H2 ⟨z1, rs, hD, pr⟩
    rw [List.length_map, List.take_length] at pr
    refine ⟨D, rs, _, rfl, SqL.of hD, pr.kvs, fun pd npd => ?_⟩
    rw [merge_nd (by rw [map_fst]; exact o.nd)]
    have s02 : Same H H2 := s1.trans z1
    have np0 : H pd = none := s02.free npd
    obtain ⟨H3, e3⟩ : ∃ X, X = upd H2 pd (.dK (kvT ((ts.map Prod.fst).map fun a => (a, V.int 0)))) := ⟨_, rfl⟩
    have s03 : Same H H3 := e3 ▸ s02.trans (same_new npd)
    have hp3 : H3 pd = some (.dK (tblI (ts.map Prod.fst) (szZ ts []))) := by rw [e3, upd_same] <;> rfl
    rw [← e3]
    refine ⟨_, rfl, l, rfl, ⟨_, SqL.of (s03 _ _ hl)⟩, ?_⟩
    refine for_it walk_list (fun j σ' H' => (∃ u2 u4, σ' = [some (.ref x), some (.ref l), u2, some (.ref pd), u4]) ∧ Same H H' ∧ H' pd = some (.dK (tblI (ts.map Prod.fst) (szZ ts (zs.take j))))) ⟨⟨_, _, rfl⟩, s03, by rw [List.take_zero]; exact hp3⟩ (fun j σ' H' _ z => SqL.of (z.2.1 _ _ hl)) ?_ ?_
    · intro j y σ' Hz Ha hj ⟨⟨u2, u4, e⟩, sa, hpd⟩ ⟨eb, ex⟩
      subst e
      subst eb
      obtain ⟨z, hz, rfl⟩ := map_of ex
      have mz := pl z (List.mem_of_getElem? hz)
      refine ⟨_, rfl, x, CF, dx, _, .ref dq, rfl, sa _ _ hx, O.cl, O.nA, rfl, _, rfl, dq, ts, z, rfl, .inl (sa _ _ hd), o, mz, fun pt H4 s4 npt hpt => ?_⟩
      have pdt : pd ≠ pt := ne_of_none hpd npt
      have nt0 : H pt = none := sa.free npt
      refine ⟨pt, rfl, ⟨_, .inl (.inl hpt)⟩, ?_⟩
      have nodup := path_nd o mz
      refine for_it walk_tup (fun i σ' H' => (∃ u2, σ' = [some (.ref x), some (.ref l), u2, some (.ref pd), some (.str z)]) ∧ Same H H' ∧ H' pt = some (.tup ((pathOf ts z).map V.str)) ∧ H' pd = some (.dK (tblI (ts.map Prod.fst) fun a => szZ ts (zs.take j) a + if a ∈ (pathOf ts z).take i then 1 else 0)))
        ⟨⟨_, rfl⟩, sa.trans s4, hpt, by rw [s4 _ _ hpd]; congr 2⟩ (fun i σ' H' _ w => .inl (.inl w.2.2.1)) ?_ ?_
      · intro i y2 σ2 Hy Hb hi ⟨⟨u2', e⟩, sb, hpt', hpd'⟩ ⟨eb, ex⟩
        subst e
        subst eb
        obtain ⟨b, hb, rfl⟩ := map_of ex
        have mb := path_all o mz b (List.mem_of_getElem? hb)
        have nb := nat_fresh nodup hb
        have dg : DGet Hb pd (.str b) (some (.int (szZ ts (zs.take j) b + 0))) := by
          have w := DGet.k (k := Sum.inr b) hpd'
          rw [tblI_val mb, if_neg nb] at w
          exact w
        refine ⟨_, rfl, _, rfl, pd, _, rfl, dg, _, _, rfl, rfl, _, rfl, _, rfl, pd, _, rfl, DPut.k (k := Sum.inr b) hpd' (by rw [tblI_len, List.length_map]; omega), ?_⟩
        rw [tblI_put mb]
        refine ⟨⟨_, rfl⟩, sb.put np0, by rw [upd_ne pdt.symm]; exact hpt', ?_⟩
        rw [upd_same, take_more hb]
        congr 2
        refine tblI_congr fun a _ => ?_
        by_cases w : a = b
        · rw [if_pos w, w, if_pos (List.mem_append_right _ (List.mem_singleton_self _)), Int.add_zero]
        · rw [if_neg w]
          by_cases m : a ∈ (pathOf ts z).take i
          · rw [if_pos m, if_pos (List.mem_append_left _ m)]
          · rw [if_neg m, if_neg fun h => (List.mem_append.mp h).elim m fun h => w (List.mem_singleton.mp h)]
      · intro σ2 Hb ⟨⟨u2', e⟩, sb, hpt', hpd'⟩
        subst e
        rw [List.length_map, List.take_length] at hpd'
        refine ⟨⟨_, _, rfl⟩, sb, ?_⟩
        rw [hpd']
        congr 2
        exact tblI_congr fun a _ => (szZ_more hz).symm
    · intro σ' H4 ⟨⟨u2, u4, e⟩, sa, hpd⟩
      subst e
      rw [List.length_map, List.take_length] at hpd
      exact ⟨_, rfl, k pd H4 sa np0 hpd⟩
theorem scASz : FnScope ["self"] ["self"] (defScope s_Assignment_sizes) := ⟨rfl, rfl, rfl, by decide +kernel, rfl, by decide +kernel, by decide +kernel⟩
theorem ok_asizes {f fS CF CA : Addr} {mcA : Value} {fd fdS : FuncData} (F : Fun K "sizes" "Assignment.sizes" s_Assignment_sizes f fd) (B : Ac K mg CA mcA) (DS : Dn P w K mg base CX0 3 "sizes_of" ["forest", "places"] (spSizesOf CF) fS fdS) : FnOk P w K mg base CX0 4 f fd ["self"] (spASizes CF CA) := by
  refine F.ok scASz (fun vs H Q E h => ?_) (fun cdv A outer s H vs Q E hr h => ?_)
  · obtain ⟨y, x, ts, zs, rfl, _⟩ := h
    rfl
  · obtain ⟨y, x, ts, zs, rfl, ⟨dy, p, hy, hp⟩, fa, o, pl, k⟩ := h
    refine ⟨_, pss_one (ps_ret (pe_call DS.ok hr rfl DS.mgn DS.kp DS.bn .nil pass0 (pa_cons (pe_fld (pv 0) rfl) (pa_cons (pe_fld (pv 0) rfl) pa_nil)))), ?_⟩
    exact ⟨_, rfl, y, CA, dy, _, .ref x, rfl, hy, B.cl, B.nF, rfl, _, rfl, y, CA, dy, _, .ref p, rfl, hy, B.cl, B.nP, rfl, x, p, ts, zs, rfl, fa, o, hp, pl, k⟩
end
end FT


/-! Assignment.at -/
namespace FT
open PySem L2 TL ClX LiI
section
variable {P : Program} {w : World} {K : PySem.W.Frag} {mg : Str → Option Value} {base : Heap}
abbrev NAt : List Str := ["self", "place", "user", "other"]
end
end FT


/-! need_flag, need_place, Assignment.users_of, at: with any value, either answer -/
namespace FT
open PySem L2 TL ClX LiI
def flagV (ts : List (Str × Str)) (v : V) : Bool := match v with
  | .str z => decide (z ∈ ts.map Prod.fst)
  | _ => false
def placeV (ts : List (Str × Str)) (v : V) : Bool := match v with
  | .str z => decide (z = "" ∨ z ∈ ts.map Prod.fst)
  | _ => false
def strV (v : V) : Str := match v with
  | .str z => z
  | _ => ""
def nmE (CN : Addr) (ok : Bool) (v : V) : Option Err := if ok = true then none else some (.e1 CN "name" v)
theorem nmE_t {CN : Addr} {b : Bool} {v : V} (h : b = true) : nmE CN b v = none := if_pos h
theorem nmE_f {CN : Addr} {b : Bool} {v : V} (h : b = false) : nmE CN b v = some (.e1 CN "name" v) := by
  subst h
  rfl
def spNeedFlE (K : PySem.W.Frag) (CF CN : Addr) : Sp := fun vs H Q E => ∃ (x : Addr) (ts : List (Str × Str)) (v : V), vs = [.ref x, v] ∧ FAt CF H x ts ∧ TreeOk ts ∧ IsDat K H v ∧ Res H Q E (nmE CN (flagV ts v) v)
def spNeedPlE (K : PySem.W.Frag) (CF CN : Addr) : Sp := fun vs H Q E => ∃ (x : Addr) (ts : List (Str × Str)) (v : V), vs = [.ref x, v] ∧ FAt CF H x ts ∧ TreeOk ts ∧ IsDat K H v ∧ Res H Q E (nmE CN (placeV ts v) v)
def spAUsersE (K : PySem.W.Frag) (CF CA CN : Addr) : Sp := fun vs H Q E => ∃ (y x : Addr) (ts : List (Str × Str)) (zs : List Str) (v : V), vs = [.ref y, v] ∧ AAt CA H y x zs ∧ FAt CF H x ts ∧ TreeOk ts ∧ (∀ z ∈ zs, Pl ts z) ∧ zs.length ≤ 1000 ∧ IsDat K H v ∧
  match nmE CN (flagV ts v) v with
  | none => ∀ (p : Addr) (H' : Hp), Same H H' → H p = none → H' p = some (.lst ((hasU ts zs (strV v)).map V.int)) → Q (.ref p) H'
  | some e => Out H E e
def spAAtE (K : PySem.W.Frag) (CF CA CN : Addr) : Sp := fun vs H Q E => ∃ (y x : Addr) (ts : List (Str × Str)) (zs : List Str) (v : V), vs = [.ref y, v] ∧ AAt CA H y x zs ∧ FAt CF H x ts ∧ TreeOk ts ∧ zs.length ≤ 1000 ∧ IsDat K H v ∧
  match nmE CN (placeV ts v) v with
  | none => ∀ (p : Addr) (H' : Hp), Same H H' → H p = none → H' p = some (.lst ((atU zs (strV v)).map V.int)) → Q (.ref p) H'
  | some e => Out H E e
theorem Dat.str_of {K : PySem.W.Frag} {H : Hp} {v : V} (d : Dat K H v "str") : ∃ z, v = .str z := by
  generalize e : "str" = T at d
  cases d with
  | str z => exact ⟨z, rfl⟩
  | _ => exact absurd e (by decide)
theorem Dat.str_no {K : PySem.W.Frag} {H : Hp} {v : V} {T : String} (d : Dat K H v T) (n : ¬ T = "str") (z : Str) : v ≠ .str z := fun e => by
  subst e
  cases d with
  | str => exact n rfl
section
variable {P : Program} {w : World} {K : PySem.W.Frag} {mg : Str → Option Value} {base : Heap}
abbrev NFlE : List Str := ["forest", "name"]
theorem scNfE : FnScope NFlE ["forest", "name"] (defScope s_need_flag) := ⟨rfl, rfl, rfl, by decide +kernel, rfl, by decide +kernel, by decide +kernel⟩
theorem ok_needFlE {f CF CN IN : Addr} {fd dN : FuncData} (F : Fun K "need_flag" "need_flag" s_need_flag f fd) (T : Nm mg) (O : FoC K CF) (S : Er1 P w K mg base "UnknownName" "name" CN IN dN) : FnOk P w K mg base (L2.CX P w) 3 f fd ["forest", "name"] (spNeedFlE K CF CN) := by
  refine F.okX scNfE (fun vs H Q E h => ?_) (fun cdv A outer s H vs Q E hr h => ?_)
  · obtain ⟨x, ts, v, rfl, _⟩ := h
    rfl
  · obtain ⟨x, ts, v, rfl, fa, o, ⟨T0, dv⟩, k⟩ := h
    have hu := hu_of hr
    have hr2 : Room 2 _ := hr.mono (by decide)
    refine ⟨_, pss_one (ps_if (PW.pt (pw_or (pt_not (pt_val (pe_callB call_isi (by rfl) T.isi (by decide +kernel) (pa_cons (pv 1) (pa_cons (pe_bltn (v := .ty "str") (u := .type "str") (by rfl) T.str (by decide +kernel) rfl) pa_nil)))))
          (pw_or1 (pt_cmp (pc_dnotin hu (pv 1) (pe_fld (pv 0) rfl)))))) (pss_one (ps_err1 S rfl (takes_of rfl rfl rfl rfl) hr2 rfl (pv 1))) pss_nil), ?_⟩
    obtain ⟨dx, dq, hx, hd⟩ := id fa
    refine ⟨_, rfl, v, _, _, _, _, rfl, .ty _, dv.ty, dv.str_, _, rfl, ?_⟩
    by_cases eT : T0 = "str"
    · subst eT
      obtain ⟨a, rfl⟩ := dv.str_of
      rw [decide_eq_true rfl]
      refine iteF ?_
      by_cases ma : a ∈ ts.map Prod.fst
      · obtain ⟨pa, hp⟩ := par_some o.nd ma
        rw [nmE_t (b := flagV ts (.str a)) (decide_eq_true ma)] at k
        refine ⟨_, rfl, _, rfl, x, CF, dx, _, .ref dq, rfl, hx, O.cl, O.nA, rfl, dq, _, rfl, dget_prs (.inl hd) hp, _, rfl, ?_⟩
        exact iteF (k H Same.refl)
      · rw [nmE_f (b := flagV ts (.str a)) (decide_eq_false ma)] at k
        have z := DGet.k (k := Sum.inr a) hd
        rw [val_prs, par_none ma] at z
        refine ⟨_, rfl, _, rfl, x, CF, dx, _, .ref dq, rfl, hx, O.cl, O.nA, rfl, dq, _, rfl, z, _, rfl, ?_⟩
        exact iteT ⟨_, rfl, out1 k Same.refl⟩
    · rw [decide_eq_false eT]
      have e0 : nmE CN (flagV ts v) v = some (.e1 CN "name" v) := by
        cases v with
        | str z => exact absurd rfl (dv.str_no eT z)
        | _ => rfl
      rw [e0] at k
      show if true = true then _ else _
      rw [if_pos rfl]
      exact iteT ⟨_, rfl, out1 k Same.refl⟩
abbrev NNpE : List Str := ["forest", "place"]
theorem scNpE : FnScope NNpE ["forest", "place"] (defScope s_need_place) := ⟨rfl, rfl, rfl, by decide +kernel, rfl, by decide +kernel, by decide +kernel⟩
theorem ok_needPlE {f CF CN IN : Addr} {mc : Value} {fd dN : FuncData} (F : Fun K "need_place" "need_place" s_need_place f fd) (T : Nm mg) (O : FoC K CF) (Z : Fc K mg CF mc) (S : Er1 P w K mg base "UnknownName" "name" CN IN dN) : FnOk P w K mg base (L2.CX P w) 3 f fd ["forest", "place"] (spNeedPlE K CF CN) := by
  obtain ⟨ur, cr⟩ := Z.root
  refine F.okX scNpE (fun vs H Q E h => ?_) (fun cdv A outer s H vs Q E hr h => ?_)
  · obtain ⟨x, ts, v, rfl, _⟩ := h
    rfl
  · obtain ⟨x, ts, v, rfl, fa, o, ⟨T0, dv⟩, k⟩ := h
    have hu := hu_of hr
    have hr2 : Room 2 _ := hr.mono (by decide)
    refine ⟨_, pss_one (ps_if (PW.pt (pw_or (pt_not (pt_val (pe_callB call_isi (by rfl) T.isi (by decide +kernel) (pa_cons (pv 1) (pa_cons (pe_bltn (v := .ty "str") (u := .type "str") (by rfl) T.str (by decide +kernel) rfl) pa_nil)))))
          (pw_or1 (PW.pt (pw_and (pt_cmpR op_ne (pv 1) (pe_cval (pe_glob (v := .ref CF) (by rfl) Z.gF rfl)) (nomark _)) (pw_and1 (pt_cmp (pc_dnotin hu (pv 1) (pe_fld (pv 0) rfl))))))))) (pss_one (ps_err1 S rfl (takes_of rfl rfl rfl rfl) hr2 rfl (pv 1))) pss_nil), ?_⟩
    obtain ⟨dx, dq, hx, hd⟩ := id fa
    refine ⟨_, rfl, v, _, _, _, _, rfl, .ty _, dv.ty, dv.str_, _, rfl, ?_⟩
    by_cases eT : T0 = "str"
    · subst eT
      obtain ⟨a, rfl⟩ := dv.str_of
      rw [decide_eq_true rfl]
      refine iteF ?_
      refine ⟨_, rfl, CF, mc, _, ur, rfl, Z.rd, cr, rfl, _, rfl, ?_⟩
      by_cases e : a = ""
      · rw [decide_eq_true (show V.str a = V.str "" by rw [e])]
        rw [nmE_t (b := placeV ts (.str a)) (decide_eq_true (.inl e))] at k
        refine iteF ?_
        exact iteF (k H Same.refl)
      · rw [decide_eq_false (show ¬ V.str a = V.str "" from fun z => e (V.str.inj z))]
        show if true = true then _ else _
        rw [if_pos rfl]
        by_cases ma : a ∈ ts.map Prod.fst
        · obtain ⟨pa, hp⟩ := par_some o.nd ma
          rw [nmE_t (b := placeV ts (.str a)) (decide_eq_true (.inr ma))] at k
          refine ⟨_, rfl, _, rfl, x, CF, dx, _, .ref dq, rfl, hx, O.cl, O.nA, rfl, dq, _, rfl, dget_prs (.inl hd) hp, _, rfl, ?_⟩
          exact iteF (k H Same.refl)
        · rw [nmE_f (b := placeV ts (.str a)) (decide_eq_false (by rintro (h | h); exact e h; exact ma h))] at k
          have z := DGet.k (k := Sum.inr a) hd
          rw [val_prs, par_none ma] at z
          refine ⟨_, rfl, _, rfl, x, CF, dx, _, .ref dq, rfl, hx, O.cl, O.nA, rfl, dq, _, rfl, z, _, rfl, ?_⟩
          exact iteT ⟨_, rfl, out1 k Same.refl⟩
    · rw [decide_eq_false eT]
      have e0 : nmE CN (placeV ts v) v = some (.e1 CN "name" v) := by
        cases v with
        | str z => exact absurd rfl (dv.str_no eT z)
        | _ => rfl
      rw [e0] at k
      show if true = true then _ else _
      rw [if_pos rfl]
      exact iteT ⟨_, rfl, out1 k Same.refl⟩
end
end FT


/-! Assignment.users_of, at with any value; flags_of, need_user, need_same_users -/
namespace FT
open PySem L2 TL ClX LiI
def spNeedUs (CA : Addr) : Sp := fun vs H Q _ => ∃ (y x : Addr) (zs : List Str) (i : Nat), vs = [.ref y, .int (i : Int)] ∧ AAt CA H y x zs ∧ i < zs.length ∧ Q .non H
def spAFlags (CF CA : Addr) : Sp := fun vs H Q _ => ∃ (y x : Addr) (ts : List (Str × Str)) (zs : List Str) (i : Nat) (z : Str), vs = [.ref y, .int (i : Int)] ∧ AAt CA H y x zs ∧ FAt CF H x ts ∧ TreeOk ts ∧ zs[i]? = some z ∧ Pl ts z ∧
  ∀ (p : Addr) (H' : Hp), Same H H' → H p = none → H' p = some (.tup ((pathOf ts z).map V.str)) → Q (.ref p) H'
def spSameUs (CA CM : Addr) : Sp := fun vs H Q E => ∃ (y1 y2 x1 x2 : Addr) (zs ws : List Str), vs = [.ref y1, .ref y2] ∧ AAt CA H y1 x1 zs ∧ AAt CA H y2 x2 ws ∧ Res H Q E (if zs.length = ws.length then none else some (.e0 CM))
section
variable {P : Program} {w : World} {K : PySem.W.Frag} {mg : Str → Option Value} {base : Heap}
abbrev NUsE : List Str := ["self", "name", "above", "user", "place"]
theorem scUsE : FnScope NUsE ["self", "name"] (defScope s_Assignment_users_of) := ⟨rfl, rfl, rfl, by decide +kernel, rfl, by decide +kernel, by decide +kernel⟩
theorem ok_ausersE {f fN fP CF CA CN : Addr} {mcA : Value} {fd fdN fdP : FuncData} (F : Fun K "users_of" "Assignment.users_of" s_Assignment_users_of f fd) (T : Nm mg) (O : FoC K CF) (B : Ac K mg CA mcA) (DN : Dn P w K mg base (L2.CX P w) 3 "need_flag" ["forest", "name"] (spNeedFlE K CF CN) fN fdN) (DP : Dn P w K mg base CX0 1 "path_in" ["above", "place"] spPathIn fP fdP) : FnOk P w K mg base (L2.CX P w) 4 f fd ["self", "name"] (spAUsersE K CF CA CN) := by
  refine F.okX scUsE (fun vs H Q E h => ?_) (fun cdv A outer s H vs Q E hr h => ?_)
  · obtain ⟨y, x, ts, zs, v, rfl, _⟩ := h
    rfl
  · obtain ⟨y, x, ts, zs, v, rfl, ⟨dy, p, hy, hp⟩, fa, o, pls, few, dv, k⟩ := h
    have hu := hu_of hr
    have nd := scUsE.nd
    have big : 1000 ≤ sizeLine := by decide
    refine ⟨_, pss_cons (ps_expr (pe_call DN.ok hr rfl DN.mgn DN.kp DN.bn .nil (passes_call (takes_of rfl rfl rfl rfl) (fun _ _ _ _ h => h)) (pa_cons (pe_fld (pv 0) rfl) (pa_cons (pv 1) pa_nil))))
      (pss_cons (ps_set (i := 2) nd rfl (.inr rfl) (pe_fld (pe_fld (pv 0) rfl) rfl))
      (pss_one (ps_ret (pe_lc (own := [("user", 3), ("place", 4)]) (g := gTup K 2 (gCons (gName 3) (gCons (gName 4) gNil))) (tt := tTest (tOp (rIn K false) (tVar 1) (tCall spPathIn [] E0 (tCons (tVar 2) (tCons (tVar 4) tNil))))) (te := tVar 3) rfl nd (pi_enum rfl T.enu (pa_cons (pe_fld (pv 0) rfl) pa_nil))
        (blkOk_by (N := NUsE) (sc := defScope s_Assignment_users_of) (by decide +kernel)) (fun _ _ _ _ _ => pg_tup rfl (pgs_cons (pg_name (i := 3) nd rfl (Or.inl rfl)) (pgs_cons (pg_name (i := 4) nd rfl (Or.inl rfl)) pgs_nil)))
        (fun _ _ _ _ _ => pts_one (pt_cmpR op_in_seq (pv 1) (pe_call DP.ok (hr.mono (by decide)) rfl DP.mgn DP.kp DP.bn .nil pass0 (pa_cons (pv 2) (pa_cons (pv 4) pa_nil))) rfl)) (fun _ _ _ _ _ => pv 3))))), ?_⟩
    obtain ⟨dx, dq, hx, hd⟩ := id fa
    refine ⟨_, rfl, y, CA, dy, _, .ref x, rfl, hy, B.cl, B.nF, rfl, _, rfl, x, ts, v, rfl, fa, o, dv, ?_⟩
    cases ok : flagV ts v with
    | false =>
      rw [nmE_f ok] at k
      exact k
    | true =>
    obtain ⟨a, rfl⟩ : ∃ a, v = .str a := by
      cases v with
      | str a => exact ⟨a, rfl⟩
      | _ => cases ok
    rw [nmE_t ok] at k
    refine fun H0 s0 => ?_
    have hx0 := s0 _ _ hx
    have hd0 := s0 _ _ hd
    refine ⟨_, rfl, y, CA, dy, _, .ref x, rfl, s0 _ _ hy, B.cl, B.nF, rfl, x, CF, dx, _, .ref dq, rfl, hx0, O.cl, O.nA, rfl, ?_⟩
    refine ⟨_, rfl, y, CA, dy, _, .ref p, rfl, s0 _ _ hy, B.cl, B.nP, rfl, p, _, rfl, SqL.of (s0 _ _ hp), fun D nD => ?_⟩
    refine lc_it walk_enum (fun j H' => Same H0 H' ∧ H' D = some (.lst ((selU j (hasC ts zs a)).map V.int))) ⟨same_new nD, upd_same⟩ (fun j H' _ w => SqL.of (w.1 _ _ (s0 _ _ hp))) ?_ ?_
    · intro j TT Ha Hb hj ⟨q1, q2⟩ ⟨T', y1, z, eT, nT, eH, ey, ez⟩
      subst eT
      subst eH
      cases ey
      obtain ⟨b, hb, rfl⟩ := map_of (f := V.str) (l := zs) (show (zs.map V.str)[j]? = some z from ez)
      have sT : Same Ha (upd Ha T' (.tup [.int (j : Int), .str b])) := same_new nT
      have jl := (List.getElem?_eq_some_iff.mp hb).1
      have ls := selU_len j (hasC ts zs a)
      refine ⟨T', [.int (j : Int), .str b], rfl, .inl (.inl upd_same), rfl, _, _, rfl, _, _, rfl, rfl, rfl, ?_⟩
      refine ⟨_, rfl, _, rfl, _, rfl, dq, ts, b, rfl, .inl (sT _ _ (q1 _ _ hd0)), o, pls b (List.mem_of_getElem? hb), fun pt H4 s4 npt hpt => ?_⟩
      refine ⟨pt, _, rfl, .inr (.inl (.inl hpt)), rfl, flat_strs _, _, rfl, ?_⟩
      rw [show (if false = true then !inV (V.str a) ((pathOf ts b).map V.str) else inV (V.str a) ((pathOf ts b).map V.str)) = decide (a ∈ pathOf ts b) from inV_strs a _]
      have more := selU_more j (hasC ts zs a)
      have ec : hasC ts zs a j = decide (a ∈ pathOf ts b) := by
        unfold hasC
        rw [hb]
      rw [ec] at more
      have q3 := s4 _ _ (sT _ _ q2)
      refine ite2 (fun yes => ?_) (fun no => ?_)
      · have yes : decide (a ∈ pathOf ts b) = true := yes
        rw [if_pos yes] at more
        refine ⟨_, rfl, _, q3, by rw [List.length_map]; omega, ((q1.trans sT).trans s4).put nD, by rw [upd_same, more, List.map_append] <;> rfl⟩
      · have no : ¬ decide (a ∈ pathOf ts b) = true := no
        rw [if_neg no, List.append_nil] at more
        exact ⟨(q1.trans sT).trans s4, by rw [more]; exact q3⟩
    · intro H1 ⟨q1, q2⟩
      rw [List.length_map] at q2
      exact k D H1 (s0.trans q1) (s0.free nD) q2
abbrev NAtE : List Str := ["self", "place", "user", "other"]
theorem scAtE : FnScope NAtE ["self", "place"] (defScope s_Assignment_at) := ⟨rfl, rfl, rfl, by decide +kernel, rfl, by decide +kernel, by decide +kernel⟩
theorem ok_aatE {f fN CF CA CN : Addr} {mcA : Value} {fd fdN : FuncData} (F : Fun K "at" "Assignment.at" s_Assignment_at f fd) (T : Nm mg) (B : Ac K mg CA mcA) (DN : Dn P w K mg base (L2.CX P w) 3 "need_place" ["forest", "place"] (spNeedPlE K CF CN) fN fdN) : FnOk P w K mg base (L2.CX P w) 4 f fd ["self", "place"] (spAAtE K CF CA CN) := by
  refine F.okX scAtE (fun vs H Q E h => ?_) (fun cdv A outer s H vs Q E hr h => ?_)
  · obtain ⟨y, x, ts, zs, v, rfl, _⟩ := h
    rfl
  · obtain ⟨y, x, ts, zs, v, rfl, ⟨dy, p, hy, hp⟩, fa, o, few, dv, k⟩ := h
    have hu := hu_of hr
    have nd := scAtE.nd
    have big : 1000 ≤ sizeLine := by decide
    refine ⟨_, pss_cons (ps_expr (pe_call DN.ok hr rfl DN.mgn DN.kp DN.bn .nil (passes_call (takes_of rfl rfl rfl rfl) (fun _ _ _ _ h => h)) (pa_cons (pe_fld (pv 0) rfl) (pa_cons (pv 1) pa_nil))))
      (pss_one (ps_ret (pe_lc (own := [("user", 2), ("other", 3)]) (g := gTup K 2 (gCons (gName 2) (gCons (gName 3) gNil))) (tt := tTest (tOp rEq (tVar 3) (tVar 1))) (te := tVar 2) rfl nd (pi_enum rfl T.enu (pa_cons (pe_fld (pv 0) rfl) pa_nil))
        (blkOk_by (N := NAtE) (sc := defScope s_Assignment_at) (by decide +kernel)) (fun _ _ _ _ _ => pg_tup rfl (pgs_cons (pg_name (i := 2) nd rfl (Or.inl rfl)) (pgs_cons (pg_name (i := 3) nd rfl (Or.inl rfl)) pgs_nil))) (fun _ _ _ _ _ => pts_one (pt_cmpR op_eq (pv 3) (pv 1) (nomark _))) (fun _ _ _ _ _ => pv 2)))), ?_⟩
    refine ⟨_, rfl, y, CA, dy, _, .ref x, rfl, hy, B.cl, B.nF, rfl, _, rfl, x, ts, v, rfl, fa, o, dv, ?_⟩
    cases ok : placeV ts v with
    | false =>
      rw [nmE_f ok] at k
      exact k
    | true =>
    obtain ⟨a, rfl⟩ : ∃ a, v = .str a := by
      cases v with
      | str a => exact ⟨a, rfl⟩
      | _ => cases ok
    rw [nmE_t ok] at k
    refine fun H0 s0 => ?_
    refine ⟨_, rfl, y, CA, dy, _, .ref p, rfl, s0 _ _ hy, B.cl, B.nP, rfl, p, _, rfl, SqL.of (s0 _ _ hp), fun D nD => ?_⟩
    refine lc_it walk_enum (fun j H' => Same H0 H' ∧ H' D = some (.lst ((selU j (atC zs a)).map V.int))) ⟨same_new nD, upd_same⟩ (fun j H' _ w => SqL.of (w.1 _ _ (s0 _ _ hp))) ?_ ?_
    · intro j TT Ha Hb hj ⟨q1, q2⟩ ⟨T', y1, z, eT, nT, eH, ey, ez⟩
      subst eT
      subst eH
      cases ey
      obtain ⟨b, hb, rfl⟩ := map_of (f := V.str) (l := zs) (show (zs.map V.str)[j]? = some z from ez)
      have sT : Same Ha (upd Ha T' (.tup [.int (j : Int), .str b])) := same_new nT
      have jl := (List.getElem?_eq_some_iff.mp hb).1
      have ls := selU_len j (atC zs a)
      refine ⟨T', [.int (j : Int), .str b], rfl, .inl (.inl upd_same), rfl, _, _, rfl, _, _, rfl, rfl, rfl, ?_⟩
      refine ⟨_, rfl, _, rfl, rfl, _, rfl, ?_⟩
      have more := selU_more j (atC zs a)
      have ec : atC zs a j = decide (b = a) := by
        unfold atC
        rw [hb]
        by_cases e : b = a
        · rw [decide_eq_true e, decide_eq_true (by rw [e])]
        · rw [decide_eq_false e, decide_eq_false fun z => e (Option.some.inj z)]
      by_cases e : b = a
      · rw [decide_eq_true (show V.str b = V.str a by rw [e])]
        show if true = true then _ else _
        rw [if_pos rfl]
        rw [ec, decide_eq_true e, if_pos rfl] at more
        refine ⟨_, rfl, _, sT _ _ q2, by rw [List.length_map]; omega, (q1.trans sT).put nD, by rw [upd_same, more, List.map_append] <;> rfl⟩
      · rw [decide_eq_false (show ¬ V.str b = V.str a from fun z => e (V.str.inj z))]
        rw [ec, decide_eq_false e, if_neg (by decide), List.append_nil] at more
        exact iteF ⟨q1.trans sT, by rw [more]; exact sT _ _ q2⟩
    · intro H1 ⟨q1, q2⟩
      rw [List.length_map] at q2
      exact k D H1 (s0.trans q1) (s0.free nD) q2
abbrev NNu : List Str := ["assignment", "user"]
abbrev NFg : List Str := ["self", "user"]
abbrev NSu : List Str := ["one", "other"]
end
end FT


/-! is_integer -/
namespace FT
open PySem L2 TL ClX
section
variable {P : Program} {w : World} {K : PySem.W.Frag} {mg : Str → Option Value} {base : Heap}
theorem scIsInt : FnScope ["value", "least"] ["value", "least"] (defScope s_is_integer) := ⟨rfl, rfl, rfl, by decide +kernel, rfl, by decide +kernel, by decide +kernel⟩
theorem ok_isInt {f : Addr} {fd : FuncData} (F : Fun K "is_integer" "is_integer" s_is_integer f fd) (T : Nm mg) : FnOk P w K mg base CX0 1 f fd ["value", "least"] (spIsInt K) := by
  refine F.ok scIsInt (fun vs H Q E h => ?_) (fun cdv A outer s H vs Q E hr h => ?_)
  · obtain ⟨v, l, rfl, _⟩ := h
    rfl
  · obtain ⟨v, l, rfl, ⟨t, d⟩, k⟩ := h
    refine ⟨_, pss_one (ps_ret (pe_and (pe_callB call_isi (by rfl) T.isi (by decide +kernel) (pa_cons (pv 0) (pa_cons (pe_bltn (v := .ty "int") (u := .type "int") (by rfl) T.int (by decide +kernel) rfl) pa_nil)))
      (pe_and (pe_not (pe_callB call_isi (by rfl) T.isi (by decide +kernel) (pa_cons (pv 0) (pa_cons (pe_bltn (v := .ty "bool") (u := .type "bool") (by rfl) T.bool (by decide +kernel) rfl) pa_nil)))) (pe_one (pe_cmpR op_ge (pv 0) (pv 1) (nomark _)))))), ?_⟩
    refine ⟨_, rfl, v, _, _, _, _, rfl, .ty _, d.ty, d.int_, _, rfl, ?_⟩
    refine ite2 (fun yes => ⟨_, rfl, v, _, _, _, _, rfl, .ty _, d.ty, d.bool_, _, rfl, _, rfl, ?_⟩) (fun no => ?_)
    · refine ite2 (fun yes2 => ?_) (fun no2 => ?_)
      · cases v with
        | int i => exact ⟨_, rfl, _, rfl, i, l, rfl, rfl, k⟩
        | bl b => cases yes2
        | _ => cases yes
      · cases v with
        | int i => exact absurd rfl no2
        | bl b => exact k
        | _ => cases yes
    · cases v with
      | int i => exact absurd rfl no
      | bl b => exact absurd rfl no
      | _ => exact k
end
end FT


/-! need_users -/
namespace FT
open PySem L2 TL ClX
section
variable {P : Program} {w : World} {K : PySem.W.Frag} {mg : Str → Option Value} {base : Heap}
theorem scUsers : FnScope ["users", "most"] ["users", "most"] (defScope s_need_users) := ⟨rfl, rfl, rfl, by decide +kernel, rfl, by decide +kernel, by decide +kernel⟩
theorem ok_users {f fI CU IU : Addr} {fd fdI dU : FuncData} (F : Fun K "need_users" "need_users" s_need_users f fd) (T : Nm mg) (I : Dn P w K mg base CX0 1 "is_integer" ["value", "least"] (spIsInt K) fI fdI) (U : Er0 P w K mg base "InvalidUsers" CU IU dU) :
    FnOk P w K mg base (L2.CX P w) 3 f fd ["users", "most"] (spUsers K CU) := by
  refine F.okX scUsers (fun vs H Q E h => ?_) (fun cdv A outer s H vs Q E hr h => ?_)
  · obtain ⟨v, m, rfl, _⟩ := h
    rfl
  · obtain ⟨v, m, rfl, d, k⟩ := h
    refine ⟨_, pss_one (ps_if (PW.pt (pw_or (pt_not (pt_val (pe_call I.ok (hr.mono (by decide)) rfl I.mgn I.kp I.bn .nil pass0 (pa_cons (pv 0) (pa_cons pe_int pa_nil))))) (pw_or1 (pt_cmpR op_gt (pv 0) (pv 1) (nomark _))))) (pss_one (ps_err0 U rfl (takes_of rfl rfl rfl rfl) hr rfl)) pss_nil), ?_⟩
    refine ⟨_, rfl, v, 1, rfl, d, _, rfl, ?_⟩
    cases v with
    | int i =>
      by_cases h1 : 1 ≤ i
      · rw [show isGe (.int i) 1 = true from decide_eq_true h1]
        refine iteF ?_
        refine ⟨_, rfl, _, rfl, i, m, rfl, rfl, _, rfl, ?_⟩
        by_cases h2 : i ≤ m
        · rw [decide_eq_false (show ¬ m < i by omega)]
          rw [if_pos (show usersOk (.int i) m = true by show (decide (1 ≤ i) && decide (i ≤ m)) = true; rw [decide_eq_true h1, decide_eq_true h2] <;> rfl)] at k
          exact iteF (k H Same.refl)
        · rw [decide_eq_true (show m < i by omega)]
          rw [if_neg (show ¬ usersOk (.int i) m = true by show ¬ (decide (1 ≤ i) && decide (i ≤ m)) = true; rw [decide_eq_false h2, Bool.and_false]; decide)] at k
          exact iteT (out0 k Same.refl)
      · rw [show isGe (.int i) 1 = false from decide_eq_false h1]
        rw [if_neg (show ¬ usersOk (.int i) m = true by show ¬ (decide (1 ≤ i) && decide (i ≤ m)) = true; rw [decide_eq_false h1, Bool.false_and]; decide)] at k
        show if true = true then _ else _
        rw [if_pos rfl]
        exact iteT (out0 k Same.refl)
    | _ =>
      show if true = true then _ else _
      rw [if_pos rfl]
      exact iteT (out0 k Same.refl)
end
end FT


/-! Assignment's questions with any value: need_user, flags_of, has -/
namespace FT
open PySem L2 TL ClX LiI
/-- the number of a user -/
def userV (n : Nat) (v : V) : Bool := match v with
  | .int i => decide (0 ≤ i) && decide (i < (n : Int))
  | _ => false
def usE (CY : Addr) (ok : Bool) (v : V) : Option Err := if ok = true then none else some (.e1 CY "user" v)
theorem usE_t {CY : Addr} {b : Bool} {v : V} (h : b = true) : usE CY b v = none := if_pos h
theorem usE_f {CY : Addr} {b : Bool} {v : V} (h : b = false) : usE CY b v = some (.e1 CY "user" v) := by
  subst h
  rfl
def idxV : V → Nat
  | .int i => i.toNat
  | _ => 0
theorem userV_t {n : Nat} {v : V} (h : userV n v = true) : ∃ i : Nat, v = .int (i : Int) ∧ i < n ∧ idxV v = i := by
  cases v with
  | int i =>
    have h : (decide (0 ≤ i) && decide (i < (n : Int))) = true := h
    rw [Bool.and_eq_true, decide_eq_true_eq, decide_eq_true_eq] at h
    exact ⟨i.toNat, by congr 1; omega, by omega, rfl⟩
  | _ => cases h
def spNeedUsE (K : PySem.W.Frag) (CA CY : Addr) : Sp := fun vs H Q E => ∃ (y x : Addr) (zs : List Str) (v : V), vs = [.ref y, v] ∧ AAt CA H y x zs ∧ IsDat K H v ∧ Res H Q E (usE CY (userV zs.length v) v)
def spAFlagsE (K : PySem.W.Frag) (CF CA CY : Addr) : Sp := fun vs H Q E => ∃ (y x : Addr) (ts : List (Str × Str)) (zs : List Str) (v : V), vs = [.ref y, v] ∧ AAt CA H y x zs ∧ FAt CF H x ts ∧ TreeOk ts ∧ (∀ z ∈ zs, Pl ts z) ∧ IsDat K H v ∧
  match usE CY (userV zs.length v) v with
  | none => ∀ (z : Str) (p : Addr) (H' : Hp), zs[idxV v]? = some z → Same H H' → H p = none → H' p = some (.tup ((pathOf ts z).map V.str)) → Q (.ref p) H'
  | some e => Out H E e
/-- what is wrong with a user and a name -/
def hasE (CN CY : Addr) (ts : List (Str × Str)) (n : Nat) (v u : V) : Option Err := (usE CY (userV n v) v).or (nmE CN (flagV ts u) u)
def spAHas (K : PySem.W.Frag) (CF CA CN CY : Addr) : Sp := fun vs H Q E => ∃ (y x : Addr) (ts : List (Str × Str)) (zs : List Str) (v u : V), vs = [.ref y, v, u] ∧ AAt CA H y x zs ∧ FAt CF H x ts ∧ TreeOk ts ∧ (∀ z ∈ zs, Pl ts z) ∧ IsDat K H v ∧ IsDat K H u ∧
  match hasE CN CY ts zs.length v u with
  | none => ∀ (z : Str) (H' : Hp), zs[idxV v]? = some z → Same H H' → Q (.bl (decide (strV u ∈ pathOf ts z))) H'
  | some e => Out H E e
section
variable {P : Program} {w : World} {K : PySem.W.Frag} {mg : Str → Option Value} {base : Heap}
abbrev NuE : List Str := ["assignment", "user"]
theorem scNuE : FnScope NuE ["assignment", "user"] (defScope s_need_user) := ⟨rfl, rfl, rfl, by decide +kernel, rfl, by decide +kernel, by decide +kernel⟩
theorem ok_needUsE {f fI CA CY IY p1 g1 : Addr} {mcA : Value} {fd fdI fd1 dY : FuncData} (F : Fun K "need_user" "need_user" s_need_user f fd) (T : Nm mg) (B : Ac K mg CA mcA) (I : Dn P w K mg base CX0 1 "is_integer" ["value", "least"] (spIsInt K) fI fdI) (PT : PrN P w K mg base 1 CA "total" (spATotal CA) p1 g1 fd1) (S : Er1 P w K mg base "UnknownUser" "user" CY IY dY) :
    FnOk P w K mg base (L2.CX P w) 3 f fd ["assignment", "user"] (spNeedUsE K CA CY) := by
  refine F.okX scNuE (fun vs H Q E h => ?_) (fun cdv A outer s H vs Q E hr h => ?_)
  · obtain ⟨y, x, zs, v, rfl, _⟩ := h
    rfl
  · obtain ⟨y, x, zs, v, rfl, ha, ⟨T0, dv⟩, k⟩ := h
    refine ⟨_, pss_one (ps_if (PW.pt (pw_or (pt_not (pt_val (pe_call I.ok (hr.mono (by decide)) rfl I.mgn I.kp I.bn .nil pass0 (pa_cons (pv 1) (pa_cons pe_int pa_nil)))))
        (pw_or1 (pt_cmpR op_ge (pv 1) (pe_prop (pv 0) B.cl PT.pr PT.fn hr PT.bn .nil pass0 (by rfl)) (nomark _))))) (pss_one (ps_err1 S rfl (takes_of rfl rfl rfl rfl) hr rfl (pv 1))) pss_nil), ?_⟩
    obtain ⟨dy, p, hy, hp⟩ := id ha
    refine ⟨_, rfl, v, 0, rfl, ⟨T0, dv⟩, _, rfl, ?_⟩
    cases eg : isGe v 0 with
    | false =>
      have e0 : userV zs.length v = false := by
        cases v with
        | int i =>
          have eg : decide (0 ≤ i) = false := eg
          show (decide (0 ≤ i) && _) = false
          rw [eg] <;> rfl
        | _ => rfl
      rw [usE_f e0] at k
      show if true = true then _ else _
      rw [if_pos rfl]
      exact iteT ⟨_, rfl, out1 k Same.refl⟩
    | true =>
      obtain ⟨i, rfl⟩ : ∃ i, v = .int i := by
        cases v with
        | int i => exact ⟨i, rfl⟩
        | _ => cases eg
      have eg : decide (0 ≤ i) = true := eg
      refine iteF ?_
      refine ⟨_, rfl, _, rfl, y, dy, _, rfl, hy, y, x, zs, rfl, ha, _, _, rfl, rfl, _, rfl, ?_⟩
      by_cases le : (zs.length : Int) ≤ i
      · rw [decide_eq_true le]
        rw [usE_f (b := userV zs.length (.int i)) (by show (decide (0 ≤ i) && decide (i < (zs.length : Int))) = false; rw [decide_eq_false (show ¬ i < (zs.length : Int) by omega), Bool.and_false])] at k
        exact iteT ⟨_, rfl, out1 k Same.refl⟩
      · rw [decide_eq_false le]
        rw [usE_t (b := userV zs.length (.int i)) (by show (decide (0 ≤ i) && decide (i < (zs.length : Int))) = true; rw [eg, decide_eq_true (show i < (zs.length : Int) by omega)] <;> rfl)] at k
        exact iteF (k H Same.refl)
abbrev NfE : List Str := ["self", "user"]
theorem scFE : FnScope NfE ["self", "user"] (defScope s_Assignment_flags_of) := ⟨rfl, rfl, rfl, by decide +kernel, rfl, by decide +kernel, by decide +kernel⟩
theorem ok_aflagsE {f fU fP CF CA CY : Addr} {mcA : Value} {fd fdU fdP : FuncData} (F : Fun K "flags_of" "Assignment.flags_of" s_Assignment_flags_of f fd) (O : FoC K CF) (B : Ac K mg CA mcA) (DU : Dn P w K mg base (L2.CX P w) 3 "need_user" ["assignment", "user"] (spNeedUsE K CA CY) fU fdU) (DP : Dn P w K mg base CX0 1 "path_in" ["above", "place"] spPathIn fP fdP) :
    FnOk P w K mg base (L2.CX P w) 4 f fd ["self", "user"] (spAFlagsE K CF CA CY) := by
  refine F.okX scFE (fun vs H Q E h => ?_) (fun cdv A outer s H vs Q E hr h => ?_)
  · obtain ⟨y, x, ts, zs, v, rfl, _⟩ := h
    rfl
  · obtain ⟨y, x, ts, zs, v, rfl, ha, fa, o, pls, dv, k⟩ := h
    refine ⟨_, pss_cons (ps_expr (pe_call DU.ok hr rfl DU.mgn DU.kp DU.bn .nil (passes_call (takes_of rfl rfl rfl rfl) (fun _ _ _ _ h => h)) (pa_cons (pv 0) (pa_cons (pv 1) pa_nil))))
      (pss_one (ps_ret (pe_call DP.ok (hr.mono (by decide)) rfl DP.mgn DP.kp DP.bn .nil pass0 (pa_cons (pe_fld (pe_fld (pv 0) rfl) rfl) (pa_cons (pe_ix ix_list (pe_fld (pv 0) rfl) (pv 1) (fun _ _ => rfl)) pa_nil))))), ?_⟩
    refine ⟨_, rfl, _, rfl, y, x, zs, v, rfl, ha, dv, ?_⟩
    cases ok : userV zs.length v with
    | false =>
      rw [ok, usE_f rfl] at k
      exact k
    | true =>
      obtain ⟨i, rfl, il, ei⟩ := userV_t ok
      rw [ok, usE_t rfl] at k
      intro H1 s1
      obtain ⟨dy, p, hy, hp⟩ := ha.mono s1
      obtain ⟨dx, dq, hx, hd⟩ := fa.mono s1
      have hz : zs[i]? = some zs[i] := List.getElem?_eq_getElem il
      refine ⟨_, rfl, y, CA, dy, _, .ref x, rfl, hy, B.cl, B.nF, rfl, x, CF, dx, _, .ref dq, rfl, hx, O.cl, O.nA, rfl, ?_⟩
      refine ⟨_, rfl, y, CA, dy, _, .ref p, rfl, hy, B.cl, B.nP, rfl, _, rfl, p, _, _, .str zs[i], rfl, rfl, SqL.of hp, atI_nat (map_at hz), ?_⟩
      exact ⟨dq, ts, zs[i], rfl, .inl hd, o, pls _ (List.getElem_mem il), fun q H' s' nq hq => k zs[i] q H' (by rw [ei]; exact hz) (s1.trans s') (s1.free nq) hq⟩
abbrev NhE : List Str := ["self", "user", "name"]
theorem scHE : FnScope NhE ["self", "user", "name"] (defScope s_Assignment_has) := ⟨rfl, rfl, rfl, by decide +kernel, rfl, by decide +kernel, by decide +kernel⟩
theorem ok_ahas {f fU fP fN CF CA CN CY : Addr} {mcA : Value} {fd fdU fdP fdN : FuncData} (F : Fun K "has" "Assignment.has" s_Assignment_has f fd) (O : FoC K CF) (B : Ac K mg CA mcA) (DU : Dn P w K mg base (L2.CX P w) 3 "need_user" ["assignment", "user"] (spNeedUsE K CA CY) fU fdU) (DN : Dn P w K mg base (L2.CX P w) 3 "need_flag" ["forest", "name"] (spNeedFlE K CF CN) fN fdN) (DP : Dn P w K mg base CX0 1 "path_in" ["above", "place"] spPathIn fP fdP) :
    FnOk P w K mg base (L2.CX P w) 4 f fd ["self", "user", "name"] (spAHas K CF CA CN CY) := by
  refine F.okX scHE (fun vs H Q E h => ?_) (fun cdv A outer s H vs Q E hr h => ?_)
  · obtain ⟨y, x, ts, zs, v, u, rfl, _⟩ := h
    rfl
  · obtain ⟨y, x, ts, zs, v, u, rfl, ha, fa, o, pls, dv, du, k⟩ := h
    refine ⟨_, pss_cons (ps_expr (pe_call DU.ok hr rfl DU.mgn DU.kp DU.bn .nil (passes_call (takes_of rfl rfl rfl rfl) (fun _ _ _ _ h => h)) (pa_cons (pv 0) (pa_cons (pv 1) pa_nil))))
      (pss_cons (ps_expr (pe_call DN.ok hr rfl DN.mgn DN.kp DN.bn .nil (passes_call (takes_of rfl rfl rfl rfl) (fun _ _ _ _ h => h)) (pa_cons (pe_fld (pv 0) rfl) (pa_cons (pv 2) pa_nil))))
      (pss_one (ps_ret (pe_cmpR op_in_seq (pv 2) (pe_call DP.ok (hr.mono (by decide)) rfl DP.mgn DP.kp DP.bn .nil pass0 (pa_cons (pe_fld (pe_fld (pv 0) rfl) rfl) (pa_cons (pe_ix ix_list (pe_fld (pv 0) rfl) (pv 1) (fun _ _ => rfl)) pa_nil))) rfl)))), ?_⟩
    refine ⟨_, rfl, _, rfl, y, x, zs, v, rfl, ha, dv, ?_⟩
    cases ok : userV zs.length v with
    | false =>
      unfold hasE at k
      rw [ok, usE_f rfl] at k
      exact k
    | true =>
      obtain ⟨i, rfl, il, ei⟩ := userV_t ok
      unfold hasE at k
      rw [ok, usE_t rfl, Option.none_or] at k
      intro H1 s1
      obtain ⟨dy, p, hy, hp⟩ := ha.mono s1
      refine ⟨_, rfl, y, CA, dy, _, .ref x, rfl, hy, B.cl, B.nF, rfl, _, rfl, x, ts, u, rfl, fa.mono s1, o, du.mono s1, ?_⟩
      cases okn : flagV ts u with
      | false =>
        rw [okn, nmE_f rfl] at k
        rw [nmE_f rfl]
        exact k.mono s1
      | true =>
        obtain ⟨a, rfl⟩ : ∃ a, u = .str a := by
          cases u with
          | str a => exact ⟨a, rfl⟩
          | _ => cases okn
        rw [okn, nmE_t rfl] at k
        rw [nmE_t rfl]
        intro H2 s2
        obtain ⟨dx, dq, hx, hd⟩ := fa.mono (s1.trans s2)
        have hy2 := s2 _ _ hy
        have hp2 := s2 _ _ hp
        have hz : zs[i]? = some zs[i] := List.getElem?_eq_getElem il
        refine ⟨_, rfl, _, rfl, y, CA, dy, _, .ref x, rfl, hy2, B.cl, B.nF, rfl, x, CF, dx, _, .ref dq, rfl, hx, O.cl, O.nA, rfl, ?_⟩
        refine ⟨_, rfl, y, CA, dy, _, .ref p, rfl, hy2, B.cl, B.nP, rfl, _, rfl, p, _, _, .str zs[i], rfl, rfl, SqL.of hp2, atI_nat (map_at hz), ?_⟩
        refine ⟨dq, ts, zs[i], rfl, .inl hd, o, pls _ (List.getElem_mem il), fun q H' s' nq hq => ?_⟩
        refine ⟨q, _, rfl, .inr (.inl (.inl hq)), rfl, flat_strs _, ?_⟩
        rw [show (if false = true then !inV (V.str a) ((pathOf ts zs[i]).map V.str) else inV (V.str a) ((pathOf ts zs[i]).map V.str)) = decide (a ∈ pathOf ts zs[i]) from inV_strs a _]
        exact k zs[i] H' (by rw [ei]; exact hz) ((s1.trans s2).trans s')
end
end FT


/-! Own: enumerate of a tuple, and of a list or a tuple -/
namespace PySem
open Sem (wp)
theorem meets_enumerate_newT {v : Value} {o : Obj} {H : Heap → Prop} (B : Begins v o H) :
    Meets (Builtin.«enumerate.__new__» ⟨[.type "enumerate", v], []⟩) (fun _ R s => H s.heap ∧
      R (.ok (.ret (.ref (s.heap.push o).objs.size))) { s with heap := (s.heap.push o).push { cls := .type "enumerate", data := .fields #[.none, .bool false, .ref s.heap.objs.size, rawInt 0, .none, .none] } }) :=
  .of_wp fun prog w A R s h => by
    obtain ⟨hp, g, d, tk, os⟩ := s; obtain ⟨h1, h⟩ := h
    have hsub := sub_enumerate
    have q1 : ∀ {A' : Around} {E : Value → Shared → Prop} {Q : Value → Shared → Prop}, Q (.ref hp.objs.size) ⟨hp.push o, g, d, tk, os⟩ → wpAny (model prog w) A' (pyIter v) Q E ⟨hp, g, d, tk, os⟩ :=
      fun q => B.iter prog w _ _ ⟨hp, g, d, tk, os⟩ _ h1 q
    wp_walk using q1
    refine wpAny_stack_any fun st => wpAny_pure ?_
    split
    · rename_i c _ _ _ _ _
      cases (c == Value.type "enumerate")
      · wp_walk using q1
        exact ⟨_, rfl, h⟩
      · wp_walk using q1
        exact ⟨_, rfl, h⟩
    · wp_walk using q1
      exact ⟨_, rfl, h⟩
section
variable {prog : Program} {w : World} {A : Around} {E : Value → Shared → Prop} {s : Shared}
theorem enum_beginsT {v : Value} {o : Obj} {H : Heap → Prop} {Q : Value → Shared → Prop} (B : Begins v o H) (h1 : H s.heap)
    (h : ∀ h', IsEnum h' (s.heap.objs.size + 1) s.heap.objs.size 0 .none → h'.get? s.heap.objs.size = some o → h'.objs.size = s.heap.objs.size + 2 →
      (∀ b o, s.heap.get? b = some o → h'.get? b = some o) → Q (.ref (s.heap.objs.size + 1)) { s with heap := h' }) :
    wpAny (model prog w) A (call (.type "enumerate") [v]) Q E s := by
  refine callType_new F.called_enumerate (by decide) (F.typeCall_enumerate_1 _) (F.newCall_enumerate_1 _) (fun obj => F.args_object_init_2 obj _) F.entry_enumerate_new
    (meets_enumerate_newT B) ⟨h1, ?_⟩
  have hz : (s.heap.push o).objs.size = s.heap.objs.size + 1 := Heap.size_push ..
  show _ ∧ _
  rw [hz]
  have he : IsEnum ((s.heap.push o).push { cls := .type "enumerate", data := .fields #[.none, .bool false, .ref s.heap.objs.size, rawInt 0, .none, .none] }) (s.heap.objs.size + 1) s.heap.objs.size 0 .none := by
    have := Heap.get?_push_size (s.heap.push o) (o := { cls := .type "enumerate", data := .fields #[.none, .bool false, .ref s.heap.objs.size, rawInt 0, .none, .none] }) rfl
    rw [hz] at this; exact this
  refine ⟨⟨_, he, rfl⟩, h _ he (Heap.get?_push_of_some _ (Heap.get?_push_size _ B.free)) (by rw [Heap.size_push, hz]) fun b o x => Heap.get?_push_of_some _ (Heap.get?_push_of_some _ x)⟩
theorem pyNext_enumT_end {e it t : Addr} {k : Nat} {items : Array Value} {i : Int} {old : Value} {Q : Option Value → Shared → Prop} (hh : A.handled = none)
    (he : IsEnum s.heap e it i old) (hit : s.heap.IsTupleIter it t k) (ht : s.heap.IsTuple t items) (hx : items[k]? = none)
    (hQ : ∀ h', Heap.ExtBut it s.heap h' → Q none { s with heap := h' }) : wpAny (model prog w) A (pyNext (.ref e)) Q E s := by
  have hT : s.TypeIs (.ref e) "enumerate" := ⟨_, he, rfl⟩
  unfold pyNext
  refine wpAny_bind (wpAny_attempt (wpAny_callSpecial?_slot (name := Str.ofString "__next__") hT F.slot_enumerate_next
    (wpAny_call_entry F.slot_enumerate_next hT F.entry_enumerate_next ?_ (F.args_enumerate_next_1 _))))
  show wpAny _ _ (field (.ref e) 2 >>= _) _ _ _
  refine wpAny_bind (wpAny_field he rfl (x := .ref it) rfl ?_)
  refine wpAny_bind (wpAny_nextOf_tuple_end hh hit ht hx fun h' x he' hx' => ?_)
  obtain ⟨o, ho, hc⟩ := hx'
  refine wpAny_bind (wpAny_isInstance (T := "StopIteration") (b := true) ⟨o, ho, hc⟩ isSubtype_stop ?_)
  exact wpAny_pure (hQ _ he')
end
end PySem
namespace L2
open PySem PySem.Spec PyProof.Rows
/-- the tuple at a as it stands at each turn, each item in a new pair -/
def IteT (K : PySem.W.Frag) (a : Addr) : It :=
  ⟨fun i H => ∃ (xs : List V) (x : V), SqT K H a xs ∧ xs[i]? = some x, fun i H v H' => ∃ T x, v = .ref T ∧ H T = none ∧ H' = upd H T (.tup [.int (i : Nat), x]) ∧ ∀ xs, SqT K H a xs → xs[i]? = some x, fun i H => ∃ xs : List V, SqT K H a xs ∧ xs.length ≤ i⟩
theorem turn_enumT {P : Program} {w : World} {K : PySem.W.Frag} {elts : List Expr} {kk : Nat} {tpos : Pos} (a e it : Addr) :
    Turn P w K (.Tuple elts kk tpos) (IteT K a) [e, it] e (fun i h => (∃ old, IsEnum h e it ((i : Nat) : Int) old) ∧ h.IsTupleIter it a i ∧ e ≠ it) where
  mem := by simp
  obj := fun i h st b hb => by
    obtain ⟨⟨old, he⟩, ⟨o, ho, hc, hd⟩, _⟩ := st
    have e' : b = e ∨ b = it := by simpa using hb
    rcases e' with z | z
    · rw [z]; exact ⟨_, he, fun v q => nomatch q⟩
    · rw [z]; exact ⟨o, ho, fun v q => by rw [hd] at q; cases q⟩
  keep := fun i h h' st k => let ⟨⟨old, he⟩, hi, hne⟩ := st; ⟨⟨old, k e (by simp) _ he⟩, hi.at fun o q => k it (by simp) o q, hne⟩
  item := by
    intro X hP hw hK hc i pins s σ H E I hf st hg
    subst hP hw hK
    obtain ⟨⟨old, he⟩, hit, hne⟩ := st
    obtain ⟨xs, x, hq, hx⟩ := hg
    obtain ⟨its, rv, p, hz⟩ := I.tuple hq
    have p : s.heap.IsTuple a its.toArray := p
    obtain ⟨u, hu, ru⟩ := rv.get hx
    have hel : e < s.heap.objs.size := Heap.lt_size he
    have hil : it < s.heap.objs.size := by obtain ⟨_, q, _⟩ := hit; exact Heap.lt_size q
    have ai : a ≠ it := fun z => by
      obtain ⟨o1, e1, c1, _⟩ := p
      obtain ⟨o2, e2, c2, _⟩ := hit
      rw [z, e2] at e1
      cases e1
      rw [c2] at c1
      exact absurd c1 (by decide)
    have ae : a ≠ e := fun z => by
      obtain ⟨o1, e1, c1, _⟩ := p
      rw [z, he] at e1
      cases e1
      exact absurd (show Value.type "enumerate" = Value.type "tuple" from c1) (by decide)
    have li : i < its.toArray.size := by
      have := (List.getElem?_eq_some_iff.mp hu).1
      simpa using this
    refine wpAny_pyNext_enum_itemD (Draws.tuple (A := X.A.in1) (I.ok.hd hc) it a ai its.toArray) he ⟨hit, p⟩ li hne (by simp [hne, Ne.symm ae]) fun u' h' tk hP ho st' hT hsz hk => ?_
    obtain ⟨hit', _⟩ := st'
    have eu : u' = u := by
      have hP : its.toArray[i]? = some u' := hP
      rw [List.getElem?_toArray, hu] at hP
      exact (Option.some.inj hP).symm
    subst eu
    refine ⟨_, rfl, wpAny_letOwnedTupleGo_enum (s := { s with heap := h', toks := tk + 1 }) ho fun h'' he' sb => ?_⟩
    have hT2 : h''.get? s.heap.objs.size = some { cls := .type "tuple", data := .seq #[.int i tk, u'] } := (sb.2 _ (Nat.ne_of_gt hel)).trans hT
    have new : ObjOk X.prog X.w (upd H s.heap.objs.size (.tup [.int (i : Nat), x])) h'' s.heap.objs.size (.tup [.int (i : Nat), x]) :=
      ⟨by show 2 ≤ sizeLine; decide, [.int i tk, u'], .cons ⟨_, rfl⟩ (.cons ru .nil), ⟨_, hT2, rfl, _, rfl⟩⟩
    have I1 : Inv X pins σ (upd H s.heap.objs.size (.tup [.int (i : Nat), x])) { s with heap := h'', toks := tk + 1 } :=
      I.turnedNew (ch := [e, it]) (fun b ob hb q => (sb.2 b (fun z => hb (by simp [z]))).trans (hk b ob (fun z => hb (by simp [z])) (fun z => hb (by simp [z])) q)) hf (Nat.le_refl _) new
    refine ⟨.ref s.heap.objs.size, _, I1, rfl, ⟨_, x, rfl, I.hok.fresh (Nat.le_refl _), rfl, fun ys hy => by rw [I.tuple_inj hy hq]; exact hx⟩, ⟨⟨u', ?_⟩, hit'.at fun o q => (sb.2 it (Ne.symm hne)).trans q, hne⟩, fun b hb => ?_⟩
    · have e1 : ((i + 1 : Nat) : Int) = (i : Int) + 1 := by omega
      rw [e1]; exact he'
    · have hb' : b < s.heap.objs.size := by
        have e' : b = e ∨ b = it := by simpa using hb
        rcases e' with z | z
        · rw [z]; exact hel
        · rw [z]; exact hil
      rw [upd_ne (Nat.ne_of_lt hb')]
      exact (hf b hb).1
  done := by
    intro X hP hw hK hc i pins s σ H E I hf st hg
    subst hP hw hK
    obtain ⟨⟨old, he⟩, hit, hne⟩ := st
    obtain ⟨xs, hq, hx⟩ := hg
    obtain ⟨its, rv, p, hz⟩ := I.tuple hq
    obtain ⟨f0, f1, f2, f3, f4, f5⟩ := hf it (by simp)
    have hl := rv.length
    exact pyNext_enumT_end (I.ok.hd hc) he hit (show s.heap.IsTuple a its.toArray from p) (by simp; omega) fun h' eb => ⟨rfl, I.turned (t' := s.toks) (fun b o hb q => eb b o hb q) f0 f1 f3 f4 f5⟩
  self := fun A i s Q E st h => let ⟨⟨_, he⟩, _⟩ := st; wpAny_pyIter_enum he h
/-- of a list or a tuple -/
def EnJ (K : PySem.W.Frag) (H : Hp) (a : Addr) (J : It) : Prop := ∃ xs : List V, (SqL K H a xs ∧ J = Ite K a) ∨ (SqT K H a xs ∧ J = IteT K a)
def iEnumE (K : PySem.W.Frag) (ta : TA) : TI := fun σ H R => ta σ H fun vs H1 => ∃ a J, vs = [.ref a] ∧ EnJ K H1 a J ∧ R J H1
theorem pi_enumE {X : Cx} {e : Expr} {ta : TA} {p pos tpos : Pos} {elts : List Expr} {kk : Nat} (hg : Gl X "enumerate") (hm : X.mg "enumerate" = none) (ha : PA X [e] ta) (hs : starEach [e] X.env = [(false, eval e X.env)] := by rfl) :
    PI X (.Tuple elts kk tpos) (.Call (.Name "enumerate" p) [e] [] pos) (iEnumE X.K ta) := by
  refine ⟨fun pins s σ H R I h => ?_⟩
  refine Call_ (ld_blt I hg hm boot_enumerate (PyProof.Rows.callWith_type1 (thn (ha.run pos pins s σ H _ I h) fun us s1 ⟨vs, H1, I1, r1, q1⟩ => ?_) hs rfl))
  obtain ⟨a, J, ex, ⟨xs, hq⟩, q⟩ := q1
  subst ex
  cases r1 with
  | cons r rr =>
    cases rr
    cases r
    have fp : ∀ b ∈ [s1.heap.objs.size + 1, s1.heap.objs.size], s1.heap.objs.size ≤ b := fun b hb => by
      have e' : b = s1.heap.objs.size + 1 ∨ b = s1.heap.objs.size := by simpa using hb
      rcases e' with z | z
      · rw [z]; exact Nat.le_add_right _ _
      · rw [z]; exact Nat.le_refl _
    rcases hq with ⟨hq, rfl⟩ | ⟨hq, rfl⟩
    · obtain ⟨its, rv, p', hz⟩ := I1.list hq
      refine call_enumerate_list p'.isList fun h' he hit hsz hk => wpAny_pyIter_enum he ?_
      have I2 : Inv X pins σ H1 { s1 with heap := h' } := I1.kept (t' := s1.toks) hk
      exact ⟨s1.heap.objs.size + 1, [s1.heap.objs.size + 1, s1.heap.objs.size], _, _, H1, rfl, I2, turn_enum a (s1.heap.objs.size + 1) s1.heap.objs.size, ⟨⟨.none, he⟩, hit, Nat.succ_ne_self _⟩, fun b hb => I1.fpOk (fp b hb) (I1.hok.fresh (fp b hb)), q⟩
    · obtain ⟨its, rv, p', hz⟩ := I1.tuple hq
      refine enum_beginsT (begins_tuple a its.toArray) (show s1.heap.IsTuple a its.toArray from p') fun h' he hit hsz hk => wpAny_pyIter_enum he ?_
      have I2 : Inv X pins σ H1 { s1 with heap := h' } := I1.kept (t' := s1.toks) hk
      exact ⟨s1.heap.objs.size + 1, [s1.heap.objs.size + 1, s1.heap.objs.size], _, _, H1, rfl, I2, turn_enumT a (s1.heap.objs.size + 1) s1.heap.objs.size, ⟨⟨.none, he⟩, ⟨_, hit, rfl, rfl⟩, Nat.succ_ne_self _⟩, fun b hb => I1.fpOk (fp b hb) (I1.hok.fresh (fp b hb)), q⟩
theorem walk_enumT {K : PySem.W.Frag} {a : Addr} {xs : List V} : Walk (IteT K a) xs.length (fun H => SqT K H a xs) (YPair (fun i => some (.int (i : Nat))) (fun i => xs[i]?)) := by
  refine ⟨fun i _ hi q => ⟨xs, xs[i], q, by simp [hi]⟩, fun _ q => ⟨xs, q, Nat.le_refl _⟩, fun i H v H' _ q y => ?_⟩
  obtain ⟨T, x, h1, h2, h3, h4⟩ := y
  exact ⟨T, .int (i : Nat), x, h1, h2, h3, rfl, h4 xs q⟩
end L2


/-! Assignment.__init__ of any value -/
namespace FT
open PySem L2 TL ClX LiI
def SeqAt (H : Hp) (a : Addr) (xs : List V) : Prop := H a = some (.lst xs) ∨ H a = some (.tup xs)
theorem SeqAt.mono {H H' : Hp} {a : Addr} {xs : List V} (s : Same H H') (h : SeqAt H a xs) : SeqAt H' a xs := h.imp (s _ _) (s _ _)
theorem enumE_of {K : PySem.W.Frag} {H : Hp} {a : Addr} {xs : List V} (h : SeqAt H a xs) : ∃ (J : It) (G : Hp → Prop), EnJ K H a J ∧ Walk J xs.length G (YPair (fun i => some (.int (i : Nat))) (fun i => xs[i]?)) ∧ ∀ H', Same H H' → G H' := by
  rcases h with h | h
  · exact ⟨_, _, ⟨xs, .inl ⟨SqL.of h, rfl⟩⟩, walk_enum, fun H' s => SqL.of (s _ _ h)⟩
  · exact ⟨_, _, ⟨xs, .inr ⟨SqT.of h, rfl⟩⟩, walk_enumT, fun H' s => SqT.of (s _ _ h)⟩
theorem Dat.seq_ {K : PySem.W.Frag} {H : Hp} {v : V} {T : String} (d : Dat K H v T) : PySem.W.kitAny K (.type T) [.type "list", .type "tuple"] = some (decide (T = "list" ∨ T = "tuple")) := by
  have no : ∀ {T : String}, PySem.W.kitOne K (.type T) (.type "list") = some false → PySem.W.kitOne K (.type T) (.type "tuple") = some false → PySem.W.kitAny K (.type T) [.type "list", .type "tuple"] = some false := fun h1 h2 => kitAny_cons h1 (fun _ => kitAny_cons h2 (fun _ => rfl) fun z => nomatch z) fun z => nomatch z
  cases d with
  | non => exact no (kit_ty (r := false) (by decide +kernel)) (kit_ty (r := false) (by decide +kernel))
  | bl b => exact no (kit_ty (r := false) (by decide +kernel)) (kit_ty (r := false) (by decide +kernel))
  | int i => exact no (kit_ty (r := false) (by decide +kernel)) (kit_ty (r := false) (by decide +kernel))
  | str z => exact no (kit_ty (r := false) (by decide +kernel)) (kit_ty (r := false) (by decide +kernel))
  | lst h => exact kitAny_cons (b := true) (kit_ty (by decide +kernel)) (fun z => nomatch z) fun _ => rfl
  | tup h => exact kitAny_cons (b := false) (kit_ty (by decide +kernel)) (fun _ => kitAny_cons (b := true) (kit_ty (by decide +kernel)) (fun z => nomatch z) fun _ => rfl) fun z => nomatch z
  | dct h => exact no (kit_ty (r := false) (by decide +kernel)) (kit_ty (r := false) (by decide +kernel))
/-- what may be given as places -/
def PlV (K : PySem.W.Frag) (H : Hp) (iv : V) : Option (List V) → Prop
  | none => ∃ T, Dat K H iv T ∧ T ≠ "list" ∧ T ≠ "tuple"
  | some xs => ∃ a, iv = .ref a ∧ SeqAt H a xs ∧ (∀ x ∈ xs, IsDat K H x) ∧ xs.length ≤ 900
theorem PlV.mono {K : PySem.W.Frag} {H H' : Hp} {iv : V} {o : Option (List V)} (s : Same H H') (h : PlV K H iv o) : PlV K H' iv o := by
  cases o with
  | none => exact let ⟨T, d, n⟩ := h; ⟨T, d.mono s, n⟩
  | some xs => exact let ⟨a, e, q, d, l⟩ := h; ⟨a, e, q.mono s, fun x hx => (d x hx).mono s, l⟩
theorem PlV.isi {K : PySem.W.Frag} {H : Hp} {iv : V} {o : Option (List V)} (h : PlV K H iv o) : ∃ T, Dat K H iv T ∧ decide (T = "list" ∨ T = "tuple") = o.isSome := by
  cases o with
  | none =>
    obtain ⟨T, d, n1, n2⟩ := h
    exact ⟨T, d, decide_eq_false (by rintro (z | z); exact n1 z; exact n2 z)⟩
  | some xs =>
    obtain ⟨a, rfl, q, _⟩ := h
    rcases q with q | q
    · exact ⟨_, .lst q, rfl⟩
    · exact ⟨_, .tup q, rfl⟩
/-- what is wrong with it: none, the number of users, a place -/
def dueP (ts : List (Str × Str)) : Option (List V) → Option (Option Nat)
  | none => some none
  | some xs => if 1 ≤ xs.length ∧ xs.length ≤ 60 then (xs.findIdx? fun x => !placeV ts x).map some else some none
theorem dueP_good {ts : List (Str × Str)} {o : Option (List V)} (h : dueP ts o = none) : ∃ zs : List Str, o = some (zs.map V.str) ∧ (∀ z ∈ zs, Pl ts z) ∧ 1 ≤ zs.length ∧ zs.length ≤ 60 := by
  cases o with
  | none => cases h
  | some xs =>
    by_cases l : 1 ≤ xs.length ∧ xs.length ≤ 60
    · rw [show dueP ts (some xs) = (xs.findIdx? fun x => !placeV ts x).map some from if_pos l] at h
      have h := Option.map_eq_none_iff.mp h
      rw [List.findIdx?_eq_none_iff] at h
      have g : ∀ x ∈ xs, ∃ z, x = .str z ∧ Pl ts z := fun x hx => by
        have := h x hx
        cases x with
        | str z =>
          have : (!decide (z = "" ∨ z ∈ ts.map Prod.fst)) = false := this
          rw [Bool.not_eq_false', decide_eq_true_eq] at this
          exact ⟨z, rfl, this⟩
        | _ => cases this
      refine ⟨xs.map strV, ?_, ?_, by rw [List.length_map]; exact l.1, by rw [List.length_map]; exact l.2⟩
      · rw [List.map_map]
        congr 1
        conv => lhs; rw [← List.map_id xs]
        exact List.map_congr_left fun x hx => by obtain ⟨z, rfl, _⟩ := g x hx; rfl
      · intro z hz
        obtain ⟨x, hx, rfl⟩ := List.mem_map.mp hz
        obtain ⟨z, rfl, p⟩ := g x hx
        exact p
    · rw [show dueP ts (some xs) = some none from if_neg l] at h
      cases h
def OutP (H : Hp) (E : XK) (CU CP : Addr) : Option Nat → Prop
  | none => Out H E (.e0 CU)
  | some i => Out H E (.e1 CP "user" (.int (i : Int)))
/-- an assignment whose list of places is new -/
def ANew (CA : Addr) (H H' : Hp) (y x : Addr) (zs : List Str) : Prop := ∃ dy p, H' y = some (.ins CA dy [("own_forest", .ref x), ("own_places", .ref p)]) ∧ H' p = some (.lst (zs.map V.str)) ∧ H p = none
def spAInitE (K : PySem.W.Frag) (CF CA CU CP : Addr) : Sp := fun vs H Q E => ∃ (y x dy : Addr) (iv : V) (ts : List (Str × Str)) (o : Option (List V)), vs = [.ref y, .ref x, iv] ∧ H y = some (.ins CA dy []) ∧ FAt CF H x ts ∧ TreeOk ts ∧ PlV K H iv o ∧
  match dueP ts o with
  | none => ∀ (zs : List Str) (H' : Hp), o = some (zs.map V.str) → (∀ z ∈ zs, Pl ts z) → 1 ≤ zs.length → zs.length ≤ 60 → ANew CA H H' y x zs → (∀ b u, b ≠ y → H b = some u → H' b = some u) → Q .non H'
  | some e => OutP H E CU CP e
section
variable {P : Program} {w : World} {K : PySem.W.Frag} {mg : Str → Option Value} {base : Heap}
theorem scAI : FnScope ["self", "forest", "places", "user", "place"] ["self", "forest", "places"] (defScope s_Assignment___init__) := ⟨rfl, rfl, rfl, by decide +kernel, rfl, by decide +kernel, by decide +kernel⟩
theorem ok_ainitE {f CF CA CU CP IU IP : Addr} {mc mcA : Value} {fd dU dP : FuncData} (F : Fun K "__init__" "Assignment.__init__" s_Assignment___init__ f fd) (T : Nm mg) (O : FoC K CF) (Z : Fc K mg CF mc) (B : Ac K mg CA mcA) (SU : Er0 P w K mg base "InvalidUsers" CU IU dU) (SP : Er1 P w K mg base "InvalidPlace" "user" CP IP dP) :
    FnOk P w K mg base (L2.CX P w) 3 f fd ["self", "forest", "places"] (spAInitE K CF CA CU CP) := by
  obtain ⟨um, cm⟩ := B.most
  obtain ⟨ur, cr⟩ := Z.root
  refine F.okX scAI (fun vs H Q E h => ?_) (fun cdv A outer s H vs Q E hr h => ?_)
  · obtain ⟨y, x, dy, iv, ts, o, rfl, _⟩ := h
    rfl
  · obtain ⟨y, x, dy, iv, ts, po, rfl, hy, fa, o, pv_, k⟩ := h
    have hu := hu_of hr
    have hr2 : Room 2 _ := hr.mono (by decide)
    refine ⟨_, pss_cons (ps_if (PW.pt (pw_or (pt_not (pt_val (pe_callB call_isiT (by rfl) T.isi (by decide +kernel) (pa_cons (pv 2) (pa_cons (pe_tup (pa_cons (pe_bltn (v := .ty "list") (u := .type "list") (by rfl) T.lst (by decide +kernel) rfl) (pa_cons (pe_bltn (v := .ty "tuple") (u := .type "tuple") (by rfl) T.tup (by decide +kernel) rfl) pa_nil))) pa_nil)))))
        (pw_or1 (pt_not (pt_chain op_le op_le pe_int (pe_callB call_len_seq (by rfl) T.len PySem.boot_len (pa_cons (pv 2) pa_nil)) (pe_cval (pe_glob (v := .ref CA) (by rfl) B.gA rfl))))))) (pss_one (ps_err0 SU rfl (takes_of rfl rfl rfl rfl) hr2 rfl)) pss_nil)
      (pss_cons (ps_for (passes_of rfl) rfl (pi_enumE rfl T.enu (pa_cons (pv 2) pa_nil)) (pg_tup rfl (pgs_cons (pg_name (i := 3) scAI.nd rfl (.inl rfl)) (pgs_cons (pg_name (i := 4) scAI.nd rfl (.inl rfl)) pgs_nil)))
        (pss_one (ps_if (PW.pt (pw_or (pt_not (pt_val (pe_callB call_isi (by rfl) T.isi (by decide +kernel) (pa_cons (pv 4) (pa_cons (pe_bltn (v := .ty "str") (u := .type "str") (by rfl) T.str (by decide +kernel) rfl) pa_nil)))))
          (pw_or1 (PW.pt (pw_and (pt_cmpR op_ne (pv 4) (pe_cval (pe_glob (v := .ref CF) (by rfl) Z.gF rfl)) (nomark _)) (pw_and1 (pt_cmp (pc_dnotin hu (pv 4) (pe_fld (pv 1) rfl))))))))) (pss_one (ps_err1 SP rfl (takes_of rfl rfl rfl rfl) hr2 rfl (pv 3))) pss_nil)))
      (pss_cons (ps_fld (pv 0) (pv 1) rfl)
      (pss_one (ps_fld (pv 0) (pe_callTy call_list_of (by rfl) T.lst (by decide +kernel) (pa_cons (pv 2) pa_nil)) rfl)))), ?_⟩
    have big : 1000 ≤ sizeLine := by decide
    obtain ⟨dx, dq, hx, hd⟩ := id fa
    refine ⟨_, rfl, by show 2 ≤ sizeLine; omega, fun tp ntp => ?_⟩
    have s1 := same_new (o := .tup [.ty "list", .ty "tuple"]) ntp
    obtain ⟨T0, d0, e0⟩ := (pv_.mono s1).isi
    refine ⟨iv, tp, [.ty "list", .ty "tuple"], _, [.type "list", .type "tuple"], _, rfl, upd_same, .cons (.ty _) (.cons (.ty _) .nil), d0.ty, d0.seq_, _, rfl, ?_⟩
    rw [e0]
    cases po with
    | none =>
      have k : Out H E (.e0 CU) := k
      show if true = true then _ else _
      rw [if_pos rfl]
      exact iteT (out0 k s1)
    | some xs =>
    refine iteF ?_
    obtain ⟨H1, e1⟩ : ∃ X, X = upd H tp (.tup [.ty "list", .ty "tuple"]) := ⟨_, rfl⟩
    rw [← e1] at s1 ⊢
    clear d0 e0
    obtain ⟨a, rfl, hs, dat, l9⟩ := pv_
    have hs1 := hs.mono s1
    have sq1 : SqL K H1 a xs ∨ SqT K H1 a xs := hs1.imp SqL.of SqT.of
    refine ⟨_, rfl, a, _, rfl, sq1, _, _, rfl, rfl, _, rfl, ?_⟩
    by_cases l1 : 1 ≤ xs.length
    rotate_left
    · rw [if_neg (show ¬ decide ((1 : Int) ≤ (xs.length : Int)) = true by rw [decide_eq_true_eq]; omega)]
      have ed : dueP ts (some xs) = some none := if_neg fun z => l1 z.1
      rw [ed] at k
      have k : Out H E (.e0 CU) := k
      refine ⟨_, rfl, ?_⟩
      show if true = true then _ else _
      rw [if_pos rfl]
      exact out0 k s1
    rw [if_pos (show decide ((1 : Int) ≤ (xs.length : Int)) = true by rw [decide_eq_true_eq]; omega)]
    refine ⟨CA, mcA, _, um, rfl, B.rd, cm, _, _, rfl, rfl, _, rfl, ?_⟩
    by_cases l2 : xs.length ≤ 60
    rotate_left
    · rw [decide_eq_false (show ¬ (xs.length : Int) ≤ 60 by omega)]
      have ed : dueP ts (some xs) = some none := if_neg fun z => l2 z.2
      rw [ed] at k
      have k : Out H E (.e0 CU) := k
      show if true = true then _ else _
      rw [if_pos rfl]
      exact out0 k s1
    rw [decide_eq_true (show (xs.length : Int) ≤ 60 by omega)]
    refine iteF ?_
    have ed : dueP ts (some xs) = (xs.findIdx? fun x => !placeV ts x).map some := if_pos ⟨l1, l2⟩
    rw [ed] at k
    obtain ⟨J, G, eJ, wk, gG⟩ := enumE_of (K := K) hs1
    refine ⟨_, rfl, a, J, rfl, eJ, ?_⟩
    refine for_it wk (fun j σ' H' => (∃ u3 u4, σ' = [some (.ref y), some (.ref x), some (.ref a), u3, u4]) ∧ Same H1 H' ∧ ∀ i < j, ∀ z, xs[i]? = some z → placeV ts z = true) ⟨⟨_, _, rfl⟩, fun _ _ e => e, fun i hi => by omega⟩ (fun j σ' H' _ z => gG _ z.2.1) ?_ ?_
    · intro j T' σ' Ha Hb hj ⟨⟨u3, u4, e⟩, sa, good⟩ ⟨Tp, i, z, eT, nT, eH, ey, ez⟩
      subst e
      subst eT
      subst eH
      cases ey
      have ez : xs[j]? = some z := ez
      obtain ⟨Tz, dz⟩ := dat z (List.mem_of_getElem? ez)
      have sT := same_new (o := .tup [.int (j : Int), z]) nT
      have s0 : Same H (upd Ha Tp (.tup [.int (j : Int), z])) := (s1.trans sa).trans sT
      have hx2 := s0 _ _ hx
      have hd2 := s0 _ _ hd
      have next : placeV ts z = true → ∀ i < j + 1, ∀ z, xs[i]? = some z → placeV ts z = true := fun h i hi z' hz' => by
        by_cases e : i = j
        · subst e
          rw [ez] at hz'
          cases hz'
          exact h
        · exact good i (by omega) z' hz'
      have fail : placeV ts z = false → OutP H E CU CP (some j) := fun h => by
        have : xs.findIdx? (fun x => !placeV ts x) = some j := by
          rw [List.findIdx?_eq_some_iff_getElem]
          refine ⟨hj, ?_, fun i hi => ?_⟩
          · rw [(List.getElem?_eq_some_iff.mp ez).2, h] <;> rfl
          · rw [good i hi _ (List.getElem?_eq_getElem (by omega))]
            decide
        rw [this] at k
        exact k
      refine ⟨Tp, _, rfl, .inl (.inl upd_same), rfl, ?_⟩
      refine ⟨_, _, rfl, _, _, rfl, rfl, ?_⟩
      have dz2 := dz.mono s0
      refine ⟨_, rfl, z, _, _, _, _, rfl, .ty _, dz2.ty, dz2.str_, _, rfl, ?_⟩
      by_cases eT : Tz = "str"
      · subst eT
        obtain ⟨b, rfl⟩ := dz.str_of
        rw [decide_eq_true rfl]
        refine iteF ?_
        refine ⟨_, rfl, CF, mc, _, ur, rfl, Z.rd, cr, rfl, _, rfl, ?_⟩
        by_cases e : b = ""
        · rw [decide_eq_true (show V.str b = V.str "" by rw [e])]
          refine iteF ?_
          exact iteF ⟨⟨_, _, rfl⟩, sa.trans sT, next (decide_eq_true (.inl e))⟩
        · rw [decide_eq_false (show ¬ V.str b = V.str "" from fun z => e (V.str.inj z))]
          show if true = true then _ else _
          rw [if_pos rfl]
          by_cases ma : b ∈ ts.map Prod.fst
          · obtain ⟨pa, hp⟩ := par_some o.nd ma
            refine ⟨_, rfl, _, rfl, x, CF, dx, _, .ref dq, rfl, hx2, O.cl, O.nA, rfl, dq, _, rfl, dget_prs (.inl hd2) hp, _, rfl, ?_⟩
            exact iteF ⟨⟨_, _, rfl⟩, sa.trans sT, next (decide_eq_true (.inr ma))⟩
          · have z := DGet.k (k := Sum.inr b) hd2
            rw [val_prs, par_none ma] at z
            refine ⟨_, rfl, _, rfl, x, CF, dx, _, .ref dq, rfl, hx2, O.cl, O.nA, rfl, dq, _, rfl, z, _, rfl, ?_⟩
            exact iteT ⟨_, rfl, out1 (fail (decide_eq_false (by rintro (h | h); exact e h; exact ma h))) s0⟩
      · rw [decide_eq_false eT]
        have e0 : placeV ts z = false := by
          cases z with
          | str z => exact absurd rfl (dz.str_no eT z)
          | _ => rfl
        show if true = true then _ else _
        rw [if_pos rfl]
        exact iteT ⟨_, rfl, out1 (fail e0) s0⟩
    · intro σ' H2 ⟨⟨u3, u4, e⟩, sa, good⟩
      subst e
      have en : xs.findIdx? (fun x => !placeV ts x) = none := by
        rw [List.findIdx?_eq_none_iff]
        intro z hz
        obtain ⟨i, hi⟩ := List.mem_iff_getElem?.mp hz
        rw [good i (List.getElem?_eq_some_iff.mp hi).1 z hi] <;> rfl
      rw [en] at k
      have k : ∀ (zs : List Str) (H' : Hp), some xs = some (zs.map V.str) → (∀ z ∈ zs, Pl ts z) → 1 ≤ zs.length → zs.length ≤ 60 → ANew CA H H' y x zs → (∀ b u, b ≠ y → H b = some u → H' b = some u) → Q .non H' := k
      obtain ⟨zs, ezs, pls, z1, z60⟩ := dueP_good (ts := ts) (o := some xs) (by rw [ed, en] <;> rfl)
      have ezs := Option.some.inj ezs
      have s2 : Same H H2 := s1.trans sa
      have hy2 := s2 _ _ hy
      have hs2 := hs.mono s2
      have ya : a ≠ y := by
        rcases hs2 with h | h
        · exact ne_of h hy2 (by intro z; cases z)
        · exact ne_of h hy2 (by intro z; cases z)
      refine ⟨_, rfl, _, rfl, y, CA, dy, [], rfl, hy2, B.cl, B.nF, by show 0 < 1000; decide, ?_⟩
      have sq3 : ∀ {o : HO}, SqL K (upd H2 y o) a xs ∨ SqT K (upd H2 y o) a xs := fun {o} => hs2.imp (fun h => SqL.of (by rw [upd_ne ya]; exact h)) (fun h => SqT.of (by rw [upd_ne ya]; exact h))
      refine ⟨_, rfl, a, _, rfl, sq3, fun p np => ?_⟩
      have yp : y ≠ p := ne_of_none upd_same np
      refine ⟨_, rfl, y, CA, dy, [("own_forest", .ref x)], rfl, by rw [upd_ne yp, upd_same] <;> rfl, B.cl, B.nP, by show 1 < 1000; decide, ?_⟩
      rw [put2a]
      have np2 : H2 p = none := by
        rw [upd_ne yp.symm] at np
        exact np
      refine k zs _ (by rw [ezs]) pls z1 z60 ⟨dy, p, upd_same, by rw [upd_ne yp.symm, upd_same, ezs], s2.free np2⟩ fun b o by_ e => ?_
      rw [upd_ne by_, upd_ne (ne_of_none (s2 _ _ e) np2), upd_ne by_]
      exact s2 _ _ e
end
end FT


/-! == of two lists of other lengths -/
namespace L2
open PySem PySem.Spec PyProof.Rows
section
variable {X : Cx}
def rEqLen : R2 := fun x y H Q => ∃ a b xs ys, x = .ref a ∧ y = .ref b ∧ H a = some (.lst xs) ∧ H b = some (.lst ys) ∧ xs.length ≠ ys.length ∧ Q (.bl false) H
end
end L2


/-! xs == [] and xs != [], whatever the items -/
namespace L2
open PySem PySem.Spec PyProof.Rows
section
variable {X : Cx}
def rNeLen : R2 := fun x y H Q => ∃ a b xs ys, x = .ref a ∧ y = .ref b ∧ H a = some (.lst xs) ∧ H b = some (.lst ys) ∧ xs.length ≠ ys.length ∧ Q (.bl true) H
theorem op_neLen (hu : X.A.units < cLine) : OpR X (compareOp .NotEq) rNeLen := by
  intro pins s σ H x y v u Q I rx ry h
  obtain ⟨a, b, xs, ys, rfl, rfl, ea, eb, ne, q⟩ := h
  obtain rfl : v = Value.ref a := rx
  obtain rfl : u = Value.ref b := ry
  obtain ⟨za, ia, na, ra, la, da⟩ := I.lstM ea
  obtain ⟨zb, ib, nb, rb, lb, db⟩ := I.lstM eb
  refine PySem.SeqAt.RcNeAt.lists_lengths (items := ia.toArray) (items2 := ib.toArray) ⟨_, da, rfl, _, rfl⟩ ⟨_, db, rfl, _, rfl⟩ ?_ hu _ _ _ _ ⟨.bl _, H, I, rfl, q⟩
  rw [List.size_toArray, List.size_toArray, bne_iff_ne]
  have h1 : xs.length = ia.length := by first | exact la | exact ra.length | exact la.symm
  have h2 : ys.length = ib.length := by first | exact lb | exact rb.length | exact lb.symm
  omega
def rEqNil : R2 := fun x y H Q => ∃ a b xs, x = .ref a ∧ y = .ref b ∧ H a = some (.lst xs) ∧ H b = some (.lst []) ∧ Q (.bl (decide (xs.length = 0))) H
def rNeNil : R2 := fun x y H Q => ∃ a b xs, x = .ref a ∧ y = .ref b ∧ H a = some (.lst xs) ∧ H b = some (.lst []) ∧ Q (.bl (!decide (xs.length = 0))) H
theorem op_neNil (hu : X.A.units + 64 < cLine) : OpR X (compareOp .NotEq) rNeNil := by
  intro pins s σ H x y v u Q I rx ry h
  obtain ⟨a, b, xs, rfl, rfl, ea, eb, q⟩ := h
  cases xs with
  | nil => exact op_neD hu pins s σ H _ _ v u Q I rx ry ⟨.list [], .list [], .lst (SqL.of ea) .nil, .lst (SqL.of eb) .nil, rfl, rfl, q⟩
  | cons x xs => exact op_neLen (by omega) pins s σ H _ _ v u Q I rx ry ⟨a, b, _, _, rfl, rfl, ea, eb, Nat.succ_ne_zero _, q⟩
end
end L2


/-! lists of texts as data, for == and !=. -/
namespace FT
open PySem L2 TL
theorem dps_strs {K : PySem.W.Frag} {H : Hp} : ∀ ts : List Str, DpAll K H (ts.map V.str) (ts.map PyData.str)
  | [] => .nil
  | t :: ts => .cons (.str t) (dps_strs ts)
theorem strs_lay : ∀ {ts : List Str}, (∀ t ∈ ts, PyData.strOk t = true) → PyData.canLayAll0 (ts.map PyData.str) = true ∧ PyData.depthAll (ts.map PyData.str) ≤ 0
  | [], _ => ⟨rfl, Nat.le_refl _⟩
  | t :: ts, h => by
    obtain ⟨h1, h2⟩ := strs_lay (ts := ts) fun b hb => h b (List.mem_cons_of_mem _ hb)
    constructor
    · show (PyData.strOk t && PyData.canLayAll0 (ts.map PyData.str)) = true
      rw [h t (List.mem_cons_self ..), h1] <;> rfl
    · show max 0 (PyData.depthAll (ts.map PyData.str)) ≤ 0
      omega
theorem strs_shaped {ts : List Str} (h : ∀ t ∈ ts, PyData.strOk t = true) : SeqAt.shaped (.list (ts.map PyData.str)) = true := by
  obtain ⟨h1, h2⟩ := strs_lay h
  unfold SeqAt.shaped
  have c : (PyData.list (ts.map PyData.str)).canLay0 = true := h1
  rw [c]
  have d : (PyData.list (ts.map PyData.str)).depth ≤ 64 := by
    show PyData.depthAll (ts.map PyData.str) + 1 ≤ 64
    omega
  rw [decide_eq_true d] <;> rfl
end FT


/-! the drawing state of four items; take, pick, order, names. -/
namespace FT
open PySem L2 TL ClX
/-- the drawing state: at d the list [cells, next, mixed, number], the cells at c -/
def DrawAt (H : Hp) (d c : Addr) : Prop := ∃ (nx mx ct : Int) (cells : List Int), H d = some (.lst [.ref c, .int nx, .int mx, .int ct]) ∧ H c = some (.lst (cells.map V.int)) ∧ cells ≠ [] ∧ cells.length ≤ 63 ∧ (∀ z ∈ cells, 0 ≤ z) ∧ 0 ≤ nx ∧ 0 ≤ mx ∧ mx < 2147483647 ∧ 0 ≤ ct
/-- all that was tracked, but d and c, is as it was -/
def Keep (d c : Addr) (H H' : Hp) : Prop := ∀ b o, b ≠ d → b ≠ c → H b = some o → H' b = some o
theorem Keep.refl {d c : Addr} {H : Hp} : Keep d c H H := fun _ _ _ _ e => e
theorem Keep.trans {d c : Addr} {H H1 H2 : Hp} (a : Keep d c H H1) (b : Keep d c H1 H2) : Keep d c H H2 := fun x o h h' e => b x o h h' (a x o h h' e)
theorem Keep.of_same {d c : Addr} {H H' : Hp} (s : Same H H') : Keep d c H H' := fun b o _ _ e => s b o e
theorem DrawAt.mono {H H' : Hp} {d c : Addr} (s : Same H H') (x : DrawAt H d c) : DrawAt H' d c := by
  obtain ⟨nx, mx, ct, cells, h1, h2, r⟩ := x
  exact ⟨nx, mx, ct, cells, s _ _ h1, s _ _ h2, r⟩
theorem DrawAt.apart {H : Hp} {d c p : Addr} (x : DrawAt H d c) (n : H p = none) : p ≠ d ∧ p ≠ c := by
  obtain ⟨nx, mx, ct, cells, h1, h2, r⟩ := x
  exact ⟨(ne_of_none h1 n).symm, (ne_of_none h2 n).symm⟩
theorem ints_ne {ns : List Int} {c : Addr} {r : List V} : ns.map V.int ≠ V.ref c :: r := by
  cases ns with
  | nil => intro h; cases h
  | cons a t => intro h; cases h
theorem DrawAt.ne {H : Hp} {d c : Addr} (x : DrawAt H d c) : c ≠ d := by
  obtain ⟨_, _, _, _, h1, h2, _⟩ := x
  exact ne_of h2 h1 fun z => ints_ne (HO.lst.inj z)
def spBegin (K : PySem.W.Frag) : Sp := fun vs H Q _ => ∃ (a : Addr) (ns : List Int), vs = [.ref a] ∧ SqL K H a (ns.map V.int) ∧ ns.length ≤ 63 ∧
  ∀ (H' : Hp) (d c : Addr), Same H H' → H d = none → H c = none → DrawAt H' d c → Q (.ref d) H'
def spDraw : Sp := fun vs H Q _ => ∃ (d c : Addr) (n : Int), vs = [.ref d, .int n] ∧ DrawAt H d c ∧ 0 < n ∧ n.natAbs < 2 ^ 300 ∧
  ∀ (k : Int) (H' : Hp), 0 ≤ k → k < n → DrawAt H' d c → Keep d c H H' → Q (.int k) H'
/-- an item of a list, a sign of a text -/
def Items (K : PySem.W.Frag) (H : Hp) (d c : Addr) (v : V) (n : Nat) (P : Nat → V → Prop) : Prop :=
  (∃ (l : Addr) (xs : List V), v = .ref l ∧ l ≠ d ∧ l ≠ c ∧ H l = some (.lst xs) ∧ xs.length = n ∧ ∀ i x, xs[i]? = some x → P i x) ∨
  (∃ z : Str, v = .str z ∧ z.length = n ∧ ∀ i s, z.cps.toList[i]? = some s → P i (.str ⟨#[s]⟩))
def spPick (K : PySem.W.Frag) : Sp := fun vs H Q _ => ∃ (d c : Addr) (v : V) (n : Nat) (P : Nat → V → Prop), vs = [.ref d, v] ∧ DrawAt H d c ∧ Items K H d c v n P ∧ 0 < n ∧ n < 1000 ∧
  ∀ (i : Nat) (x : V) (H' : Hp), P i x → DrawAt H' d c → Keep d c H H' → Q x H'
/-- the list of the magnitudes -/
def mags (ms : List Int) : List Int := ms.map fun i => if i < 0 then -i else i
theorem mags_nn (ms : List Int) : ∀ z ∈ mags ms, 0 ≤ z := fun z h => by
  obtain ⟨i, _, rfl⟩ := List.mem_map.mp h
  split <;> omega
theorem at_mod {cells : List Int} {nx : Int} (ne : cells ≠ []) : ∃ (j : Nat) (z : Int), nx % ((cells.map V.int).length : Int) = (j : Int) ∧ j < cells.length ∧ cells[j]? = some z ∧ z ∈ cells := by
  have l0 : 0 < cells.length := List.length_pos_iff.mpr ne
  rw [List.length_map]
  have h1 : 0 ≤ nx % (cells.length : Int) := Int.emod_nonneg _ (by omega)
  have h2 : nx % (cells.length : Int) < (cells.length : Int) := Int.emod_lt_of_pos _ (by omega)
  refine ⟨(nx % (cells.length : Int)).toNat, cells[(nx % (cells.length : Int)).toNat]'(by omega), by omega, by omega, by simp, List.getElem_mem _⟩
section
variable {P : Program} {w : World} {K : PySem.W.Frag} {mg : Str → Option Value} {base : Heap}
theorem scBegin : FnScope ["_law_script", "_law_cell"] ["_law_script"] (defScope s__law_begin) := ⟨rfl, rfl, rfl, by decide +kernel, rfl, by decide +kernel, by decide +kernel⟩
theorem ok_begin {f : Addr} {fd : FuncData} (F : Fun K "_law_begin" "_law_begin" s__law_begin f fd) (T : Nm mg) : FnOk P w K mg base CX0 1 f fd ["_law_script"] (spBegin K) := by
  refine F.ok scBegin (fun vs H Q E h => ?_) (fun cdv A outer s H vs Q E hr h => ?_)
  · obtain ⟨a, ns, rfl, _⟩ := h
    rfl
  · obtain ⟨a, ns, rfl, hS, hlen, k⟩ := h
    refine ⟨_, pss_one (ps_ret (pe_lst (pa_cons (pe_orT (pe_lc (own := [("_law_cell", 1)]) (g := gName 1) (tt := tYes) rfl scBegin.nd (pi_list (pe_slice sl_list (pv 0) po_none (po_some pe_int))) (blkOk_by (N := ["_law_script", "_law_cell"]) (sc := defScope s__law_begin) (by decide +kernel))
      (fun _ _ _ _ _ => pg_name (i := 1) scBegin.nd rfl (Or.inl rfl)) (fun _ _ _ _ _ => pts_nil) (fun _ _ _ _ _ => pe_callB call_abs (by rfl) T.abs (by decide +kernel) (pa_cons (pv 1) pa_nil))) (pe_one (pe_lst (pa_cons pe_int pa_nil))))
      (pa_cons pe_int (pa_cons pe_int (pa_cons pe_int pa_nil)))))), ?_⟩
    obtain ⟨ms, em, lm⟩ := cut_ints ns none (some 63)
    refine ⟨_, rfl, _, rfl, a, _, rfl, hS, fun p np => ?_⟩
    rw [em]
    have s1 : Same H (upd H p (.lst (ms.map V.int))) := same_new np
    refine ⟨p, rfl, ⟨_, SqL.of upd_same⟩, fun D nD => lc_list (xs := ms.map V.int) (fun i H' => Same (upd H p (.lst (ms.map V.int))) H' ∧ H' D = some (.lst ((mags (ms.take i)).map V.int))) ?_ ?_ ?_ ?_⟩
    · exact ⟨same_new nD, by rw [upd_same, List.take_zero] <;> rfl⟩
    · exact fun i H' _ q => Same.sql q.1 (SqL.of upd_same)
    · intro i x H' hx ⟨q1, q2⟩
      obtain ⟨z, hz, rfl⟩ : ∃ z, ms[i]? = some z ∧ x = V.int z := by
        rw [List.getElem?_map] at hx
        obtain ⟨z, hz, rfl⟩ := Option.map_eq_some_iff.mp hx
        exact ⟨z, hz, rfl⟩
      refine ⟨rfl, ?_⟩
      refine ⟨_, rfl, z, rfl, _, q2, ?_, ?_⟩
      · rw [List.length_map]
        unfold mags
        rw [List.length_map, List.length_take]
        exact Nat.lt_of_le_of_lt (Nat.min_le_right _ _) (Nat.lt_of_le_of_lt (Nat.le_trans lm hlen) (by decide))
      · refine ⟨fun b o e => ?_, ?_⟩
        · rw [upd_ne (ne_of_none e nD)]
          exact q1 b o e
        · rw [upd_same, take_more hz]
          unfold mags
          rw [List.map_append, List.map_append] <;> rfl
    · intro H' ⟨q1, q2⟩
      rw [List.length_map, List.take_length] at q2
      have sH : Same H H' := Same.trans s1 q1
      refine ⟨_, .inl ⟨_, SqL.of q2, rfl⟩, ?_⟩
      have hD : H D = none := Same.free s1 nD
      refine ite2 (fun nz => ?_) (fun nz => ?_)
      · refine ⟨by show 4 ≤ sizeLine; decide, fun d nd => ?_⟩
        have ncd : D ≠ d := ne_of_none q2 nd
        refine k _ d D (Same.trans sH (same_new nd)) (Same.free sH nd) hD ⟨0, 1, 0, mags ms, upd_same, by rw [upd_ne ncd]; exact q2, fun z => ?_, ?_, mags_nn ms, by omega, by omega, by omega, by omega⟩
        · rw [z] at nz
          cases nz
        · unfold mags
          rw [List.length_map]
          exact Nat.le_trans lm hlen
      · refine ⟨by show 1 ≤ sizeLine; decide, fun c nc => ?_⟩
        refine ⟨by show 4 ≤ sizeLine; decide, fun d nd => ?_⟩
        have ncd : c ≠ d := ne_of_none upd_same nd
        have nd' : H' d = none := by
          rw [upd_ne (Ne.symm ncd)] at nd
          exact nd
        exact k _ d c (Same.trans sH (Same.trans (same_new nc) (same_new nd))) (Same.free sH nd') (Same.free sH nc) ⟨0, 1, 0, [7], upd_same, by rw [upd_ne ncd, upd_same] <;> rfl, by simp, by decide, by simp, by omega, by omega, by omega, by omega⟩
theorem scDraw : FnScope ["_law_draw", "_law_size", "_law_cells", "_law_at", "_law_cell"] ["_law_draw", "_law_size"] (defScope s__law_take) := ⟨rfl, rfl, rfl, by decide +kernel, rfl, by decide +kernel, by decide +kernel⟩
theorem ok_draw {f : Addr} {fd : FuncData} (F : Fun K "_law_take" "_law_take" s__law_take f fd) (T : Nm mg) : FnOk P w K mg base CX0 1 f fd ["_law_draw", "_law_size"] spDraw := by
  refine F.ok scDraw (fun vs H Q E h => ?_) (fun cdv A outer s H vs Q E hr h => ?_)
  · obtain ⟨d, c, n, rfl, _⟩ := h
    rfl
  · obtain ⟨d, c, n, rfl, hD, n0, n1, k⟩ := h
    have ncd := hD.ne
    obtain ⟨nx, mx, ct, cells, hd, hc, ne, len, nn, a0, m0, m1, c0⟩ := hD
    refine ⟨_, pss_cons (ps_set (i := 2) scDraw.nd rfl (.inl rfl) (pe_ix ix_list (pv 0) pe_int (fun _ _ => rfl)))
      (pss_cons (ps_set (i := 3) scDraw.nd rfl (.inl rfl) (pe_op op_mod (pe_ix ix_list (pv 0) pe_int (fun _ _ => rfl)) (pe_callB call_len_seq (by rfl) T.len PySem.boot_len (pa_cons (pv 2) pa_nil))))
      (pss_cons (ps_set (i := 4) scDraw.nd rfl (.inl rfl) (pe_ix ix_list (pv 2) (pv 3) (fun _ _ => rfl)))
      (pss_cons (ps_if (pt_cmpR op_ge (pv 4) (pe_op op_pow pe_int pe_int) (nomark _))
        (pss_cons (ps_asg (pe_op op_fdivW (pv 4) (pv 1)) (pg_sub (pv 2) (pv 3) set_list)) (pss_one (ps_ret (pe_op op_mod (pv 4) (pv 1))))) pss_nil)
      (pss_cons (ps_asg (pe_op op_add (pe_ix ix_list (pv 0) pe_int (fun _ _ => rfl)) pe_int) (pg_sub (pv 0) pe_int set_list))
      (pss_cons (ps_asg (pe_op op_add (pe_ix ix_list (pv 0) pe_int (fun _ _ => rfl)) pe_int) (pg_sub (pv 0) pe_int set_list))
      (pss_cons (ps_asg (pe_op op_mod (pe_op op_add (pe_op op_add (pe_op op_add (pe_op op_mul (pe_ix ix_list (pv 0) pe_int (fun _ _ => rfl)) pe_int) (pv 4)) (pe_op op_mul pe_int (pe_ix ix_list (pv 0) pe_int (fun _ _ => rfl)))) pe_int) pe_int) (pg_sub (pv 0) pe_int set_list))
      (pss_one (ps_ret (pe_op op_mod (pe_op op_fdiv (pe_op op_mod (pe_op op_mul (pe_ix ix_list (pv 0) pe_int (fun _ _ => rfl)) (pe_ix ix_list (pv 0) pe_int (fun _ _ => rfl))) pe_int) pe_int) (pv 1)))))))))), ?_⟩
    obtain ⟨j, z, ej, jl, hz, zm⟩ := at_mod (nx := nx) ne
    have z0 := nn z zm
    have l0 : (0 : Int) < ((cells.map V.int).length : Int) := by
      have := List.length_pos_iff.mpr ne
      rw [List.length_map]
      omega
    refine ⟨_, rfl, d, _, 0, .ref c, rfl, rfl, SqL.of hd, rfl, ?_⟩
    refine ⟨_, rfl, d, _, 1, .int nx, rfl, rfl, SqL.of hd, rfl, _, rfl, c, _, rfl, .inl (SqL.of hc), _, _, rfl, rfl, l0, ?_⟩
    refine ⟨_, rfl, _, rfl, c, _, _, .int z, rfl, rfl, SqL.of hc, by rw [ej]; exact atI_nat (map_at hz), ?_⟩
    refine ⟨_, rfl, 10, 18, rfl, rfl, ⟨by decide, by decide, by decide⟩, _, _, rfl, rfl, _, rfl, ?_⟩
    refine ite2 (fun _ => ?_) (fun _ => ?_)
    · refine ⟨_, rfl, _, rfl, _, _, rfl, rfl, wide_div n0 n1 (by decide) (by decide), _, rfl, _, rfl, c, _, _, j, rfl, rfl, hc, by rw [ej]; exact ixN_nat (by rw [List.length_map]; exact jl), ?_⟩
      rw [show (cells.map V.int).set j (.int (z / n)) = (cells.set j (z / n)).map V.int by rw [List.map_set]]
      refine ⟨_, rfl, _, rfl, _, _, rfl, rfl, n0, ?_⟩
      refine k _ _ (Int.emod_nonneg _ (by omega)) (Int.emod_lt_of_pos _ n0) ⟨nx, mx, ct, _, by rw [upd_ne ncd.symm]; exact hd, upd_same, ?_, by rw [List.length_set]; exact len, ?_, a0, m0, m1, c0⟩ (fun b o _ h2 e => by rw [upd_ne h2]; exact e)
      · intro e
        have := congrArg List.length e
        rw [List.length_set] at this
        exact ne (List.length_eq_zero_iff.mp this)
      · intro y hy
        rcases List.mem_or_eq_of_mem_set hy with h | h
        · exact nn y h
        · rw [h]
          exact Int.ediv_nonneg z0 (by omega)
    · refine ⟨_, rfl, d, _, 1, .int nx, rfl, rfl, SqL.of hd, rfl, _, _, rfl, rfl, _, rfl, d, _, 1, 1, rfl, rfl, hd, rfl, ?_⟩
      refine ⟨_, rfl, d, _, 3, .int ct, rfl, rfl, SqL.of upd_same, rfl, _, _, rfl, rfl, _, rfl, d, _, 3, 3, rfl, rfl, upd_same, rfl, ?_⟩
      rw [upd_upd]
      refine ⟨_, rfl, d, _, 2, .int mx, rfl, rfl, SqL.of upd_same, rfl, _, _, rfl, rfl, .inl ⟨by omega, by omega⟩, _, rfl, _, _, rfl, rfl, _, rfl, d, _, 3, .int (ct + 1), rfl, rfl, SqL.of upd_same, rfl, _, _, rfl, rfl, .inl ⟨by decide, by decide⟩,
        _, _, rfl, rfl, _, _, rfl, rfl, _, _, rfl, rfl, (by show (0 : Int) < 2147483647; decide), _, rfl, d, _, 2, 2, rfl, rfl, upd_same, rfl, ?_⟩
      rw [upd_upd]
      obtain ⟨m, em⟩ : ∃ m, m = (mx * 48271 + z + 7919 * (ct + 1) + 12345) % 2147483647 := ⟨_, rfl⟩
      have h0 : 0 ≤ m := by rw [em]; exact Int.emod_nonneg _ (by decide)
      have h1 : m < 2147483647 := by rw [em]; exact Int.emod_lt_of_pos _ (by decide)
      refine ⟨_, rfl, d, _, 2, .int m, rfl, rfl, SqL.of upd_same, by rw [em] <;> rfl, _, rfl, d, _, 2, .int m, rfl, rfl, SqL.of upd_same, by rw [em] <;> rfl, _, _, rfl, rfl, .inl ⟨by omega, by omega⟩, _, _, rfl, rfl, (by show (0 : Int) < 2147483629; decide), _, _, rfl, rfl, ⟨by decide, by decide⟩,
        _, rfl, _, _, rfl, rfl, n0, ?_⟩
      exact k _ _ (Int.emod_nonneg _ (by omega)) (Int.emod_lt_of_pos _ n0) ⟨nx + 1, m, ct + 1, cells, by rw [upd_same, em] <;> rfl, by rw [upd_ne ncd]; exact hc, ne, len, nn, by omega, h0, h1, by omega⟩ (fun b o h2 _ e => by rw [upd_ne h2]; exact e)
theorem scPick : FnScope ["_law_draw", "_law_some"] ["_law_draw", "_law_some"] (defScope s__law_pick) := ⟨rfl, rfl, rfl, by decide +kernel, rfl, by decide +kernel, by decide +kernel⟩
theorem ok_pick {f fT : Addr} {fd fdT : FuncData} (F : Fun K "_law_pick" "_law_pick" s__law_pick f fd) (T : Nm mg) (FT : Fun K "_law_take" "_law_take" s__law_take fT fdT) (bT : Binds K fdT ["_law_draw", "_law_size"] []) (gT : mg "_law_take" = some (.ref fT)) :
    FnOk P w K mg base CX0 2 f fd ["_law_draw", "_law_some"] (spPick K) := by
  have GT : FnOk P w K mg base CX0 1 fT fdT ["_law_draw", "_law_size"] spDraw := ok_draw FT T
  refine F.ok scPick (fun vs H Q E h => ?_) (fun cdv A outer s H vs Q E hr h => ?_)
  · obtain ⟨d, c, v, n, P, rfl, _⟩ := h
    rfl
  · obtain ⟨d, c, v, n, Pr, rfl, hD, it, x0, x1, k⟩ := h
    have hr1 : Room 1 _ := hr.mono (by decide)
    refine ⟨_, pss_one (ps_ret (pe_ix ix_seq (pv 1) (pe_call GT hr1 rfl gT FT.kp bT .nil pass0 (pa_cons (pv 0) (pa_cons (pe_callB call_len (by rfl) T.len PySem.boot_len (pa_cons (pv 1) pa_nil)) pa_nil))) (fun _ _ => rfl))), ?_⟩
    have small : ∀ n : Nat, n < 1000 → ((n : Int)).natAbs < 2 ^ 300 := fun n hn => by
      rw [Int.natAbs_natCast]
      exact Nat.lt_trans hn (by decide)
    rcases it with ⟨l, xs, rfl, nd, nc, hl, en, hp⟩ | ⟨z, rfl, en, hp⟩
    · refine ⟨_, rfl, _, rfl, _, rfl, _, xs.length, rfl, .inl ⟨xs, SqL.of hl, rfl⟩, d, c, _, rfl, hD, by omega, small _ (by omega), fun i H' i0 i1 hD' off => ?_⟩
      have hi : i.toNat < xs.length := by omega
      have e : xs[i.toNat]? = some xs[i.toNat] := List.getElem?_eq_getElem hi
      have e2 := atI_nat e
      rw [show ((i.toNat : Nat) : Int) = i by omega] at e2
      exact .inl ⟨l, xs, i, xs[i.toNat], rfl, rfl, SqL.of (off l _ nd nc hl), e2, k i.toNat _ H' (hp _ _ e) hD' off⟩
    · have zl : z.length ≤ sizeLine := Nat.le_trans (by omega : z.length ≤ 1000) (by decide)
      refine ⟨_, rfl, _, rfl, _, rfl, _, z.length, rfl, ⟨zl, rfl⟩, d, c, _, rfl, hD, by omega, small _ (by omega), fun i H' i0 i1 hD' off => ?_⟩
      have hi : i.toNat < z.cps.toList.length := by
        have : z.length = z.cps.toList.length := by simp [Str.length]
        omega
      have e : z.cps.toList[i.toNat]? = some z.cps.toList[i.toNat] := List.getElem?_eq_getElem hi
      have e2 := atI_nat e
      rw [show ((i.toNat : Nat) : Int) = i by omega] at e2
      exact .inr (.inr ⟨z, i, _, rfl, rfl, zl, e2, k i.toNat _ H' (hp _ _ e) hD' off⟩)
end

/-- list(x): x a list of texts, or a dict of texts -/
def Texts (K : PySem.W.Frag) (H : Hp) (a : Addr) (ts : List Str) : Prop := SqL K H a (ts.map V.str) ∨ ∃ kvs, Rd H a (.dK kvs) ∧ kvs.map (·.1) = ts.map Sum.inr
theorem call_texts {X : Cx} (hcalm : X.calm = true) : CallR X (.type "list") (fun xs H Q => ∃ (a : Addr) (ts : List Str), xs = [.ref a] ∧ Texts X.K H a ts ∧ ∀ p, H p = none → Q (.ref p) (upd H p (.lst (ts.map V.str)))) := by
  intro pins s σ H xs us Q I r h
  obtain ⟨a, ts, rfl, t, q⟩ := h
  rcases t with t | ⟨kvs, t, e⟩
  · exact call_list_of pins s σ H _ us Q I r ⟨a, _, rfl, .inl t, q⟩
  · refine call_listD hcalm pins s σ H _ us Q I r ⟨a, kvs, rfl, t, fun p np => ?_⟩
    have ek : (kvs.map fun kv => kV kv.1) = ts.map V.str := by
      have z := congrArg (List.map kV) e
      rw [List.map_map, List.map_map] at z
      exact z
    rw [ek]
    exact q p np
theorem DrawAt.off {H : Hp} {d c p : Addr} {o : HO} (x : DrawAt H d c) (n1 : p ≠ d) (n2 : p ≠ c) : DrawAt (upd H p o) d c := by
  obtain ⟨nx, mx, ct, cells, h1, h2, r⟩ := x
  exact ⟨nx, mx, ct, cells, by rw [upd_ne n1.symm]; exact h1, by rw [upd_ne n2.symm]; exact h2, r⟩
def spOrder (K : PySem.W.Frag) : Sp := fun vs H Q _ => ∃ (d c a : Addr) (ts : List Str), vs = [.ref d, .ref a] ∧ DrawAt H d c ∧ Texts K H a ts ∧ ts.length < 900 ∧ (∀ t ∈ ts, PyData.strOk t = true) ∧
  ∀ (p : Addr) (ys : List Str) (H' : Hp), ys.Perm ts → H p = none → H' p = some (.lst (ys.map V.str)) → DrawAt H' d c → Keep d c H H' → Q (.ref p) H'
section
variable {P : Program} {w : World} {K : PySem.W.Frag} {mg : Str → Option Value} {base : Heap}
theorem scOrder : FnScope ["_law_draw", "_law_some", "_law_rest", "_law_found"] ["_law_draw", "_law_some"] (defScope s__law_order) := ⟨rfl, rfl, rfl, by decide +kernel, rfl, by decide +kernel, by decide +kernel⟩
theorem ok_order {f fT : Addr} {fd fdT : FuncData} (F : Fun K "_law_order" "_law_order" s__law_order f fd) (T : Nm mg) (FT : Fun K "_law_take" "_law_take" s__law_take fT fdT) (bT : Binds K fdT ["_law_draw", "_law_size"] []) (gT : mg "_law_take" = some (.ref fT)) :
    FnOk P w K mg base CX0 2 f fd ["_law_draw", "_law_some"] (spOrder K) := by
  have GT : FnOk P w K mg base CX0 1 fT fdT ["_law_draw", "_law_size"] spDraw := ok_draw FT T
  refine F.ok scOrder (fun vs H Q E h => ?_) (fun cdv A outer s H vs Q E hr h => ?_)
  · obtain ⟨d, c, a, ts, rfl, _⟩ := h
    rfl
  · obtain ⟨d, c, a, ts, rfl, hD, ht, few, sok, k⟩ := h
    have hr1 : Room 1 _ := hr.mono (by decide)
    refine ⟨_, pss_cons (ps_par (i := 2) (j := 3) rfl scOrder.nd rfl rfl (by decide) rfl rfl (pa_cons (pe_callTy (call_texts rfl) (by rfl) T.lst (by decide +kernel) (pa_cons (pv 1) pa_nil)) (pa_cons (pe_lst pa_nil) pa_nil)) (by rfl))
      (pss_cons (ps_while PassesOwn.never (pt_cmpR (op_neD hr.units) (pv 2) (pe_lst pa_nil) (nomark _))
        (pss_one (ps_expr (pe_bm PySem.F.plainAttrs_list PySem.F.slot_list_append PySem.F.type_list_append mt_append (pv 3) (pa_cons (pe_bm PySem.F.plainAttrs_list PySem.F.slot_list_pop PySem.F.type_list_pop mt_popAt (pv 2) (pa_cons (pe_call GT hr1 rfl gT FT.kp bT .nil pass0 (pa_cons (pv 0) (pa_cons (pe_callB call_len_seq (by rfl) T.len PySem.boot_len (pa_cons (pv 2) pa_nil)) pa_nil))) pa_nil)) pa_nil)))))
      (pss_one (ps_ret (pv 3)))), ?_⟩
    refine ⟨_, rfl, a, ts, rfl, ht, fun r nr => ⟨by show 0 ≤ sizeLine; omega, fun q nq => ⟨_, _, rfl, ?_⟩⟩⟩
    have rq : r ≠ q := ne_of_none upd_same nq
    have rd := hD.apart nr
    have qd := (hD.mono (same_new nr)).apart nq
    refine while_by (fun σ H' => σ = [some (.ref d), some (.ref a), some (.ref r), some (.ref q)] ∧ DrawAt H' d c ∧ Keep d c H H' ∧ ∃ rest found : List Str, H' r = some (.lst (rest.map V.str)) ∧ H' q = some (.lst (found.map V.str)) ∧ (found ++ rest).Perm ts) (fun _ H' => many H' r)
      ⟨rfl, (hD.mono (same_new nr)).mono (same_new nq), Keep.of_same ((same_new nr).trans (same_new nq)), ts, [], by rw [upd_ne rq, upd_same], upd_same, .refl _⟩ ?_ ?_
    · rintro σ H1 ⟨rfl, d1, k1, rest, found, er, eq, pm⟩
      have lens := pm.length_eq
      rw [List.length_append] at lens
      refine ⟨_, rfl, by show 0 ≤ sizeLine; omega, fun e ne => ⟨_, _, .lst (SqL.of (by rw [upd_ne (ne_of_none er ne)]; exact er)) (dps_strs rest), .lst (SqL.of upd_same) .nil, ?_, rfl, ?_⟩⟩
      · exact strs_shaped fun t m => sok t (pm.mem_iff.mp (List.mem_append_right _ m))
      · have s1 := same_new (o := .lst []) ne
        obtain ⟨H2, e2⟩ : ∃ X, X = upd H1 e (.lst []) := ⟨_, rfl⟩
        rw [← e2] at s1 ⊢
        have d2 := d1.mono s1
        refine ⟨_, rfl, ?_⟩
        refine ite2 (fun t => ?_) (fun t => ?_)
        · cases rest with
          | nil => cases t
          | cons y rest =>
            have er2 := s1 _ _ er
            have eq2 := s1 _ _ eq
            refine ⟨_, rfl, .inl ⟨rfl, _, SqL.of eq2⟩, _, rfl, .inl ⟨rfl, _, SqL.of er2⟩, _, rfl, _, rfl, r, _, rfl, .inl (SqL.of er2), d, c, _, rfl, d2, ?_, ?_, fun i H3 i0 i1 d3 k3 => ?_⟩
            · rw [List.length_map, List.length_cons]
              omega
            · rw [List.length_map, List.length_cons, Int.natAbs_natCast]
              rw [List.length_cons] at lens
              exact Nat.lt_trans (by omega : rest.length + 1 < 1000) (by decide)
            · rw [List.length_map] at i1
              have er3 := k3 r _ rd.1 rd.2 er2
              have eq3 := k3 q _ qd.1 qd.2 eq2
              have hi : i.toNat < (y :: rest).length := by omega
              have e0 : ((y :: rest).map V.str)[i.toNat]? = some (V.str (y :: rest)[i.toNat]) := by rw [List.getElem?_map, List.getElem?_eq_getElem hi] <;> rfl
              obtain ⟨sx, _, _, _⟩ := ixN_seq (ixN_nat (n := ((y :: rest).map V.str).length) (j := i.toNat) (by rw [List.length_map]; exact hi))
              rw [show ((i.toNat : Nat) : Int) = i by omega] at sx
              rw [List.length_cons] at lens i1
              refine ⟨r, _, i, i.toNat, _, rfl, rfl, er3, by omega, by omega, sx, e0, ?_⟩
              refine ⟨q, _, _, rfl, rfl, by rw [upd_ne rq.symm]; exact eq3, ?_, ?_⟩
              · rw [List.length_map]
                exact Nat.lt_of_lt_of_le (by omega : found.length < 1000) (by decide)
              · have er4 : (upd (upd H3 r (.lst (((y :: rest).map V.str).eraseIdx i.toNat))) q (.lst (found.map V.str ++ [V.str (y :: rest)[i.toNat]]))) r = some (.lst (((y :: rest).eraseIdx i.toNat).map V.str)) := by
                  rw [upd_ne rq, upd_same, map_erase]
                have pe : ((y :: rest)[i.toNat] :: (y :: rest).eraseIdx i.toNat).Perm (y :: rest) := erase_perm _ _ hi
                refine ⟨⟨rfl, (d3.off rd.1 rd.2).off qd.1 qd.2, fun b o b1 b2 eb => ?_, _, found ++ [(y :: rest)[i.toNat]], er4, by rw [upd_same, List.map_append] <;> rfl, ?_⟩, ?_⟩
                · have n1 : b ≠ r := ne_of_none eb nr
                  have n2 : b ≠ q := ne_of_none (same_new nr b o eb) nq
                  rw [upd_ne n2, upd_ne n1]
                  exact k3 b o b1 b2 (s1 b o (k1 b o b1 b2 eb))
                · rw [List.append_assoc]
                  exact ((List.Perm.refl found).append pe).trans pm
                · show many _ r < many H1 r
                  rw [many_at er4, many_at er, List.length_map, List.length_map, List.length_eraseIdx, if_pos hi, List.length_cons]
                  omega
        · cases rest with
          | cons y rest => exact absurd rfl t
          | nil =>
            have k2 : Keep d c H H2 := k1.trans (Keep.of_same s1)
            rw [List.append_nil] at pm
            have nq0 : H q = none := by
              cases z : H q with
              | none => rfl
              | some o =>
                rw [same_new nr q o z] at nq
                cases nq
            exact ⟨_, rfl, k q found H2 pm nq0 (s1 _ _ eq) d2 k2⟩
    · exact fun σ H Q Q' hm ⟨v, e, z, f⟩ => ⟨v, e, z, fun p np => let ⟨d1, d2, a1, a2, a3, a4, b, eb, q⟩ := f p np; ⟨d1, d2, a1, a2, a3, a4, b, eb, hm _ _ q⟩⟩
end

def pool1 : List Str := ["a", "b", "c", "aa", "ab", "z", "zz", "new", "old", "abcdefgh", "zzzzzzzz", "size", "must", "users", "none"]
def pool2 : List Str := ["a", "b", "c", "d", "e", "f", "g", "h", "i", "j", "k", "l"]
theorem pool_ok : (∀ z ∈ pool1, NameL z) ∧ (∀ z ∈ pool2, NameL z) := by decide +kernel
theorem pool_nd : pool1.Nodup ∧ pool2.Nodup := by decide +kernel
theorem pool_str : (∀ z ∈ pool1, PyData.strOk z = true) ∧ (∀ z ∈ pool2, PyData.strOk z = true) := by decide +kernel
def spNames : Sp := fun vs H Q _ => ∃ (d c : Addr) (n : Nat), vs = [.ref d, .int (n : Int)] ∧ DrawAt H d c ∧ 1 ≤ n ∧ n ≤ 12 ∧
  ∀ (l : Addr) (fs : List Str) (H' : Hp), fs.length = n → fs.Nodup → (∀ z ∈ fs, NameL z) → (∀ z ∈ fs, PyData.strOk z = true) → H l = none → H' l = some (.lst (fs.map V.str)) → DrawAt H' d c → Keep d c H H' → Q (.ref l) H'
theorem Keep.put {d c p : Addr} {H H' : Hp} {o : HO} (k : Keep d c H H') (n : H p = none) : Keep d c H (upd H' p o) := fun b u h1 h2 e => by
  rw [upd_ne (ne_of_none e n)]
  exact k b u h1 h2 e
theorem Keep.free {d c p : Addr} {H H' : Hp} (k : Keep d c H H') (n : H' p = none) (n1 : p ≠ d) (n2 : p ≠ c) : H p = none := by
  cases e : H p with
  | none => rfl
  | some o =>
    rw [k p o n1 n2 e] at n
    cases n
section
variable {P : Program} {w : World} {K : PySem.W.Frag} {mg : Str → Option Value} {base : Heap}
theorem scNames : FnScope ["_law_draw", "_law_many", "_law_pool"] ["_law_draw", "_law_many"] (defScope s__law_names) := ⟨rfl, rfl, rfl, by decide +kernel, rfl, by decide +kernel, by decide +kernel⟩
theorem ok_names {f fT fO : Addr} {fd fdT fdO : FuncData} (F : Fun K "_law_names" "_law_names" s__law_names f fd) (T : Nm mg) (FT : Fun K "_law_take" "_law_take" s__law_take fT fdT) (bT : Binds K fdT ["_law_draw", "_law_size"] []) (gT : mg "_law_take" = some (.ref fT))
    (FO : Fun K "_law_order" "_law_order" s__law_order fO fdO) (bO : Binds K fdO ["_law_draw", "_law_some"] []) (gO : mg "_law_order" = some (.ref fO)) : FnOk P w K mg base CX0 3 f fd ["_law_draw", "_law_many"] spNames := by
  have GT : FnOk P w K mg base CX0 1 fT fdT ["_law_draw", "_law_size"] spDraw := ok_draw FT T
  have GO : FnOk P w K mg base CX0 2 fO fdO ["_law_draw", "_law_some"] (spOrder K) := ok_order FO T FT bT gT
  refine F.ok scNames (fun vs H Q E h => ?_) (fun cdv A outer s H vs Q E hr h => ?_)
  · obtain ⟨d, c, n, rfl, _⟩ := h
    rfl
  · obtain ⟨d, c, n, rfl, hD, n1, n12, k⟩ := h
    have hr1 : Room 1 _ := hr.mono (by decide)
    have hr2 : Room 2 _ := hr.mono (by decide)
    refine ⟨_, pss_cons (ps_set (i := 2) scNames.nd rfl (.inl rfl) (pe_lst (pa_cons pe_str (pa_cons pe_str (pa_cons pe_str (pa_cons pe_str (pa_cons pe_str (pa_cons pe_str (pa_cons pe_str (pa_cons pe_str (pa_cons pe_str (pa_cons pe_str (pa_cons pe_str (pa_cons pe_str (pa_cons pe_str (pa_cons pe_str (pa_cons pe_str pa_nil)))))))))))))))))
      (pss_cons (ps_if (pt_cmpR op_eq (pe_call GT hr1 rfl gT FT.kp bT .nil pass0 (pa_cons (pv 0) (pa_cons pe_int pa_nil))) pe_int (nomark _))
        (pss_one (ps_set (i := 2) scNames.nd rfl (.inl rfl) (pe_lst (pa_cons pe_str (pa_cons pe_str (pa_cons pe_str (pa_cons pe_str (pa_cons pe_str (pa_cons pe_str (pa_cons pe_str (pa_cons pe_str (pa_cons pe_str (pa_cons pe_str (pa_cons pe_str (pa_cons pe_str pa_nil))))))))))))))) pss_nil)
      (pss_one (ps_ret (pe_slice sl_list (pe_call GO hr2 rfl gO FO.kp bO .nil pass0 (pa_cons (pv 0) (pa_cons (pv 2) pa_nil))) po_none (po_some (pv 1)))))), ?_⟩
    have big : 1000 ≤ sizeLine := by decide
    -- the rest, from any pool
    have rest : ∀ (pool : List Str) (p : Addr) (H1 : Hp), H1 p = some (.lst (pool.map V.str)) → p ≠ d → p ≠ c → DrawAt H1 d c → Keep d c H H1 → 12 ≤ pool.length → pool.length < 900 → pool.Nodup → (∀ z ∈ pool, NameL z) → (∀ z ∈ pool, PyData.strOk z = true) →
        tRet (tSl (rSlL K) (tCall (spOrder K) [] E0 (tCons (tVar 0) (tCons (tVar 2) tNil))) tNoPart (tPart (tVar 1))) { nx := fun _ H' => Q .non H', rt := Q } [some (.ref d), some (.int (n : Int)), some (.ref p)] H1 := by
      intro pool p H1 e1 pd pc d1 k1 l12 few nd ok sok
      refine ⟨_, rfl, _, rfl, d, c, p, pool, rfl, d1, .inl (SqL.of e1), few, sok, fun r ys H2 pm nr er d2 k2 => ?_⟩
      have ly := pm.length_eq
      have rd := d1.apart nr
      refine ⟨_, rfl, _, rfl, r, ys.map V.str, rfl, SqL.of er, fun q nq => ?_⟩
      rw [cut_take (by rw [List.length_map]; omega), ← List.map_take]
      have qd := d2.apart nq
      have sub : ∀ z ∈ ys.take n, z ∈ pool := fun z hz => pm.mem_iff.mp (List.mem_of_mem_take hz)
      exact k q _ _ (by rw [List.length_take]; omega) ((pm.nodup_iff.mpr nd).sublist (List.take_sublist _ _)) (fun z hz => ok z (sub z hz)) (fun z hz => sok z (sub z hz)) ((k1.trans k2).free nq qd.1 qd.2) upd_same (d2.mono (same_new nq)) ((k1.trans k2).trans (Keep.of_same (same_new nq)))
    refine ⟨by show 15 ≤ sizeLine; omega, fun p np => ?_⟩
    have s1 := same_new (o := .lst (pool1.map V.str)) np
    have pd := hD.apart np
    refine ⟨_, rfl, d, c, 2, rfl, hD.mono s1, by decide, by decide, fun i H2 i0 i1 d2 k2 => ?_⟩
    have e2 := k2 p _ pd.1 pd.2 (upd_same : upd H p (.lst (pool1.map V.str)) p = some (.lst (pool1.map V.str)))
    have K2 : Keep d c H H2 := (Keep.of_same s1).trans k2
    refine ⟨rfl, _, rfl, ?_⟩
    refine ite2 (fun _ => ?_) (fun _ => ?_)
    · refine ⟨by show 12 ≤ sizeLine; omega, fun q nq => ?_⟩
      have qd := d2.apart nq
      exact rest pool2 q _ upd_same qd.1 qd.2 (d2.mono (same_new nq)) (K2.trans (Keep.of_same (same_new nq))) (by decide) (by decide) pool_nd.2 pool_ok.2 pool_str.2
    · exact rest pool1 p _ e2 pd.1 pd.2 d2 K2 (by decide) (by decide) pool_nd.1 pool_ok.1 pool_str.1
end
end FT


namespace FT
open PySem L2 TL ClX
def spParents : Sp := fun vs H Q _ => ∃ (d c : Addr) (n : Nat), vs = [.ref d, .int (n : Int)] ∧ DrawAt H d c ∧ 1 ≤ n ∧ n ≤ 12 ∧
  ∀ (q : Addr) (t : List (Str × Str)) (H' : Hp), TreeOk t → t.length = n → H q = none → H' q = some (.dK (prs t)) → DrawAt H' d c → Keep d c H H' → Q (.ref q) H'
def spPath : Sp := fun vs H Q _ => ∃ (q : Addr) (a : Str) (t : List (Str × Str)), vs = [.ref q, .str a] ∧ Rd H q (.dK (prs t)) ∧ TreeOk t ∧ Pl t a ∧ ∀ p H', Same H H' → H p = none → H' p = some (.tup ((pathOf t a).map V.str)) → Q (.ref p) H'
theorem fresh_at {fs l : List Str} {j : Nat} {f : Str} (nd : fs.Nodup) (h : fs[j]? = some f) (e : l = fs.take j) : f ∉ l := by
  rw [e]
  intro hm
  obtain ⟨i, hi⟩ := List.mem_iff_getElem?.mp hm
  have hi2 := (List.getElem?_eq_some_iff.mp hi).1
  have jl := (List.getElem?_eq_some_iff.mp h).1
  rw [List.length_take] at hi2
  rw [List.getElem?_take, if_pos (by omega)] at hi
  have := (List.getElem?_inj (by omega) nd).mp (hi.trans h.symm)
  omega
section
variable {P : Program} {w : World} {K : PySem.W.Frag} {mg : Str → Option Value} {base : Heap}
abbrev NPa : List Str := ["_law_draw", "_law_many", "_law_names_here", "_law_way", "_law_found", "_law_at", "_law_flag"]
theorem scPa : FnScope NPa ["_law_draw", "_law_many"] (defScope s__law_parents) := ⟨rfl, rfl, rfl, by decide +kernel, rfl, by decide +kernel, by decide +kernel⟩
theorem ok_parents {f fT fP fO fN : Addr} {fd fdT fdP fdO fdN : FuncData} (F : Fun K "_law_parents" "_law_parents" s__law_parents f fd) (T : Nm mg) (DT : Dn P w K mg base CX0 1 "_law_take" ["_law_draw", "_law_size"] spDraw fT fdT) (DP : Dn P w K mg base CX0 2 "_law_pick" ["_law_draw", "_law_some"] (spPick K) fP fdP)
    (DO : Dn P w K mg base CX0 2 "_law_order" ["_law_draw", "_law_some"] (spOrder K) fO fdO) (DN : Dn P w K mg base CX0 3 "_law_names" ["_law_draw", "_law_many"] spNames fN fdN) : FnOk P w K mg base CX0 4 f fd ["_law_draw", "_law_many"] spParents := by
  refine F.ok scPa (fun vs H Q E h => ?_) (fun cdv A outer s H vs Q E hr h => ?_)
  · obtain ⟨d, c, n, rfl, _⟩ := h
    rfl
  · obtain ⟨d, c, n, rfl, hD, n1, n12, k⟩ := h
    have hu := hu_of hr
    have hr1 : Room 1 _ := hr.mono (by decide)
    have hr2 : Room 2 _ := hr.mono (by decide)
    have big : 1000 ≤ sizeLine := by decide
    refine ⟨_, pss_cons (ps_asg (pe_tup (pa_cons (pe_call DN.ok hr rfl DN.mgn DN.kp DN.bn .nil pass0 (pa_cons (pv 0) (pa_cons (pv 1) pa_nil))) (pa_cons (pe_call DT.ok hr1 rfl DT.mgn DT.kp DT.bn .nil pass0 (pa_cons (pv 0) (pa_cons pe_int pa_nil))) (pa_cons pe_dnewK pa_nil))))
        (pg_tup rfl (pgs_cons (pg_name (i := 2) scPa.nd rfl (.inl rfl)) (pgs_cons (pg_name (i := 3) scPa.nd rfl (.inl rfl)) (pgs_cons (pg_name (i := 4) scPa.nd rfl (.inr rfl)) pgs_nil)))))
      (pss_cons (ps_for PassesOwn.never rfl (pi_enum rfl T.enu (pa_cons (pv 2) pa_nil)) (pg_tup rfl (pgs_cons (pg_name (i := 5) scPa.nd rfl (.inl rfl)) (pgs_cons (pg_name (i := 6) scPa.nd rfl (.inl rfl)) pgs_nil)))
        (pss_cons (ps_dput hu (pv 4) (pv 6) (pe_call DP.ok hr2 rfl DP.mgn DP.kp DP.bn .nil pass0 (pa_cons (pv 0) (pa_cons (pe_op op_cat (pe_lst (pa_cons pe_str pa_nil)) (pe_slice sl_list (pv 2) po_none (po_some (pv 5)))) pa_nil))) rfl)
        (pss_cons (ps_if (pt_cmpR op_eq (pv 3) pe_int (nomark _)) (pss_one (ps_dput hu (pv 4) (pv 6) (pe_ix ix_list (pe_op op_cat (pe_lst (pa_cons pe_str pa_nil)) (pv 2)) (pv 5) (fun _ _ => rfl)) rfl)) pss_nil)
        (pss_one (ps_if (pt_cmpR op_eq (pv 3) pe_int (nomark _)) (pss_one (ps_dput hu (pv 4) (pv 6) (pe_ix ix_list (pe_op op_cat (pe_lst (pa_cons pe_str (pa_cons pe_str pa_nil))) (pv 2)) (pv 5) (fun _ _ => rfl)) rfl)) pss_nil)))))
      (pss_one (ps_ret (pe_callTy (call_dictP rfl) (by rfl) T.dct (by decide +kernel) (pa_cons (pe_lc (own := [("_law_flag", 6)]) (g := gName 6) (tt := tYes) (te := tTup (tCons (tVar 6) (tCons (tDGet (tVar 4) (tVar 6)) tNil))) rfl scPa.nd (pi_list (pe_call DO.ok hr2 rfl DO.mgn DO.kp DO.bn .nil pass0 (pa_cons (pv 0) (pa_cons (pv 2) pa_nil))))
        (blkOk_by (N := NPa) (sc := defScope s__law_parents) (by decide +kernel))
        (fun _ _ _ _ _ => pg_name (i := 6) scPa.nd rfl (Or.inl rfl)) (fun _ _ _ _ _ => pts_nil) (fun _ _ _ _ _ => pe_tup (pa_cons (pv 6) (pa_cons (pe_dget hu (pv 4) (pv 6) (fun _ _ => rfl)) pa_nil)))) pa_nil))))), ?_⟩
    refine ⟨_, rfl, _, rfl, d, c, n, rfl, hD, n1, n12, fun pn fs H1 ln nd ok sok npn hn dr1 k1 => ?_⟩
    have pnd := hD.apart npn
    refine ⟨_, rfl, d, c, 5, rfl, dr1, by decide, by decide, fun way H2 w0 w5 dr2 k2 q nq => ⟨by show 3 ≤ sizeLine; omega, fun tp ntp => ⟨tp, _, rfl, .inl (.inl upd_same), rfl, ?_⟩⟩⟩
    have hn2 := k2 pn _ pnd.1 pnd.2 hn
    have K2 : Keep d c H H2 := k1.trans k2
    obtain ⟨H3, e3⟩ : ∃ X, X = upd (upd H2 q (.dK [])) tp (.tup [.ref pn, .int way, .ref q]) := ⟨_, rfl⟩
    have s23 : Same H2 H3 := e3 ▸ (same_new nq).trans (same_new ntp)
    have dr3 := dr2.mono s23
    have qd := dr2.apart nq
    have hq3 : H3 q = some (.dK []) := by rw [e3]; exact same_new ntp _ _ upd_same
    have hn3 := s23 _ _ hn2
    rw [← e3]
    have nq0 : H q = none := K2.free nq qd.1 qd.2
    refine ⟨_, _, rfl, _, _, rfl, _, _, rfl, rfl, ?_⟩
    refine ⟨_, rfl, pn, fs.map V.str, rfl, SqL.of hn3, ?_⟩
    refine for_it walk_enum (fun j σ' H' => (∃ u5 u6, σ' = [some (.ref d), some (.int (n : Int)), some (.ref pn), some (.int way), some (.ref q), u5, u6]) ∧ DrawAt H' d c ∧ H' pn = some (.lst (fs.map V.str)) ∧ Keep d c H H' ∧
      ∃ t : List (Str × Str), H' q = some (.dK (prs t)) ∧ t.map Prod.fst = fs.take j ∧ ∀ (i : Nat) (p : Str × Str), t[i]? = some p → p.2 = "" ∨ p.2 ∈ fs.take i)
      ⟨⟨_, _, rfl⟩, dr3, hn3, K2.trans (Keep.of_same s23), [], hq3, by rw [List.take_zero] <;> rfl, fun i p h => by simp at h⟩ (fun j σ' H' _ q => SqL.of q.2.2.1) ?_ ?_
    · intro j TT σ' Ha Hb hj ⟨⟨u5, u6, e⟩, da, hna, ka, t, hq, et, up⟩ ⟨T', y, z, eT, nT, eH, ey, ez⟩
      subst e
      subst eT
      subst eH
      cases ey
      rw [List.length_map] at hj
      obtain ⟨f, hf, rfl⟩ := map_of (show (fs.map V.str)[j]? = some z from ez)
      have tlen := congrArg List.length et
      rw [List.length_map, List.length_take] at tlen
      have fresh : f ∉ t.map Prod.fst := fresh_at nd hf et
      obtain ⟨H4, e4⟩ : ∃ X, X = upd Ha T' (.tup [.int (j : Int), .str f]) := ⟨_, rfl⟩
      have sT : Same Ha H4 := e4 ▸ same_new nT
      have a4 : H4 T' = some (.tup [.int (j : Int), .str f]) := by rw [e4]; exact upd_same
      rw [← e4]
      have hna4 := sT _ _ hna
      have hq4 := sT _ _ hq
      have da4 := da.mono sT
      refine ⟨T', _, rfl, .inl (.inl a4), rfl, ?_⟩
      refine ⟨_, _, rfl, _, _, rfl, rfl, ?_⟩
      -- the drawn parent
      refine ⟨_, rfl, by show 1 ≤ sizeLine; omega, fun p1 m1 => ⟨_, rfl, _, rfl, _, rfl, pn, fs.map V.str, rfl, SqL.of (by rw [upd_ne (ne_of_none hna4 m1)]; exact hna4), fun p2 m2 => ⟨p1, p2, [.str ""], _, rfl, rfl, by rw [upd_ne (ne_of_none upd_same m2), upd_same], upd_same, ?_, fun pa ma => ?_⟩⟩⟩
      · have := cutV_length (fs.map V.str) none (some (j : Int))
        rw [List.length_map] at this
        show 1 + _ ≤ sizeLine
        omega
      rw [cut_take (by rw [List.length_map]; omega), ← List.map_take] at ma ⊢
      obtain ⟨H5, e5⟩ : ∃ X, X = upd (upd (upd H4 p1 (.lst [.str ""])) p2 (.lst ((fs.take j).map V.str))) pa (.lst ([.str ""] ++ (fs.take j).map V.str)) := ⟨_, rfl⟩
      have s5 : Same H4 H5 := e5 ▸ ((same_new m1).trans (same_new m2)).trans (same_new ma)
      have at5 : H5 pa = some (.lst ((("" : Str) :: fs.take j).map V.str)) := by rw [e5, upd_same] <;> rfl
      have pad : pa ≠ d ∧ pa ≠ c := ((da4.mono (same_new m1)).mono (same_new m2)).apart ma
      rw [← e5]
      have dr5 := da4.mono s5
      refine ⟨d, c, _, (("" : Str) :: fs.take j).length, (fun _ x => ∃ z, x = .str z ∧ z ∈ (("" : Str) :: fs.take j)), rfl, dr5, .inl ⟨pa, _, rfl, pad.1, pad.2, at5, by rw [List.length_map], items_strs fun z hz => hz⟩, Nat.succ_pos _, by rw [List.length_cons, List.length_take]; omega, fun i x H6 px dr6 k6 => ?_⟩
      obtain ⟨z, rfl, mz⟩ := px
      have hz0 : z = "" ∨ z ∈ fs.take j := List.mem_cons.mp mz
      have hq6 := k6 q _ qd.1 qd.2 (s5 _ _ hq4)
      have hn6 := k6 pn _ pnd.1 pnd.2 (s5 _ _ hna4)
      refine ⟨_, rfl, _, rfl, q, _, rfl, DPut.k (k := Sum.inr f) hq6 (by rw [prs_len]; omega), ?_⟩
      rw [put_new fresh]
      have K6 : Keep d c H H6 := ((ka.trans (Keep.of_same sT)).trans (Keep.of_same s5)).trans k6
      obtain ⟨H7, e7⟩ : ∃ X, X = upd H6 q (.dK (prs (t ++ [(f, z)]))) := ⟨_, rfl⟩
      have hq7 : H7 q = some (.dK (prs (t ++ [(f, z)]))) := by rw [e7]; exact upd_same
      have dr7 : DrawAt H7 d c := by rw [e7]; exact dr6.off qd.1 qd.2
      have qn : pn ≠ q := ne_of hn6 hq6 (by intro z; cases z)
      have hn7 : H7 pn = some (.lst (fs.map V.str)) := by rw [e7, upd_ne qn]; exact hn6
      have K7 : Keep d c H H7 := by rw [e7]; exact K6.put nq0
      rw [← e7]
      have lj : j < fs.length := by omega
      -- an item of the list with roots in front
      have row : ∀ (m : Nat) (hm : 1 ≤ m), ∃ zz, ((List.replicate m (V.str "")) ++ fs.map V.str)[j]? = some (.str zz) ∧ (zz = "" ∨ zz ∈ fs.take j) := fun m hm => by
        by_cases lt : j < m
        · exact ⟨"", by rw [List.getElem?_append_left (by rw [List.length_replicate]; exact lt), List.getElem?_replicate, if_pos lt], .inl rfl⟩
        · refine ⟨fs[j - m]'(by omega), ?_, .inr ?_⟩
          · rw [List.getElem?_append_right (by rw [List.length_replicate]; omega), List.length_replicate, List.getElem?_map, List.getElem?_eq_getElem (by omega)] <;> rfl
          · rw [List.mem_take_iff_getElem]
            exact ⟨j - m, by omega, rfl⟩
      -- the end of a turn
      have fin : ∀ (z' : Str) (H' : Hp), (z' = "" ∨ z' ∈ fs.take j) → DrawAt H' d c → H' pn = some (.lst (fs.map V.str)) → Keep d c H H' → H' q = some (.dK (prs (t ++ [(f, z')]))) →
          (∃ u5 u6, ([some (.ref d), some (.int (n : Int)), some (.ref pn), some (.int way), some (.ref q), some (.int (j : Int)), some (.str f)] : St) = [some (.ref d), some (.int (n : Int)), some (.ref pn), some (.int way), some (.ref q), u5, u6]) ∧ DrawAt H' d c ∧ H' pn = some (.lst (fs.map V.str)) ∧ Keep d c H H' ∧
          ∃ t : List (Str × Str), H' q = some (.dK (prs t)) ∧ t.map Prod.fst = fs.take (j + 1) ∧ ∀ (i : Nat) (p : Str × Str), t[i]? = some p → p.2 = "" ∨ p.2 ∈ fs.take i := fun z' H' hz' d' n' k' q' => by
        refine ⟨⟨_, _, rfl⟩, d', n', k', t ++ [(f, z')], q', by rw [List.map_append, et, take_more hf] <;> rfl, fun i p h => ?_⟩
        by_cases hi : i < t.length
        · rw [List.getElem?_append_left hi] at h
          exact up i p h
        · have hl := (List.getElem?_eq_some_iff.mp h).1
          rw [List.length_append] at hl
          have one : ([(f, z')] : List (Str × Str)).length = 1 := rfl
          have ei : i = t.length := by omega
          subst ei
          rw [List.getElem?_append_right (Nat.le_refl _), Nat.sub_self] at h
          have ep : (f, z') = p := Option.some.inj h
          subst ep
          rw [show t.length = j by omega]
          exact hz'
      refine ⟨_, rfl, rfl, _, rfl, ?_⟩
      refine ite2 (fun y0 => ?_) (fun n0 => ?_)
      · -- a chain
        have e0 : way = 0 := V.int.inj (of_decide_eq_true y0)
        subst e0
        obtain ⟨zz, hz, hz'⟩ := row 1 (Nat.le_refl _)
        refine ⟨by show 1 ≤ sizeLine; omega, fun p1 m1 => ⟨_, rfl, p1, pn, [.str ""], fs.map V.str, rfl, rfl, upd_same, by rw [upd_ne (ne_of_none hn7 m1)]; exact hn7, by rw [List.length_map]; show 1 + _ ≤ sizeLine; omega, fun p2 m2 => ?_⟩⟩
        obtain ⟨H8, e8⟩ : ∃ X, X = upd (upd H7 p1 (.lst [.str ""])) p2 (.lst ([.str ""] ++ fs.map V.str)) := ⟨_, rfl⟩
        have s8 : Same H7 H8 := e8 ▸ (same_new m1).trans (same_new m2)
        have a8 : H8 p2 = some (.lst ([.str ""] ++ fs.map V.str)) := by rw [e8]; exact upd_same
        rw [← e8]
        refine ⟨_, rfl, p2, _, _, .str zz, rfl, rfl, SqL.of a8, atI_nat hz, ?_⟩
        have hq8 := s8 _ _ hq7
        refine ⟨_, rfl, _, rfl, q, _, rfl, DPut.k (k := Sum.inr f) hq8 (by rw [prs_len, List.length_append]; show _ + 1 < _; omega), ?_⟩
        rw [put_old fresh]
        refine ⟨_, rfl, rfl, _, rfl, iteF ?_⟩
        exact fin zz _ hz' ((dr7.mono s8).off qd.1 qd.2) (by rw [upd_ne qn]; exact s8 _ _ hn7) ((K7.trans (Keep.of_same s8)).put nq0) upd_same
      · refine ⟨_, rfl, rfl, _, rfl, ?_⟩
        refine ite2 (fun y1 => ?_) (fun n1 => ?_)
        · -- two chains
          have e0 : way = 1 := V.int.inj (of_decide_eq_true y1)
          subst e0
          obtain ⟨zz, hz, hz'⟩ := row 2 (by omega)
          refine ⟨by show 2 ≤ sizeLine; omega, fun p1 m1 => ⟨_, rfl, p1, pn, [.str "", .str ""], fs.map V.str, rfl, rfl, upd_same, by rw [upd_ne (ne_of_none hn7 m1)]; exact hn7, by rw [List.length_map]; show 2 + _ ≤ sizeLine; omega, fun p2 m2 => ?_⟩⟩
          obtain ⟨H8, e8⟩ : ∃ X, X = upd (upd H7 p1 (.lst [.str "", .str ""])) p2 (.lst ([.str "", .str ""] ++ fs.map V.str)) := ⟨_, rfl⟩
          have s8 : Same H7 H8 := e8 ▸ (same_new m1).trans (same_new m2)
          have a8 : H8 p2 = some (.lst ([.str "", .str ""] ++ fs.map V.str)) := by rw [e8]; exact upd_same
          rw [← e8]
          refine ⟨_, rfl, p2, _, _, .str zz, rfl, rfl, SqL.of a8, atI_nat hz, ?_⟩
          have hq8 := s8 _ _ hq7
          refine ⟨_, rfl, _, rfl, q, _, rfl, DPut.k (k := Sum.inr f) hq8 (by rw [prs_len, List.length_append]; show _ + 1 < _; omega), ?_⟩
          rw [put_old fresh]
          exact fin zz _ hz' ((dr7.mono s8).off qd.1 qd.2) (by rw [upd_ne qn]; exact s8 _ _ hn7) ((K7.trans (Keep.of_same s8)).put nq0) upd_same
        · exact fin z H7 hz0 dr7 hn7 K7 hq7
    · intro σ' H4 ⟨⟨u5, u6, e⟩, da, hna, ka, t, hq, et, up⟩
      subst e
      rw [List.length_map, List.take_length] at et
      have lt := congrArg List.length et
      rw [List.length_map] at lt
      have tr : TreeOk t := tree_of (by omega) (by omega) (by rw [et]; exact nd) (by rw [et]; exact ok) (by rw [et]; exact up)
      refine ⟨_, rfl, _, rfl, d, c, pn, fs, rfl, da, .inl (SqL.of hna), by omega, sok, fun r ys H5 pm nr er d5 k5 => ⟨r, rfl, ⟨_, SqL.of er⟩, fun D nD => ?_⟩⟩
      have hq5 := k5 q _ qd.1 qd.2 hq
      have rd := da.apart nr
      have Dd := d5.apart nD
      have ly := pm.length_eq
      refine lc_it walk_list (fun i H' => Same H5 H' ∧ ∃ rs : List Addr, H' D = some (.lst (rs.map V.ref)) ∧ PrG (fun a => .str ((par t a).getD "")) H' rs (ys.take i)) ⟨same_new nD, [], upd_same, .nil⟩ (fun i H' _ z => SqL.of (z.1 _ _ er)) ?_ ?_
      · intro i y Ha Hb hi ⟨q1, rs, hD, pr⟩ ⟨eb, ex⟩
        subst eb
        obtain ⟨a, ha, rfl⟩ := map_of ex
        have ma : a ∈ t.map Prod.fst := by rw [et]; exact pm.mem_iff.mp (List.mem_of_getElem? ha)
        obtain ⟨pa, hp⟩ := par_some tr.nd ma
        have lr := pr.len
        rw [List.length_take] at lr
        refine ⟨rfl, ?_⟩
        refine ⟨_, rfl, _, rfl, _, rfl, q, .str pa, rfl, ?_, by show 2 ≤ sizeLine; omega, fun tq ntq => ?_⟩
        · have z := DGet.k (k := Sum.inr a) (q1 _ _ hq5)
          rw [val_prs, hp] at z
          exact z
        · have sq : Same Hb (upd Hb tq (.tup [.str a, .str pa])) := same_new ntq
          refine ⟨_, sq _ _ hD, by rw [List.length_map]; omega, (q1.trans sq).put nD, rs ++ [tq], by rw [upd_same, List.map_append] <;> rfl, ?_⟩
          rw [take_more ha]
          refine PrG.push (sq _ _ hD) (PrG.snoc ?_ (pr.mono sq))
          rw [upd_same, hp] <;> rfl
      · intro H6 ⟨q1, rs, hD, pr⟩
        rw [List.length_map, List.take_length] at pr
        refine ⟨D, rs, _, rfl, SqL.of hD, pr.kvs, fun p np => ?_⟩
        have ndy : ys.Nodup := pm.nodup_iff.mpr nd
        rw [merge_nd (by rw [map_fst]; exact ndy)]
        have K5 : Keep d c H H6 := (ka.trans k5).trans (Keep.of_same q1)
        have d6 := d5.mono q1
        have pd := d6.apart np
        have pairs : (ys.map fun a => (a, (par t a).getD "")).Perm t := by
          refine perm_pairs tr.nd ?_ fun x hx => ?_
          · rw [List.map_map, et]
            have e : (Prod.fst ∘ fun a : Str => (a, (par t a).getD "")) = id := rfl
            rw [e, List.map_id]
            exact pm
          · obtain ⟨a, ha, rfl⟩ := List.mem_map.mp hx
            obtain ⟨pa, hp⟩ := par_some tr.nd (show a ∈ t.map Prod.fst by rw [et]; exact pm.mem_iff.mp ha)
            rw [hp]
            exact par_mem hp
        refine k p (ys.map fun a => (a, (par t a).getD "")) _ (tr.perm pairs.symm) (by rw [List.length_map]; omega) (K5.free np pd.1 pd.2) ?_ (d6.mono (same_new np)) (K5.trans (Keep.of_same (same_new np)))
        rw [upd_same]
        unfold prs
        rw [List.map_map] <;> rfl
end
end FT


/-! feasible sizes, dealt out name by name (plain maths) -/
namespace FT
open PySem L2 TL ClX
/-! ### sizes that are drawn -/
theorem szOf_tbl {l : List Str} {sz : Str → Int} {a : Str} (h : a ∈ l) : szOf (tblI l sz) a = sz a := by
  unfold szOf
  rw [tblI_val h]
theorem kids_sub {t : List (Str × Str)} {p a : Str} (h : a ∈ kids t p) : a ∈ t.map Prod.fst := by
  obtain ⟨q, hq, rfl⟩ := List.mem_map.mp h
  exact List.mem_map.mpr ⟨q, (List.mem_filter.mp hq).1, rfl⟩
theorem resid_congr {t : List (Str × Str)} {n : Int} {sz sz' : Str → Int} {p : Str} (h : ∀ a ∈ t.map Prod.fst, sz a = sz' a) (hp : p = "" ∨ sz p = sz' p) : resid t n sz p = resid t n sz' p := by
  unfold resid
  rw [List.map_congr_left fun a ha => h a (kids_sub ha)]
  by_cases e : p = ""
  · rw [if_pos e, if_pos e]
  · rw [if_neg e, if_neg e, hp.resolve_left e]
/-- feasible sizes for n users -/
structure Fea (t : List (Str × Str)) (n : Int) (sz : Str → Int) : Prop where
  nn : ∀ a ∈ t.map Prod.fst, 0 ≤ sz a
  res : ∀ p ∈ (("" : Str) :: t.map Prod.fst), 0 ≤ resid t n sz p
theorem Fea.perm {t u : List (Str × Str)} {n : Int} {sz : Str → Int} (p : t.Perm u) (f : Fea t n sz) : Fea u n sz :=
  ⟨fun a ha => f.nn a ((p.map _).mem_iff.mpr ha), fun q hq => by rw [← resid_perm p]; exact f.res q ((List.mem_cons.mp hq).elim (fun e => e ▸ List.mem_cons_self ..) fun m => List.mem_cons_of_mem _ ((p.map Prod.fst).mem_iff.mpr m))⟩
theorem Fea.ok {CS : Addr} {ts : List (Str × Str)} {n : Int} {sz : Str → Int} {l : List Str} (f : Fea ts n sz) (p : l.Perm (ts.map Prod.fst)) : feE CS ts n (some (tblI l sz)) = none := by
  have e1 : ∀ a ∈ ts.map Prod.fst, valV (tblI l sz) (Sum.inr a) = some (.int (sz a)) := fun a ha => tblI_val (p.mem_iff.mpr ha)
  have ll := p.length_eq
  rw [List.length_map] at ll
  unfold feE
  rw [feas_some, if_neg (by rw [tblI_len]; exact fun z => z ll), if_neg]
  · have e2 : (ts.map Prod.fst).find? (badKey (tblI l sz)) = none := List.find?_eq_none.mpr fun a ha z => by
      unfold badKey at z
      rw [e1 a ha] at z
      have z' : (!decide ((0 : Int) ≤ sz a)) = true := z
      rw [decide_eq_true (f.nn a ha)] at z'
      cases z'
    rw [e2]
    have e3 : ((("" : Str) :: ts.map Prod.fst).find? fun p => decide (resid ts n (szOf (tblI l sz)) p < 0)) = none := List.find?_eq_none.mpr fun q hq z => by
      have z' := of_decide_eq_true z
      rw [resid_congr (sz' := sz) (fun a ha => szOf_tbl (p.mem_iff.mpr ha)) ((List.mem_cons.mp hq).imp id fun h => szOf_tbl (p.mem_iff.mpr h))] at z'
      have := f.res q hq
      omega
    show Option.map _ (Option.map V.str (List.find? _ _)) = none
    rw [e3] <;> rfl
  · intro z
    have : ((ts.map Prod.fst).all fun a => (valV (tblI l sz) (Sum.inr a)).isSome) = true := List.all_eq_true.mpr fun a ha => by rw [e1 a ha] <;> rfl
    rw [this] at z
    cases z
/-- what has been dealt out -/
structure Dealt (t : List (Str × Str)) (n : Int) (l : List Str) (t' : List (Str × Str)) (sz : Str → Int) : Prop where
  keys : t'.map Prod.fst = l
  sub : ∀ p ∈ t', p ∈ t
  par_ : ∀ p ∈ t', p.2 = "" ∨ p.2 ∈ l
  nn : ∀ a ∈ l, 0 ≤ sz a
  res : ∀ p ∈ (("" : Str) :: l), 0 ≤ resid t' n sz p
  top_ : ∀ p ∈ (("" : Str) :: l), resid t' n sz p ≤ n
theorem Dealt.nil {t : List (Str × Str)} {n : Int} {sz : Str → Int} (n0 : 0 ≤ n) : Dealt t n [] [] sz := by
  refine ⟨rfl, fun p h => (by cases h), fun p h => (by cases h), fun a h => (by cases h), fun p h => ?_, fun p h => ?_⟩
  · rw [List.mem_singleton.mp h]
    show 0 ≤ n - 0
    omega
  · rw [List.mem_singleton.mp h]
    show n - 0 ≤ n
    omega
theorem Dealt.step {t t' : List (Str × Str)} {n : Int} {l : List Str} {sz : Str → Int} (d : Dealt t n l t' sz) {a pa : Str} {z : Int} (na : a ∉ l) (ne : a ≠ "") (mt : (a, pa) ∈ t) (mp : pa = "" ∨ pa ∈ l) (z0 : 0 ≤ z) (z1 : z ≤ resid t' n sz pa) :
    Dealt t n (l ++ [a]) (t' ++ [(a, pa)]) (fun x => if x = a then z else sz x) ∧
    (∀ p ∈ (("" : Str) :: (l ++ [a])), resid (t' ++ [(a, pa)]) n (fun x => if x = a then z else sz x) p = if p = pa then resid t' n sz pa - z else if p = a then z else resid t' n sz p) := by
  have kid : kids t' a = [] := by
    unfold kids
    rw [List.filter_eq_nil_iff.mpr fun q hq z => ?_] <;> try rfl
    have e := of_decide_eq_true z
    rcases d.par_ q hq with h | h
    · exact ne (e.symm.trans h)
    · exact na (by rw [← e]; exact h)
  have pne : pa ≠ a := fun e => mp.elim (fun h => ne (e.symm.trans h)) fun h => na (by rw [← e]; exact h)
  have old : ∀ p, p ≠ a → resid t' n (fun x => if x = a then z else sz x) p = resid t' n sz p := fun p hp =>
    resid_congr (fun x hx => if_neg fun e => na (by rw [← e, ← d.keys]; exact hx)) (.inr (if_neg hp))
  have eq : ∀ p ∈ (("" : Str) :: (l ++ [a])), resid (t' ++ [(a, pa)]) n (fun x => if x = a then z else sz x) p = if p = pa then resid t' n sz pa - z else if p = a then z else resid t' n sz p := fun p _ => by
    rw [resid_snoc]
    by_cases h1 : p = pa
    · rw [if_pos h1.symm, if_pos h1, old p (by rw [h1]; exact pne), h1]
      show _ - (if a = a then z else sz a) = _
      rw [if_pos rfl]
    · rw [if_neg (fun e => h1 e.symm), if_neg h1]
      by_cases h2 : p = a
      · rw [if_pos h2, h2]
        unfold resid
        rw [kid, if_neg ne]
        show (if a = a then z else sz a) - 0 = z
        rw [if_pos rfl]
        omega
      · rw [if_neg h2, old p h2]
  refine ⟨⟨by rw [List.map_append, d.keys] <;> rfl, fun p hp => ?_, fun p hp => ?_, fun x hx => ?_, fun p hp => ?_, fun p hp => ?_⟩, eq⟩
  · rcases List.mem_append.mp hp with h | h
    · exact d.sub p h
    · rw [List.mem_singleton.mp h]
      exact mt
  · rcases List.mem_append.mp hp with h | h
    · exact (d.par_ p h).imp id fun m => List.mem_append_left _ m
    · rw [List.mem_singleton.mp h]
      exact mp.imp id fun m => List.mem_append_left _ m
  · show 0 ≤ if x = a then z else sz x
    by_cases e : x = a
    · rw [if_pos e]
      exact z0
    · rw [if_neg e]
      exact d.nn x ((List.mem_append.mp hx).resolve_right fun m => e (List.mem_singleton.mp m))
  · rw [eq p hp]
    by_cases h1 : p = pa
    · rw [if_pos h1]
      omega
    · rw [if_neg h1]
      by_cases h2 : p = a
      · rw [if_pos h2]
        exact z0
      · rw [if_neg h2]
        refine d.res p ((List.mem_cons.mp hp).elim (fun e => e ▸ List.mem_cons_self ..) fun m => List.mem_cons_of_mem _ ?_)
        exact (List.mem_append.mp m).resolve_right fun m => h2 (List.mem_singleton.mp m)
  · rw [eq p hp]
    have tp := d.top_ pa (List.mem_cons.mpr mp)
    by_cases h1 : p = pa
    · rw [if_pos h1]
      omega
    · rw [if_neg h1]
      by_cases h2 : p = a
      · rw [if_pos h2]
        omega
      · rw [if_neg h2]
        refine d.top_ p ((List.mem_cons.mp hp).elim (fun e => e ▸ List.mem_cons_self ..) fun m => List.mem_cons_of_mem _ ?_)
        exact (List.mem_append.mp m).resolve_right fun m => h2 (List.mem_singleton.mp m)
end FT


/-! Own: repr over the layer. repr asks what calls of repr are under way (A.guards), and the layer's contracts do not tell it: a contract FnG that tells it too, its rule for a def's body, its call, the end. -/
namespace L2
open PySem PySem.Spec PyProof.Rows
/-- no repr is under way -/
abbrev Clr (A : Around) : Prop := A.guards = some []
theorem Clr.deeper {A : Around} {env : Env} (h : Clr A) : Clr (A.deeper env) := by
  have h' : A.guards = some [] := h
  show (A.deeper env).guards = some []
  first
    | exact h'
    | (simp [Around.deeper, h', pushGuards, Code.guards, Code.isGuard])
structure FnG (P : Program) (w : World) (K : PySem.W.Frag) (mg : Str → Option Value) (base : Heap) (CX : CXT) (k : Nat) (f : Addr) (fd : FuncData) (ps : List Str) (sp : Sp) : Prop where
  len : ∀ vs H Q E, sp vs H Q E → vs.length = ps.length
  run : ∀ (A : Around) (outer : List Env) (s : Shared) (H : Hp) (args : Args) (us : List Value) (vs : List V) (Q : VK) (E : XK), Clr A → Room k A → Env0 P w K mg base A outer s H → BindsTo s fd args (ps.zip us) → Vals vs us → sp vs H Q E →
    codeAny (model P w) A (.call (.ref f) args) (CR CX outer P w H s Q E) s
theorem FnOk.g {P : Program} {w : World} {K : PySem.W.Frag} {mg : Str → Option Value} {base : Heap} {CX : CXT} {k : Nat} {f : Addr} {fd : FuncData} {ps : List Str} {sp : Sp} (F : FnOk P w K mg base CX k f fd ps sp) : FnG P w K mg base CX k f fd ps sp :=
  ⟨F.len, fun A outer s H args us vs Q E _ => F.run A outer s H args us vs Q E⟩
section
variable {P : Program} {w : World} {K : PySem.W.Frag} {mg : Str → Option Value} {base : Heap}
/-- a def by its body, where nothing is raised out of it -/
theorem Fun.okG {x qual : Str} {st : Stmt} {f : Addr} {fd : FuncData} {N ps : List Str} {k : Nat} {sp : Sp} (F : Fun K x qual st f fd) (S : FnScope N ps (defScope st)) (len : ∀ vs H Q E, sp vs H Q E → vs.length = ps.length)
    (body : ∀ (cdv : Value) (A : Around) (outer : List Env) (s : Shared) (H : Hp) (vs : List V) (Q : VK) (E : XK), Clr A → Room k (A.deeper (envOfC qual (defScope st) s.heap.objs.size f cdv)) → sp vs H Q E →
      ∃ t, PSs (cxOf CX0 P w K mg base N qual (defScope st) f cdv A outer s H E).nox (defBody st) t ∧ t { nx := fun _ H' => Q .non H', rt := Q } (start N vs) H) : FnG P w K mg base CX0 (k + 1) f fd ps sp := by
  obtain ⟨oc, od, kV, doc, pm, an, cdv, ct, osl, rfl, lk, code⟩ := F.ex
  refine ⟨len, fun A outer s H args us vs Q E clr room e0 binds rel want => ?_⟩
  have nps := len _ _ _ _ want
  have KX : K.In s.heap := e0.mod.kin.keeps fun b o e => (e0.bs b o e).1
  have lim : s.heap.NoLimit := e0.mod.nolimit.keeps fun b o e => (e0.bs b o e).1
  refine codeAny_call_function room.depth (KX _ _ lk) rfl S.co S.gen rfl (PySem.W.codeRec_of KX code) (binds _ _ _ _ (wpAny_newFunctionEnv_cells S.kind (fun y hy => ?_) fun env he s1 x => ?_))
  · obtain ⟨n, v⟩ := y
    exact (S.par n (List.of_mem_zip hy).1).elim .inl fun q => .inr ⟨q, PySem.W.cellsFrom_some _ _ _ (.inl q)⟩
  · subst he
    obtain ⟨t, term, q⟩ := body cdv A outer s H vs Q E clr (room.deeper _) want
    have I : Inv (cxOf CX0 P w K mg base N qual (defScope st) f cdv A outer s H E) [] (start N vs) H s1 := inv_start S room.hd e0 nps rel x
    refine ⟨lim.keeps x.toInCall.keep, codeAny_func (wpAny_mono (term.nox.run [] s1 (start N vs) H _ I q) (fun fl s' z => ?_) fun _ _ z => z)⟩
    match fl, z with
    | .ret u, ⟨v, _, H', J, rv, q⟩ => exact ⟨v, H', J.os, J.bare, J.base, J.hok, rv, q⟩
    | .next, ⟨_, H', J, q⟩ => exact ⟨.non, H', J.os, J.bare, J.base, J.hok, rfl, q⟩
    | .brk, ⟨_, _, _, q⟩ => exact q.elim
    | .cont, ⟨_, _, _, q⟩ => exact q.elim
end
section
variable {X : Cx} {CX : CXT} {k : Nat} {f : Addr} {fd : FuncData} {ps : List Str} {sp : Sp} {dvs : List V} {ds : List Value} {E : XK} {x : Str} {p pos : Pos} {e : Expr} {es : List Expr} {t : TA}
/-- f(e, ..), f of such a contract -/
theorem pe_callG (F : FnG X.prog X.w X.K X.mg X.base CX k f fd ps sp) (clr : Clr X.A) (hr : Room k X.A) (hg : Gl X x) (hm : X.mg x = some (.ref f)) (hk : PySem.W.keepIn X.K (.ref f) = true) (hb : Binds X.K fd ps ds) (hd : Vals dvs ds) (hx : Passes CX X E)
    (ha : PA X (e :: es) t) (dbg : (x == ("__debug__" : Str)) = false := by decide) (one : starEach (e :: es) X.env = (false, eval e X.env) :: starEach es X.env := by rfl) (plain : (backTo pos (starEach es X.env)).any (·.1) = false := by rfl) :
    PE X (.Call (.Name x p) (e :: es) [] pos) (tCall sp dvs E t) := by
  refine ⟨fun pins s σ H Q I h => wpAny_Call_Name_kw (ld_glob I hg hm ?_ dbg)⟩
  refine PySem.W.callWith_K (h₀ := X.base) I.ok.mod.kin hk (thn (ha.run pos pins s σ H _ I h) fun us s1 ⟨vs, H1, J, rel, want⟩ => ⟨J.kIn, ?_⟩) one plain
  have r2 : Vals (vs ++ dvs) (us ++ ds) := rel.append hd
  have len : (us ++ ds).length = ps.length := r2.length.symm.trans (F.len _ _ _ _ want)
  refine wpAny_call (codeAny_mono (F.run X.A X.stack s1 H1 ⟨us, []⟩ (us ++ ds) (vs ++ dvs) Q E clr hr J.env0 (hb s1 us J.kIn len) r2 want) fun r s' z => ?_)
  match r, z with
  | .error er, z => exact hx pins σ H1 s1 er s' J z
  | .ok (.ret u), z => exact J.after z
  | .ok .next, z => exact z.elim
  | .ok .brk, z => exact z.elim
  | .ok .cont, z => exact z.elim
/-! ### repr -/
/-- what is shown: data without dicts, or the empty dict -/
def Shw (K : PySem.W.Frag) (H : Hp) (x : V) (d : PyData) : Prop := (Dp K H x d ∧ d.hasDict = false) ∨ ∃ a, x = .ref a ∧ H a = some (.dK []) ∧ d = .dict []
def rRepr (K : PySem.W.Frag) : List V → Hp → VK → Prop := fun xs H Q => ∃ (x : V) (d : PyData), xs = [x] ∧ Shw K H x d ∧ d.showable = true ∧ d.depth ≤ 60 ∧ d.shown.length ≤ sizeLine ∧ Q (.str d.shown) H
theorem Shw.reads {pins : List (Addr × Obj)} {σ : St} {H : Hp} {s : Shared} {x : V} {u : Value} {d : PyData} (h : Shw X.K H x d) (I : Inv X pins σ H s) (r : RelV x u) : ∃ as, Reads s.heap u d as ∧ (d.hasDict = true → sysModules ∉ as) := by
  rcases h with ⟨h, nd⟩ | ⟨a, rfl, e, rfl⟩
  · obtain ⟨as, q⟩ := Dp.reads I d x u h r
    exact ⟨as, q, PyData.noDict_hsm nd⟩
  · obtain rfl : u = Value.ref a := r
    obtain ⟨_, ns, vs, kv, o, es, ep, h1, h2, h3, h4⟩ := (show ObjOk X.prog X.w H s.heap a (.dK []) from I.hok a _ e)
    cases kv
    have hes : es.toList = [] := by
      obtain ⟨_, h5, _⟩ := h4
      revert h5
      generalize es.toList = l
      intro h5
      cases h5
      rfl
    refine ⟨a :: [] ++ [], .dict h1 h2.1 h3 (by rw [hes]; exact .nil) (by rw [hes]; exact .nil), fun _ hm => ?_⟩
    have hm' : sysModules = a := by simpa using hm
    rw [hm'] at ns
    simp at ns
theorem call_repr (clr : Clr X.A) (hu : X.A.units + 64 < cLine) : CallR X (.builtin "repr") (rRepr X.K) := by
  intro pins s σ H xs us Q I r h
  obtain ⟨x, d, rfl, sh, ok, dep, few, q⟩ := h
  obtain ⟨u, rfl, ru⟩ := vals1 r
  obtain ⟨as, rd, sm⟩ := sh.reads I ru
  have fin : ∀ h' (t : Tok) tk, (∀ b o, s.heap.get? b = some o → h'.get? b = some o) → EP X pins σ Q (.str d.shown t) { s with heap := h', toks := tk } := fun h' t tk kp => ⟨.str d.shown, H, I.kept kp, ⟨t, rfl⟩, q⟩
  cases u with
  | ref a => exact repr_of_reads' rd ok sm clr (by omega) (fun _ _ z => z) fin few
  | none => cases rd; exact PySem.P.repr_of_none (fin _ _ _ fun _ _ z => z)
  | bool b => cases rd; exact PySem.P.repr_of_bool (fin _ _ _ fun _ _ z => z)
  | int i t => cases rd; exact PySem.P.repr_of_int (by simpa [PyData.showable] using ok) (fin _ _ _ fun _ _ z => z)
  | str y t => cases rd; exact PySem.P.repr_of_str (fin _ _ _ fun _ _ z => z) few
  | _ => cases rd
end
end L2


/-! Own: the end of a law's row from a contract FnG (the library's walk_of asks FnOk). -/
namespace L2
open PySem PySem.Spec PyProof.Rows
section
variable {P : Program} {w : World} {K : PySem.W.Frag} {mg mb : Str → Option Value} {k : Nat} {fa a : Addr} {fd : FuncData} {x : Str} {sp : Sp} {s : Shared} {vs : List Value} {ns : List Int}
/-- the abstract heap at the law's entry: the script alone, locked; or nothing, where the script is the module's own -/
abbrev Entry (K : PySem.W.Frag) (a : Addr) (H : Hp) : Prop := (∀ b, H b ≠ none → b = a) ∧ (H a ≠ none → K.lookup a = none)
end
end L2


/-! Own: defs that make lambdas (their code object known), and the end of a law's row from a contract FnG with tables of code objects. -/
namespace L2
open PySem PySem.Spec PyProof.Rows LamX
/-- as Fun, the code object's place told -/
structure FunC (K : PySem.W.Frag) (x qual : Str) (st : Stmt) (f : Addr) (fd : FuncData) (c : Addr) : Prop where
  ex : ∃ (oc : Value) (od : Option Addr) (kV doc pm : Value) (an : Option Addr) (ct : Value) (osl : Array (Option Value)),
    fd = PySem.W.fnOf x qual (defArgs st) (defBody st) (defScope st) .none kV doc pm an (.ref c) ct ∧ K.lookup f = some ⟨oc, od, .func fd, osl⟩ ∧ PySem.W.codeIn K (.ref c) qual = true
  kp : PySem.W.keepIn K (.ref f) = true
theorem FunC.fun {K : PySem.W.Frag} {x qual : Str} {st : Stmt} {f c : Addr} {fd : FuncData} (F : FunC K x qual st f fd c) : Fun K x qual st f fd :=
  let ⟨oc, od, kV, doc, pm, an, ct, osl, e1, e2, e3⟩ := F.ex
  ⟨⟨oc, od, kV, doc, pm, an, .ref c, ct, osl, e1, e2, e3⟩, F.kp⟩
theorem funC_mk {K : PySem.W.Frag} {x qual : Str} {st : Stmt} {f c : Addr} {oc : Value} {od an : Option Addr} {osl : Array (Option Value)} {kV doc pm ct : Value} (l : K.lookup f = some ⟨oc, od, .func (PySem.W.fnOf x qual (defArgs st) (defBody st) (defScope st) .none kV doc pm an (.ref c) ct), osl⟩)
    (e : PySem.W.codeIn K (.ref c) qual = true) (k : PySem.W.keepIn K (.ref f) = true) : FunC K x qual st f (PySem.W.fnOf x qual (defArgs st) (defBody st) (defScope st) .none kV doc pm an (.ref c) ct) c := ⟨⟨oc, od, kV, doc, pm, an, ct, osl, rfl, l, e⟩, k⟩
section
variable {P : Program} {w : World} {K : PySem.W.Frag} {mg : Str → Option Value} {base : Heap}
theorem FunC.ok {x qual : Str} {st : Stmt} {f c : Addr} {fd : FuncData} {N ps : List Str} {k : Nat} {sp : Sp} (F : FunC K x qual st f fd c) (S : FnScope N ps (defScope st)) (len : ∀ vs H Q E, sp vs H Q E → vs.length = ps.length)
    (body : ∀ (A : Around) (outer : List Env) (s : Shared) (H : Hp) (vs : List V) (Q : VK) (E : XK), Room k (A.deeper (envOfC qual (defScope st) s.heap.objs.size f (.ref c))) → sp vs H Q E →
      ∃ t, PSs (cxOf CX0 P w K mg base N qual (defScope st) f (.ref c) A outer s H E).nox (defBody st) t ∧ t { nx := fun _ H' => Q .non H', rt := Q } (start N vs) H) : FnOk P w K mg base CX0 (k + 1) f fd ps sp := by
  obtain ⟨oc, od, kV, doc, pm, an, ct, osl, rfl, lk, code⟩ := F.ex
  refine fn_of lk code S len fun A outer s H vs Q E room want => ?_
  obtain ⟨t, h, q⟩ := body A outer s H vs Q E room want
  exact ⟨t, h.nox, q⟩
theorem FunC.okG {x qual : Str} {st : Stmt} {f c : Addr} {fd : FuncData} {N ps : List Str} {k : Nat} {sp : Sp} (F : FunC K x qual st f fd c) (S : FnScope N ps (defScope st)) (len : ∀ vs H Q E, sp vs H Q E → vs.length = ps.length)
    (body : ∀ (A : Around) (outer : List Env) (s : Shared) (H : Hp) (vs : List V) (Q : VK) (E : XK), Clr A → Room k (A.deeper (envOfC qual (defScope st) s.heap.objs.size f (.ref c))) → sp vs H Q E →
      ∃ t, PSs (cxOf CX0 P w K mg base N qual (defScope st) f (.ref c) A outer s H E).nox (defBody st) t ∧ t { nx := fun _ H' => Q .non H', rt := Q } (start N vs) H) : FnG P w K mg base CX0 (k + 1) f fd ps sp := by
  obtain ⟨oc, od, kV, doc, pm, an, ct, osl, rfl, lk, code⟩ := F.ex
  refine ⟨len, fun A outer s H args us vs Q E clr room e0 binds rel want => ?_⟩
  have nps := len _ _ _ _ want
  have KX : K.In s.heap := e0.mod.kin.keeps fun b o e => (e0.bs b o e).1
  have lim : s.heap.NoLimit := e0.mod.nolimit.keeps fun b o e => (e0.bs b o e).1
  refine codeAny_call_function room.depth (KX _ _ lk) rfl S.co S.gen rfl (PySem.W.codeRec_of KX code) (binds _ _ _ _ (wpAny_newFunctionEnv_cells S.kind (fun y hy => ?_) fun env he s1 x => ?_))
  · obtain ⟨n, v⟩ := y
    exact (S.par n (List.of_mem_zip hy).1).elim .inl fun q => .inr ⟨q, PySem.W.cellsFrom_some _ _ _ (.inl q)⟩
  · subst he
    obtain ⟨t, term, q⟩ := body A outer s H vs Q E clr (room.deeper _) want
    have I : Inv (cxOf CX0 P w K mg base N qual (defScope st) f (.ref c) A outer s H E) [] (start N vs) H s1 := inv_start S room.hd e0 nps rel x
    refine ⟨lim.keeps x.toInCall.keep, codeAny_func (wpAny_mono (term.nox.run [] s1 (start N vs) H _ I q) (fun fl s' z => ?_) fun _ _ z => z)⟩
    match fl, z with
    | .ret u, ⟨v, _, H', J, rv, q⟩ => exact ⟨v, H', J.os, J.bare, J.base, J.hok, rv, q⟩
    | .next, ⟨_, H', J, q⟩ => exact ⟨.non, H', J.os, J.bare, J.base, J.hok, rfl, q⟩
    | .brk, ⟨_, _, _, q⟩ => exact q.elim
    | .cont, ⟨_, _, _, q⟩ => exact q.elim
end
section
variable {P : Program} {w : World} {K : PySem.W.Frag} {mg mb : Str → Option Value} {k : Nat} {fa a : Addr} {fd : FuncData} {x : Str} {sp : Sp} {s : Shared} {vs : List Value} {ns : List Int} {cs : List (Addr × Addr)}
/-- the code objects and their tables: empty, not of the written part -/
abbrev TabsIn (K : PySem.W.Frag) (h : Heap) (cs : List (Addr × Addr)) : Prop := ∀ p ∈ cs, PySem.W.CodeHd h p.1 p.2 ∧ h.get? p.2 = some (PySem.W.tabObj #[]) ∧ K.lookup p.2 = none
/-- the abstract heap at the law's entry: the tables, and the script, locked, or where it is the module's own the tables alone -/
structure EntT (K : PySem.W.Frag) (cs : List (Addr × Addr)) (a : Addr) (vs : List Value) (ns : List Int) (H : Hp) : Prop where
  tab : ∀ p ∈ cs, H p.2 = some (.tbl #[])
  dom : ∀ b u, H b = some u → (b = a ∧ u = .frz { cls := .type "list", data := .seq vs.toArray } (.lst (ns.map V.int))) ∨ ∃ p ∈ cs, b = p.2
  own : H a ≠ none → K.lookup a = none
theorem entT_run (KX : K.In s.heap) (hns : s.heap.Ns mainGlobals mg) (hb : s.heap.Ns builtinsNs mb) (hbb : ∀ y : Str, y ≠ "__name__" → mb y = bootBuiltins y) (lim : s.heap.NoLimit) (gens : s.gens = #[]) (ti : TabsIn K s.heap cs)
    (bmain : ∃ (bm : Addr) (ob : Obj), mg "__builtins__" = some (.ref bm) ∧ bm ≠ builtinsNs ∧ s.heap.get? bm = some ob ∧ ob.cls = .type "module" ∧ ob.dict = some builtinsNs ∧ ob.data = .plain)
    (oa : s.heap.get? a = some { cls := .type "list", data := .seq vs.toArray }) (rv : Vals (ns.map V.int) vs) (few : ns.length ≤ sizeLine) (room : Room k callerA)
    (F : ∀ base : Heap, K.In base → base.Ns mainGlobals mg → (∀ p ∈ cs, TabB base mg p.1 p.2) → FnG P w K mg base CX0 k fa fd [x] sp)
    (bind : ∀ (s : Shared) (u : Value), BindsTo s fd ⟨[u], []⟩ [(x, u)]) {H : Hp} (en : EntT K cs a vs ns H) (want : sp [.ref a] H (fun v _ => v = .bl true) fun _ _ _ => False) :
    codeAny (model P w) callerA (.call (.ref fa) ⟨[.ref a], []⟩) (fun r s' => r = .ok (.ret (.bool true)) ∧ OldK s.heap s'.heap ∧ s'.os = s.os ∧ AllBare s'.gens) s := by
  -- what is tracked: a list or a table
  have kinds : ∀ {b : Addr} {o : Obj}, s.heap.get? b = some o → H b ≠ none → o = { cls := .type "list", data := .seq vs.toArray } ∨ o = PySem.W.tabObj #[] := fun {b o} q n => by
    cases r : H b with
    | none => exact absurd r n
    | some u =>
      rcases en.dom b u r with ⟨rfl, _⟩ | ⟨p, hp, rfl⟩
      · rw [oa] at q
        exact .inl (Option.some.inj q).symm
      · rw [(ti p hp).2.1] at q
        exact .inr (Option.some.inj q).symm
  have loose : ∀ {b : Addr} {o : Obj}, s.heap.get? b = some o → (∀ vs n, o.data ≠ .seq vs n) → (o.data = .fields #[] → False) → H b = none := fun {b o} q h1 h2 => by
    refine Decidable.byContradiction fun n => ?_
    rcases kinds q n with e | e
    · exact h1 _ _ (by rw [e])
    · exact h2 (by rw [e])
  have seen : ∀ {b : Addr} {o : Obj}, s.heap.get? b = some o → H b = none → (hidT s.heap H).get? b = some o := fun q n => hidT_get q n
  have dict : ∀ {b : Addr} {o : Obj} {es : Array DictEntry} {ep : Nat}, s.heap.get? b = some o → o.data = .dict es ep → (hidT s.heap H).get? b = some o := fun q d => seen q (loose q (fun vs n z => nomatch d.symm.trans z) fun z => nomatch d.symm.trans z)
  have nsT : ∀ {b : Addr} {m : Str → Option Value}, s.heap.Ns b m → (hidT s.heap H).Ns b m := fun ⟨o, es, ep, q, d, r⟩ => ⟨o, es, ep, dict q d, d, r⟩
  have KT : K.In (hidT s.heap H) := fun b o q => seen (KX b o q) (Decidable.byContradiction fun n => by
    cases r : H b with
    | none => exact n r
    | some u =>
      rcases en.dom b u r with ⟨rfl, _⟩ | ⟨p, hp, rfl⟩
      · rw [en.own n] at q
        cases q
      · rw [(ti p hp).2.2] at q
        cases q)
  have isTab : ∀ b u, H b = some u → ∀ q, u = .tbl q → s.heap.get? b = some (PySem.W.tabObj #[]) ∧ q = #[] := fun b u r q e => by
    rcases en.dom b u r with ⟨_, z⟩ | ⟨p, hp, rfl⟩
    · rw [e] at z
      cases z
    · refine ⟨(ti p hp).2.1, ?_⟩
      have z := en.tab p hp
      rw [r, e] at z
      cases z
      rfl
  have ok : HOk P w H s.heap := fun b u r => by
    rcases en.dom b u r with ⟨rfl, rfl⟩ | ⟨p, hp, rfl⟩
    · exact ⟨oa, by rw [List.length_map]; exact few, vs, _, rv, oa⟩
    · rw [en.tab p hp] at r
      cases r
      exact (ti p hp).2.1
  have TB : ∀ p ∈ cs, TabB (hidT s.heap H) mg p.1 p.2 := fun p hp => by
    obtain ⟨C, tp, _⟩ := ti p hp
    refine ⟨?_, ?_, fun z => ?_⟩
    · obtain ⟨o, us, file, tf, flags, tg, inF, text, tt, e1, r1, r2, r3, r⟩ := C
      refine ⟨o, us, file, tf, flags, tg, inF, text, tt, seen e1 (loose e1 (fun vs n z => nomatch r2.symm.trans z) fun z => ?_), r1, r2, r3, r⟩
      have e := r2.symm.trans z
      cases e
      simp at r3
    · obtain ⟨bm, ob, b1, b2, b3, b4, b5, b6⟩ := bmain
      refine ⟨bm, ob, b1, b2, fun q => ?_, fun q => ?_, seen b3 (loose b3 (fun vs n z => nomatch b6.symm.trans z) fun z => nomatch b6.symm.trans z), b4, b5, b6⟩
      · obtain ⟨o, es, ep, e, hd, _⟩ := hns
        rw [q, e] at b3
        cases b3
        cases hd.symm.trans b6
      · rw [q, tp] at b3
        cases b3
        cases b6
    · obtain ⟨o, es, ep, e, hd, _⟩ := hns
      rw [z, tp] at e
      cases e
      cases hd
  have e0 : Env0 P w K mg (hidT s.heap H) callerA [] s H :=
    ⟨rfl, ⟨KT, nsT hns, ⟨mb, nsT hb, hbb⟩, let ⟨m, z1, z2⟩ := lim; ⟨m, nsT z1, z2⟩⟩, fun b o q => of_hidT q, Nat.le_of_eq (hidT_size _ _), trivial, fun b z => absurd (show b ∈ ([] : List Addr) from z) (by simp), ok, .of_eq gens⟩
  refine codeAny_mono ((F _ KT (nsT hns) TB).run callerA [] s H ⟨[.ref a], []⟩ [.ref a] [.ref a] _ _ rfl room e0 (bind s (.ref a)) (.cons rfl .nil) want) fun r s' z => ?_
  match r, z with
  | .error _, z => exact z.elim
  | .ok .next, z => exact z.elim
  | .ok .brk, z => exact z.elim
  | .ok .cont, z => exact z.elim
  | .ok (.ret u), ⟨v, H', os, bare, un, ok', rv', q⟩ =>
    obtain rfl : v = .bl true := q
    obtain rfl : u = Value.bool true := rv'
    -- an object stays, or is a table that has grown
    have way : ∀ b o, s.heap.get? b = some o → s'.heap.get? b = some o ∨ ∃ p ∈ cs, b = p.2 ∧ ∃ more : Array Value, s'.heap.get? b = some (PySem.W.tabObj more) := fun b o q => by
      cases r : H b with
      | none => exact .inl (un.keep b o q r (fun z => absurd (show b ∈ ([] : List Addr) from z) (by simp)) (by simp))
      | some u =>
        rcases en.dom b u r with ⟨rfl, rfl⟩ | ⟨p, hp, rfl⟩
        · have q1 := (ok b _ r).1
          rw [q] at q1
          cases q1
          exact .inl (ok' b _ (un.frzs b _ _ r)).1
        · obtain ⟨more, z⟩ := un.tbls p.2 #[] (en.tab p hp)
          exact .inr ⟨p, hp, rfl, _, ok' p.2 _ z⟩
    refine ⟨rfl, ⟨fun b o q => ?_, fun b o q => ?_⟩, os, bare⟩
    · rcases way b o q with z | ⟨p, hp, rfl, more, z⟩
      · exact .inl z
      · obtain ⟨C, tp, _⟩ := ti p hp
        rw [tp] at q
        cases q
        exact .inr (.inl ⟨(C.tab tp).isCodeTable, rfl, #[], more, rfl, by rw [Array.empty_append]; exact z⟩)
    · rcases way b o q with z | ⟨_, _, _, more, z⟩
      · exact ⟨o, z⟩
      · exact ⟨_, z⟩
end
/-- the law's promise with its tables -/
def LawTG (l : PySem.W.OpenLaw) (w : World) (K : PySem.W.Frag) (k n : Nat) (x : Str) (mg : Str → Option Value) (fa : Addr) (h : Heap) : Prop :=
  ∃ (fd : FuncData) (cs : List (Addr × Addr)) (sp : Sp), TabsIn K h cs ∧ (∀ (s : Shared) (u : Value), BindsTo s fd ⟨[u], []⟩ [(x, u)]) ∧
    (∀ (H : Hp) (a : Addr) (ns : List Int), ns.length ≤ n → (∀ p ∈ cs, H p.2 = some (.tbl #[])) → SqL K H a (ns.map V.int) → sp [.ref a] H (fun v _ => v = .bl true) fun _ _ _ => False) ∧
    ∀ base : Heap, K.In base → base.Ns mainGlobals mg → (∀ p ∈ cs, TabB base mg p.1 p.2) → FnG l.prog w K mg base CX0 k fa fd [x] sp
/-- what the head tells of a def's table -/
abbrev TabsOf (q : Program) (K : PySem.W.Frag) (h : Heap) : Prop := ∀ (y : Str) (c P : Addr), ((recsOf q).find? (fun e => e.name == y)).isSome = true → PySem.W.tabIn K y = some (c, P) → PySem.W.CodeHd h c P ∧ h.get? P = some (PySem.W.tabObj #[])
/-- the goal behind the head, from such a promise -/
theorem walk_tabG {l : PySem.W.OpenLaw} {n k : Nat} {q : Program} {loose : List Str} {XP : (Str → Option Value) → Heap → Prop} {YP : World → Heap → Prop} {d : DefRec} {K : Params → PySem.W.Frag} {x : Str}
    (most : l.most = some n) (few : n ≤ sizeLine) (nodf : d.params.defaults = []) (room : Room k callerA) (hY : ∀ (w : World) (h : Heap), YP w h → (K w.params).In h)
    (F : ∀ (w : World) (mg : Str → Option Value) (fa : Addr) (h : Heap), (K w.params).In h → h.Ns mainGlobals mg → mg d.name = some (.ref fa) → TabsOf q (K w.params) h → XP mg h → LawTG l w (K w.params) k n x mg fa h) :
    PySem.W.WalkO q loose XP YP l.row.toRowW d [] (fun f vs => PySem.call f vs) :=
  Att.attach_call most nodf fun w _ s mg mb fa _ _ _ _ a vs ns G Y _ _ _ hmg hobj hints hlen hg => by
    have KX := hY w _ Y
    obtain ⟨fd, cs, sp, ti, bind, hsp, hF⟩ := F w mg fa _ KX G.T.g hmg (fun y c P hr ht => let ⟨d', hd⟩ := Option.isSome_iff_exists.mp hr; PySem.W.tab_of G.T KX hd ht) G.X
    have rv := vals_ints hints
    have len := hints.length
    have tne : ∀ p ∈ cs, p.2 ≠ a := fun p hp z => by
      have e := (ti p hp).2.1
      rw [z, hobj] at e
      cases e
    cases own : (K w.params).lookup a with
    | some o =>
      have e := KX a o own
      rw [hobj] at e
      cases e
      obtain ⟨H, eH⟩ : ∃ H : Hp, H = fun b => if b ∈ cs.map (·.2) then some (.tbl #[]) else none := ⟨_, rfl⟩
      have inT : ∀ p ∈ cs, H p.2 = some (.tbl #[]) := fun p hp => by
        rw [eH]
        exact if_pos (List.mem_map.mpr ⟨p, hp, rfl⟩)
      have outT : ∀ b, b ∉ cs.map (·.2) → H b = none := fun b n => by
        rw [eH]
        exact if_neg n
      have na : a ∉ cs.map (·.2) := fun m => by
        obtain ⟨p, hp, e⟩ := List.mem_map.mp m
        exact tne p hp e
      refine entT_run KX G.T.g G.T.b G.T.builtins G.T.nolimit hg ti G.T.bmain hobj rv (Nat.le_trans hlen few) room hF bind (H := H) ⟨inT, fun b u r => .inr ?_, fun z => absurd (outT a na) z⟩
        (hsp H a ns hlen inT (.inr ⟨_, vs.toArray, _, own, rfl, rfl, rfl, by rw [List.size_toArray, len]; exact Nat.le_trans hlen few, by simpa using rv⟩))
      refine Decidable.byContradiction fun n => ?_
      rw [outT b fun m => n (let ⟨p, hp, e⟩ := List.mem_map.mp m; ⟨p, hp, e.symm⟩)] at r
      cases r
    | none =>
      obtain ⟨H, eH⟩ : ∃ H : Hp, H = fun b => if b = a then some (.frz { cls := .type "list", data := .seq vs.toArray } (.lst (ns.map V.int))) else if b ∈ cs.map (·.2) then some (.tbl #[]) else none := ⟨_, rfl⟩
      have atA : H a = some (.frz { cls := .type "list", data := .seq vs.toArray } (.lst (ns.map V.int))) := by rw [eH]; exact if_pos rfl
      have inT : ∀ p ∈ cs, H p.2 = some (.tbl #[]) := fun p hp => by
        rw [eH]
        exact (if_neg (tne p hp)).trans (if_pos (List.mem_map.mpr ⟨p, hp, rfl⟩))
      refine entT_run KX G.T.g G.T.b G.T.builtins G.T.nolimit hg ti G.T.bmain hobj rv (Nat.le_trans hlen few) room hF bind (H := H) ⟨inT, fun b u r => ?_, fun _ => own⟩ (hsp H a ns hlen inT (.inl (.inr ⟨_, atA⟩)))
      by_cases n : b = a
      · subst n
        rw [atA] at r
        exact .inl ⟨rfl, (Option.some.inj r).symm⟩
      · refine .inr (Decidable.byContradiction fun m => ?_)
        rw [eH] at r
        have r' := (if_neg n).symm.trans r
        rw [if_neg fun z => m (let ⟨p, hp, e⟩ := List.mem_map.mp z; ⟨p, hp, e.symm⟩)] at r'
        cases r'
end L2


namespace FT
open PySem L2 TL ClX LamX NdefX
/-! ### tables -/
/-- as Keep, but for the tables of code objects -/
abbrev lamQ (x : Str) : Str := x ++ ".<locals>." ++ "<lambda>"
def KeepN (d c : Addr) (H H' : Hp) : Prop := ∀ b o, b ≠ d → b ≠ c → H b = some o → (∀ ps, o ≠ .tbl ps) → H' b = some o
theorem KeepN.trans {d c : Addr} {H H1 H2 : Hp} (a : KeepN d c H H1) (b : KeepN d c H1 H2) : KeepN d c H H2 := fun x o h h' e n => b x o h h' (a x o h h' e n) n
theorem Keep.n {d c : Addr} {H H' : Hp} (k : Keep d c H H') : KeepN d c H H' := fun b o h h' e _ => k b o h h' e
theorem KeepN.of_ext {d c : Addr} {H H' : Hp} (e : ExtN H H') : KeepN d c H H' := fun b o _ _ q n => e b o q n
theorem KeepN.free {d c p : Addr} {H H' : Hp} (k : KeepN d c H H') (n : H' p = none) (n1 : p ≠ d) (n2 : p ≠ c) (t : ∀ ps, H p ≠ some (.tbl ps)) : H p = none := by
  cases e : H p with
  | none => rfl
  | some o =>
    rw [k p o n1 n2 e (fun ps z => t ps (by rw [e, z]))] at n
    cases n
theorem tabs_keep {T : List (Addr × Str)} {d c : Addr} {H H' : Hp} (t : Tabs T H) (dr : DrawAt H d c) (k : Keep d c H H') : Tabs T H' := fun p hp => by
  obtain ⟨nx, mx, ct, cells, h1, h2, _⟩ := dr
  obtain ⟨ps, e1, e2, e3⟩ := t p hp
  have off : ∀ {b : Addr} {o : HO}, H b = some o → (∀ xs, o ≠ .lst xs) → H' b = some o := fun {b o} e n => k b o (fun z => by
    rw [z, h1] at e
    exact n _ (Option.some.inj e).symm) (fun z => by
    rw [z, h2] at e
    exact n _ (Option.some.inj e).symm) e
  refine ⟨ps, off e1 (fun xs z => nomatch z), e2, fun pos cv hc => ?_⟩
  obtain ⟨c', q1, q2⟩ := e3 pos cv hc
  exact ⟨c', q1, off q2 (fun xs z => by unfold CodeO at z; cases z)⟩
/-- neither a table nor a code object -/
def NTab (u : HO) : Prop := (∀ ps, u ≠ .tbl ps) ∧ ∀ c q, u ≠ CodeO c q
theorem NTab.dK {kvs : List (Key × V)} : NTab (.dK kvs) := ⟨fun ps z => (nomatch z), fun c q z => (by unfold CodeO at z; cases z)⟩
theorem NTab.lst {xs : List V} : NTab (.lst xs) := ⟨fun ps z => (nomatch z), fun c q z => (by unfold CodeO at z; cases z)⟩
theorem NTab.ins {C dx : Addr} {fs : List (Str × V)} : NTab (.ins C dx fs) := ⟨fun ps z => (nomatch z), fun c q z => (by unfold CodeO at z; cases z)⟩
theorem tabs_put {T : List (Addr × Str)} {H : Hp} {p : Addr} {u o : HO} (t : Tabs T H) (e : H p = some u) (n : NTab u) : Tabs T (upd H p o) := fun x hx => by
  obtain ⟨ps, e1, e2, e3⟩ := t x hx
  refine ⟨ps, ?_, e2, fun pos cv hc => ?_⟩
  · rw [upd_ne fun z => ?_]
    · exact e1
    · rw [z, e] at e1
      exact n.1 _ (Option.some.inj e1)
  · obtain ⟨c, q1, q2⟩ := e3 pos cv hc
    refine ⟨c, q1, ?_⟩
    rw [upd_ne fun z => ?_]
    · exact q2
    · rw [z, e] at q2
      exact n.2 _ _ (Option.some.inj q2)
theorem tabs_new {T : List (Addr × Str)} {H : Hp} {p : Addr} {o : HO} (t : Tabs T H) (n : H p = none) : Tabs T (upd H p o) := t.ext (same_new n)
theorem DrawAt.ext {H H' : Hp} {d c : Addr} (x : DrawAt H d c) (e : ExtN H H') : DrawAt H' d c := by
  obtain ⟨nx, mx, ct, cells, h1, h2, r⟩ := x
  exact ⟨nx, mx, ct, cells, e _ _ h1 (fun ps z => nomatch z), e _ _ h2 (fun ps z => nomatch z), r⟩
theorem capt_by {sc scope : Scope} (h : (scope.names.all fun y => !decide (y.2 = .free) || decide (sc.names.lookup y.1 = some .cell) || decide (sc.names.lookup y.1 = some .free)) = true) :
    ∀ y ∈ scope.names, y.2 = .free → sc.names.lookup y.1 = some .cell ∨ sc.names.lookup y.1 = some .free := fun y hy e => by
  have z := List.all_eq_true.mp h y hy
  simp only [Bool.or_eq_true, Bool.not_eq_true', decide_eq_false_iff_not, decide_eq_true_eq] at z
  rcases z with (z | z) | z
  · exact absurd e z
  · exact .inl z
  · exact .inr z
def rLenS (K : PySem.W.Frag) : List V → Hp → VK → Prop := fun xs H Q => ∃ p ys, xs = [.ref p] ∧ (SqL K H p ys ∨ SqT K H p ys) ∧ Q (.int ys.length) H
def spSizes (T : List (Addr × Str)) : Sp := fun vs H Q _ => ∃ (d c q : Addr) (n : Int) (t : List (Str × Str)), vs = [.ref d, .ref q, .int n] ∧ DrawAt H d c ∧ H q = some (.dK (prs t)) ∧ TreeOk t ∧ 0 ≤ n ∧ n ≤ 10 ^ 30 ∧ Tabs T H ∧
  ∀ (p : Addr) (l : List Str) (sz : Str → Int) (H' : Hp), l.Perm (t.map Prod.fst) → Fea t n sz → (∀ b o, H b = some o → (∀ ps, o ≠ .tbl ps) → b ≠ p) → H' p = some (.dK (tblI l sz)) → DrawAt H' d c → Tabs T H' → KeepN d c H H' → Q (.ref p) H'
section
variable {P : Program} {w : World} {K : PySem.W.Frag} {mg : Str → Option Value} {base : Heap}
theorem scPath : FnScope ["_law_above", "_law_spot", "_law_way"] ["_law_above", "_law_spot"] (defScope s__law_path) := ⟨rfl, rfl, rfl, by decide +kernel, rfl, by decide +kernel, by decide +kernel⟩
def rankP (t : List (Str × Str)) (rk : Str → Nat) (σ : St) : Nat := match σ[1]? with
  | some (some (V.str a)) => if a ∈ t.map Prod.fst then rk a + 1 else 0
  | _ => 0
theorem ok_path {f : Addr} {fd : FuncData} (F : Fun K "_law_path" "_law_path" s__law_path f fd) : FnOk P w K mg base CX0 1 f fd ["_law_above", "_law_spot"] spPath := by
  refine F.ok scPath (fun vs H Q E h => ?_) (fun cdv A outer s H vs Q E hr h => ?_)
  · obtain ⟨q, a, t, rfl, _⟩ := h
    rfl
  · obtain ⟨q, a, t, rfl, hq, o, pl, k⟩ := h
    have hu := hu_of hr
    obtain ⟨rk, r⟩ := o.up
    refine ⟨_, pss_cons (ps_set (i := 2) scPath.nd rfl (.inl rfl) (pe_tup pa_nil))
      (pss_cons (ps_while PassesOwn.never (pt_cmpR op_ne (pv 1) pe_str (nomark _))
        (pss_cons (ps_set (i := 2) scPath.nd rfl (.inl rfl) (pe_op op_catT (pe_tup (pa_cons (pv 1) pa_nil)) (pv 2)))
        (pss_one (ps_set (i := 1) scPath.nd rfl (.inl rfl) (pe_dget hu (pv 0) (pv 1) (fun _ _ => rfl))))))
      (pss_one (ps_ret (pv 2)))), ?_⟩
    have big : 1000 ≤ sizeLine := by decide
    have few := o.few
    have rdm : ∀ {H'}, Same H H' → Rd H' q (.dK (prs t)) := fun s => hq.imp (s _ _) fun ⟨ob, e⟩ => ⟨ob, s _ _ e⟩
    refine ⟨by show 0 ≤ sizeLine; omega, fun p0 n0 => ?_⟩
    refine while_by (fun σ H' => ∃ (x : Str) (pw : Addr) (ws : List Str), σ = [some (.ref q), some (.str x), some (.ref pw)] ∧ Same H H' ∧ H pw = none ∧ H' pw = some (.tup (ws.map V.str)) ∧ Pl t x ∧ pathOf t a = pathOf t x ++ ws)
      (fun σ _ => rankP t rk σ) ⟨a, p0, [], rfl, same_new n0, n0, upd_same, pl, by rw [List.append_nil]⟩ ?_ ?_
    · rintro σ H1 ⟨x, pw, ws, rfl, s1, npw, aw, px, epath⟩
      refine ⟨_, rfl, rfl, _, rfl, ?_⟩
      have lws : ws.length ≤ 12 := by
        have z := congrArg List.length epath
        rw [List.length_append] at z
        have := path_len t a
        omega
      by_cases e : x = ""
      · rw [decide_eq_true (show V.str x = V.str "" by rw [e])]
        refine iteF ?_
        rw [e, path_root, List.nil_append] at epath
        exact ⟨_, rfl, k pw H1 s1 npw (by rw [epath]; exact aw)⟩
      · rw [decide_eq_false (show ¬ V.str x = V.str "" from fun z => e (V.str.inj z))]
        show if true = true then _ else _
        rw [if_pos rfl]
        have mx := px.resolve_left e
        obtain ⟨pa, ep, hpa, lx⟩ := o.step r mx
        have st := path_step o mx ep
        have fin : ∀ (p3 : Addr) (H3 : Hp), Same H1 H3 → H p3 = none → H3 p3 = some (.tup ((x :: ws).map V.str)) →
            DGet H3 q (.str x) (some (.str pa)) ∧ (∃ (x' : Str) (pw' : Addr) (ws' : List Str), ([some (.ref q), some (.str pa), some (.ref p3)] : St) = [some (.ref q), some (.str x'), some (.ref pw')] ∧ Same H H3 ∧ H pw' = none ∧ H3 pw' = some (.tup (ws'.map V.str)) ∧ Pl t x' ∧ pathOf t a = pathOf t x' ++ ws') ∧
            rankP t rk [some (.ref q), some (.str pa), some (.ref p3)] < rankP t rk [some (.ref q), some (.str x), some (.ref pw)] := fun p3 H3 s3 n3 a3 => by
          refine ⟨.inl ⟨_, Sum.inr x, rdm (s1.trans s3), rfl, by rw [val_prs, ep] <;> rfl⟩, ⟨pa, p3, x :: ws, rfl, s1.trans s3, n3, a3, hpa.imp id And.left, by rw [epath, st, List.append_assoc] <;> rfl⟩, ?_⟩
          have e1 : rankP t rk [some (.ref q), some (.str x), some (.ref pw)] = rk x + 1 := if_pos mx
          rw [e1]
          rcases hpa with z | ⟨mp, lp⟩
          · have e2 : rankP t rk [some (.ref q), some (.str pa), some (.ref p3)] = 0 := if_neg (by rw [z]; exact o.root)
            show rankP t rk [some (.ref q), some (.str pa), some (.ref p3)] < _
            rw [e2]
            omega
          · have e2 : rankP t rk [some (.ref q), some (.str pa), some (.ref p3)] = rk pa + 1 := if_pos mp
            show rankP t rk [some (.ref q), some (.str pa), some (.ref p3)] < _
            rw [e2]
            omega
        refine ⟨_, rfl, by show 1 ≤ sizeLine; omega, fun p2 n2 => ⟨_, rfl, p2, pw, [.str x], ws.map V.str, rfl, rfl, .inl (.inl upd_same), .inl (.inl (by rw [upd_ne (ne_of_none aw n2)]; exact aw)), by simp, by rw [List.length_map]; show 1 + _ ≤ sizeLine; omega, fun ew => ?_, fun _ p3 n3 => ?_⟩⟩
        · have ew' : ws = [] := List.map_eq_nil_iff.mp ew
          obtain ⟨f1, f2, f3⟩ := fin p2 _ (same_new n2) (s1.free n2) (by rw [upd_same, ew'] <;> rfl)
          exact ⟨_, rfl, _, rfl, q, .str pa, rfl, f1, f2, f3⟩
        · obtain ⟨f1, f2, f3⟩ := fin p3 _ ((same_new n2).trans (same_new n3)) (s1.free ((same_new n2).free n3)) upd_same
          exact ⟨_, rfl, _, rfl, q, .str pa, rfl, f1, f2, f3⟩
    · rintro σ H' Qa Qb h ⟨v, e1, e2, b, e3, z⟩
      exact ⟨v, e1, e2, b, e3, h _ _ z⟩
end
end FT


/-! what is due in k04: _law_due, _law_user_due, _law_name_due -/
namespace FT
open PySem L2 TL ClX LiI
theorem placeV_perm {t ts : List (Str × Str)} (p : ts.Perm t) (v : V) : placeV ts v = placeV t v := by
  cases v with
  | str z => exact decide_eq_decide.mpr (or_congr_right (p.map Prod.fst).mem_iff)
  | _ => rfl
theorem flagV_perm {t ts : List (Str × Str)} (p : ts.Perm t) (v : V) : flagV ts v = flagV t v := by
  cases v with
  | str z => exact decide_eq_decide.mpr (p.map Prod.fst).mem_iff
  | _ => rfl
theorem dueP_perm {t ts : List (Str × Str)} (p : ts.Perm t) (o : Option (List V)) : dueP ts o = dueP t o := by
  have : placeV ts = placeV t := funext (placeV_perm p)
  cases o with
  | none => rfl
  | some xs => unfold dueP; rw [this]
def badI (ts : List (Str × Str)) (xs : List V) (i : Nat) : Bool := !placeV ts (xs.getD i .non)
def oddI (ts : List (Str × Str)) (xs : List V) (j : Nat) : List Nat := (List.range j).filter (badI ts xs)
theorem oddI_more (ts : List (Str × Str)) (xs : List V) (j : Nat) : oddI ts xs (j + 1) = oddI ts xs j ++ (if badI ts xs j = true then [j] else []) := by
  unfold oddI
  rw [List.range_succ, List.filter_append]
  congr 1
  rw [List.filter_cons] <;> rfl
theorem oddI_len (ts : List (Str × Str)) (xs : List V) (j : Nat) : (oddI ts xs j).length ≤ j := by
  have := List.length_filter_le (badI ts xs) (List.range j)
  rw [List.length_range] at this
  exact this
theorem oddI_head (ts : List (Str × Str)) (xs : List V) : (oddI ts xs xs.length).head? = xs.findIdx? fun x => !placeV ts x := by
  unfold oddI
  rw [List.head?_filter]
  cases e : xs.findIdx? fun x => !placeV ts x with
  | none =>
    rw [List.findIdx?_eq_none_iff] at e
    rw [List.find?_eq_none]
    intro i hi
    have hi := List.mem_range.mp hi
    unfold badI
    rw [List.getD_eq_getElem?_getD, List.getElem?_eq_getElem hi]
    have := e _ (List.getElem_mem hi)
    rw [show (some xs[i]).getD V.non = xs[i] from rfl, this]
    decide
  | some i =>
    rw [List.findIdx?_eq_some_iff_getElem] at e
    obtain ⟨hi, h1, h2⟩ := e
    rw [List.find?_range_eq_some]
    refine ⟨?_, List.mem_range.mpr hi, fun j hj => ?_⟩
    · unfold badI
      rw [List.getD_eq_getElem?_getD, List.getElem?_eq_getElem hi]
      exact h1
    · have hj' : j < xs.length := by omega
      have := h2 j hj
      unfold badI
      rw [List.getD_eq_getElem?_getD, List.getElem?_eq_getElem hj']
      have h3 : (!placeV ts xs[j]) = false := by
        cases z : !placeV ts xs[j] with
        | false => rfl
        | true => exact absurd z this
      rw [show (some xs[j]).getD V.non = xs[j] from rfl, h3] <;> rfl
/-- a told word and its attribute, or None -/
def TellW (H : Hp) (Q : VK) : Option (Str × V) → Prop
  | none => ∀ H', Same H H' → Q .non H'
  | some (w, v) => ∀ p H', Same H H' → H p = none → H' p = some (.tup [.str w, v]) → Q (.ref p) H'
def dueW (ts : List (Str × Str)) (o : Option (List V)) : Option (Str × V) := (dueP ts o).map fun e => match e with
  | none => ("users", .non)
  | some i => ("place", .int (i : Int))
def userW (n : Nat) (v : V) : Option (Str × V) := if userV n v = true then none else some ("user", v)
/-- a flag, or the root if it is allowed -/
def nameV (ts : List (Str × Str)) (r : Bool) (v : V) : Bool := if r = true then placeV ts v else flagV ts v
def nameW (ts : List (Str × Str)) (r : Bool) (v : V) : Option (Str × V) := if nameV ts r v = true then none else some ("name", v)
def spDueW (K : PySem.W.Frag) : Sp := fun vs H Q _ => ∃ (q : Addr) (iv : V) (t : List (Str × Str)) (o : Option (List V)), vs = [.ref q, iv] ∧ H q = some (.dK (prs t)) ∧ TreeOk t ∧ PlV K H iv o ∧ TellW H Q (dueW t o)
def spUserW (K : PySem.W.Frag) : Sp := fun vs H Q _ => ∃ (l : Addr) (v : V) (zs : List Str), vs = [.ref l, v] ∧ H l = some (.lst (zs.map V.str)) ∧ IsDat K H v ∧ TellW H Q (userW zs.length v)
def spNameW (K : PySem.W.Frag) : Sp := fun vs H Q _ => ∃ (q : Addr) (v : V) (r : Bool) (t : List (Str × Str)), vs = [.ref q, v, .bl r] ∧ H q = some (.dK (prs t)) ∧ TreeOk t ∧ IsDat K H v ∧ TellW H Q (nameW t r v)
abbrev NDw : List Str := ["_law_above", "_law_item", "_law_odd", "_law_at", "_law_spot"]
section
variable {P : Program} {w : World} {K : PySem.W.Frag} {mg : Str → Option Value} {base : Heap}
theorem scDw : FnScope NDw ["_law_above", "_law_item"] (defScope s__law_due) := ⟨rfl, rfl, rfl, by decide +kernel, rfl, by decide +kernel, by decide +kernel⟩
theorem ok_dueW {f : Addr} {fd : FuncData} (F : Fun K "_law_due" "_law_due" s__law_due f fd) (T : Nm mg) : FnOk P w K mg base CX0 2 f fd ["_law_above", "_law_item"] (spDueW K) := by
  refine F.ok scDw (fun vs H Q E h => ?_) (fun cdv A outer s H vs Q E hr h => ?_)
  · obtain ⟨q, iv, t, o, rfl, _⟩ := h
    rfl
  · obtain ⟨q, iv, t, po, rfl, hq, o, pv_, k⟩ := h
    have hu := hu_of hr
    have nd := scDw.nd
    have big : 1000 ≤ sizeLine := by decide
    refine ⟨_, pss_cons (ps_if (PW.pt (pw_or (pt_not (pt_val (pe_callB call_isiT (by rfl) T.isi (by decide +kernel) (pa_cons (pv 1) (pa_cons (pe_tup (pa_cons (pe_bltn (v := .ty "list") (u := .type "list") (by rfl) T.lst (by decide +kernel) rfl) (pa_cons (pe_bltn (v := .ty "tuple") (u := .type "tuple") (by rfl) T.tup (by decide +kernel) rfl) pa_nil))) pa_nil)))))
        (pw_or1 (pt_not (pt_chain op_le op_le pe_int (pe_callB call_len_seq (by rfl) T.len PySem.boot_len (pa_cons (pv 1) pa_nil)) pe_int))))) (pss_one (ps_ret (pe_tup (pa_cons pe_str (pa_cons pe_non pa_nil))))) pss_nil)
      (pss_cons (ps_setLc (i := 2) (own := [("_law_at", 3), ("_law_spot", 4)]) (g := gTup K 2 (gCons (gName 3) (gCons (gName 4) gNil))) (tt := tOr (tNot (tB (tCB (rIsi K) (tCons (tVar 4) (tCons (tC (.ty "str")) tNil))))) (tAnd (tTest (tOp rNe (tVar 4) (tC (.str "")))) (tB (tDNotIn (tVar 4) (tVar 0))))) (te := tVar 3) rfl nd rfl rfl (sw_true rfl rfl rfl (by decide +kernel)) (pi_enumE rfl T.enu (pa_cons (pv 1) pa_nil))
        (blkOk_by (N := NDw) (sc := defScope s__law_due) (by decide +kernel)) (fun _ _ _ _ _ => pg_tup rfl (pgs_cons (pg_name (i := 3) nd rfl (Or.inl rfl)) (pgs_cons (pg_name (i := 4) nd rfl (Or.inl rfl)) pgs_nil)))
        (fun _ _ _ _ _ => pts_one (PW.pt (pw_or (pt_not (pt_val (pe_callB call_isi (by rfl) T.isi (by decide +kernel) (pa_cons (pv 4) (pa_cons (pe_bltn (v := .ty "str") (u := .type "str") (by rfl) T.str (by decide +kernel) rfl) pa_nil)))))
          (pw_or1 (PW.pt (pw_and (pt_cmpR op_ne (pv 4) pe_str (nomark _)) (pw_and1 (pt_cmp (pc_dnotin hu (pv 4) (pv 0)) rfl)))))))) (fun _ _ _ _ _ => pv 3))
      (pss_one (ps_ret (pe_ifExp (pt_cmpR (op_neNil hr.units) (pv 2) (pe_lst pa_nil) (nomark _)) (pe_tup (pa_cons pe_str (pa_cons (pe_ix ix_list (pv 2) pe_int (fun _ _ => rfl)) pa_nil))) pe_non)))), ?_⟩
    refine ⟨_, rfl, by show 2 ≤ sizeLine; omega, fun tp ntp => ?_⟩
    have s1 := same_new (o := .tup [.ty "list", .ty "tuple"]) ntp
    obtain ⟨T0, d0, e0⟩ := (pv_.mono s1).isi
    refine ⟨iv, tp, [.ty "list", .ty "tuple"], _, [.type "list", .type "tuple"], _, rfl, upd_same, .cons (.ty _) (.cons (.ty _) .nil), d0.ty, d0.seq_, _, rfl, ?_⟩
    rw [e0]
    cases po with
    | none =>
      show if true = true then _ else _
      rw [if_pos rfl]
      exact iteT ⟨by show 2 ≤ sizeLine; omega, fun p np => k p _ (s1.trans (same_new np)) (s1.free np) upd_same⟩
    | some xs =>
    refine iteF ?_
    obtain ⟨H1, e1⟩ : ∃ X, X = upd H tp (.tup [.ty "list", .ty "tuple"]) := ⟨_, rfl⟩
    rw [← e1] at s1 ⊢
    clear d0 e0 e1
    obtain ⟨a, rfl, hs, dat, l9⟩ := pv_
    have hs1 := hs.mono s1
    have sq1 : SqL K H1 a xs ∨ SqT K H1 a xs := hs1.imp SqL.of SqT.of
    refine ⟨_, rfl, a, _, rfl, sq1, _, _, rfl, rfl, _, rfl, ?_⟩
    have users : dueP t (some xs) = some none → ∀ p, H1 p = none → Q (.ref p) (upd H1 p (.tup [.str "users", .non])) := fun ed p np => by
      unfold dueW at k
      rw [ed] at k
      exact k p _ (s1.trans (same_new np)) (s1.free np) upd_same
    by_cases l1 : 1 ≤ xs.length
    rotate_left
    · rw [if_neg (show ¬ decide ((1 : Int) ≤ (xs.length : Int)) = true by rw [decide_eq_true_eq]; omega)]
      refine ⟨_, rfl, ?_⟩
      show if true = true then _ else _
      rw [if_pos rfl]
      exact ⟨by show 2 ≤ sizeLine; omega, users (if_neg fun z => l1 z.1)⟩
    rw [if_pos (show decide ((1 : Int) ≤ (xs.length : Int)) = true by rw [decide_eq_true_eq]; omega)]
    refine ⟨_, _, rfl, rfl, _, rfl, ?_⟩
    by_cases l2 : xs.length ≤ 60
    rotate_left
    · rw [decide_eq_false (show ¬ (xs.length : Int) ≤ 60 by omega)]
      show if true = true then _ else _
      rw [if_pos rfl]
      exact ⟨by show 2 ≤ sizeLine; omega, users (if_neg fun z => l2 z.2)⟩
    rw [decide_eq_true (show (xs.length : Int) ≤ 60 by omega)]
    refine iteF ?_
    have ed : dueP t (some xs) = (xs.findIdx? fun x => !placeV t x).map some := if_pos ⟨l1, l2⟩
    unfold dueW at k
    rw [ed, ← oddI_head] at k
    obtain ⟨J, G, eJ, wk, gG⟩ := enumE_of (K := K) hs1
    refine ⟨_, rfl, a, J, rfl, eJ, ?_⟩
    intro D nD
    refine lc_it wk (fun j H' => Same H1 H' ∧ H' D = some (.lst ((oddI t xs j).map fun (i : Nat) => V.int (i : Int)))) ⟨same_new nD, upd_same⟩ (fun i H' _ z => gG _ z.1) ?_ ?_
    · intro j Tv Ha Hb hj ⟨q1, q2⟩ ⟨Tp, i, z, eT, nT, eH, ey, ez⟩
      subst eT
      subst eH
      cases ey
      have ez : xs[j]? = some z := ez
      obtain ⟨Tz, dz⟩ := dat z (List.mem_of_getElem? ez)
      have sT := same_new (o := .tup [.int (j : Int), z]) nT
      have s0 : Same H (upd Ha Tp (.tup [.int (j : Int), z])) := (s1.trans q1).trans sT
      have more := oddI_more t xs j
      have len := oddI_len t xs j
      have eb : badI t xs j = !placeV t z := by
        unfold badI
        rw [List.getD_eq_getElem?_getD, ez] <;> rfl
      have q2' := sT _ _ q2
      have yes : badI t xs j = true → ∃ acc, (upd Ha Tp (.tup [.int (j : Int), z])) D = some (.lst acc) ∧ acc.length < sizeLine ∧ (Same H1 (upd (upd Ha Tp (.tup [.int (j : Int), z])) D (.lst (acc ++ [V.int (j : Int)]))) ∧ (upd (upd Ha Tp (.tup [.int (j : Int), z])) D (.lst (acc ++ [V.int (j : Int)]))) D = some (.lst ((oddI t xs (j + 1)).map fun (i : Nat) => V.int (i : Int)))) := fun h => by
        rw [h, if_pos rfl] at more
        exact ⟨_, q2', by rw [List.length_map]; omega, (q1.trans sT).put nD, by rw [upd_same, more, List.map_append] <;> rfl⟩
      have no : badI t xs j = false → (Same H1 (upd Ha Tp (.tup [.int (j : Int), z])) ∧ (upd Ha Tp (.tup [.int (j : Int), z])) D = some (.lst ((oddI t xs (j + 1)).map fun (i : Nat) => V.int (i : Int)))) := fun h => by
        rw [h, if_neg (by decide), List.append_nil] at more
        exact ⟨q1.trans sT, by rw [more]; exact q2'⟩
      refine ⟨Tp, _, rfl, .inl (.inl upd_same), rfl, _, _, rfl, _, _, rfl, rfl, rfl, ?_⟩
      have dz2 := dz.mono s0
      refine ⟨_, rfl, z, _, _, _, _, rfl, .ty _, dz2.ty, dz2.str_, _, rfl, ?_⟩
      by_cases eT : Tz = "str"
      · subst eT
        obtain ⟨b, rfl⟩ := dz.str_of
        rw [decide_eq_true rfl]
        refine iteF ?_
        refine ⟨_, rfl, rfl, _, rfl, ?_⟩
        by_cases e : b = ""
        · rw [decide_eq_true (show V.str b = V.str "" by rw [e])]
          refine iteF ?_
          exact iteF (no (by rw [eb, show placeV t (.str b) = true from decide_eq_true (.inl e)] <;> rfl))
        · rw [decide_eq_false (show ¬ V.str b = V.str "" from fun z => e (V.str.inj z))]
          show if true = true then _ else _
          rw [if_pos rfl]
          refine ⟨_, rfl, _, rfl, q, _, rfl, DGet.k (k := Sum.inr b) (s0 _ _ hq), _, rfl, ?_⟩
          rw [val_prs]
          by_cases ma : b ∈ t.map Prod.fst
          · obtain ⟨pa, hp⟩ := par_some o.nd ma
            rw [hp]
            exact iteF (no (by rw [eb, show placeV t (.str b) = true from decide_eq_true (.inr ma)] <;> rfl))
          · rw [par_none ma]
            exact iteT ⟨_, rfl, yes (by rw [eb, show placeV t (.str b) = false from decide_eq_false (by rintro (h | h); exact e h; exact ma h)] <;> rfl)⟩
      · rw [decide_eq_false eT]
        have e0 : placeV t z = false := by
          cases z with
          | str z => exact absurd rfl (dz.str_no eT z)
          | _ => rfl
        show if true = true then _ else _
        rw [if_pos rfl]
        exact iteT ⟨_, rfl, yes (by rw [eb, e0] <;> rfl)⟩
    · intro H2 ⟨q1, q2⟩
      refine ⟨_, rfl, by show 0 ≤ sizeLine; omega, fun e0 ne0 => ?_⟩
      have te := same_new (o := .lst ([] : List V)) ne0
      refine ⟨D, e0, _, rfl, rfl, te _ _ q2, upd_same, _, rfl, ?_⟩
      have s2 : Same H (upd H2 e0 (.lst [])) := (s1.trans q1).trans te
      rw [List.length_map]
      cases eo : oddI t xs xs.length with
      | nil =>
        rw [eo] at k
        exact iteF (k _ s2)
      | cons i l =>
        rw [eo] at k q2
        have k : ∀ p H', Same H H' → H p = none → H' p = some (.tup [.str "place", .int (i : Int)]) → Q (.ref p) H' := k
        rw [decide_eq_false (show ¬ (i :: l).length = 0 from Nat.succ_ne_zero _)]
        show if true = true then _ else _
        rw [if_pos rfl]
        refine ⟨_, rfl, D, _, 0, .int (i : Int), rfl, rfl, SqL.of (te _ _ q2), atI_nat (j := 0) rfl, by show 2 ≤ sizeLine; omega, fun p np => ?_⟩
        exact k p _ (s2.trans (same_new np)) (s2.free np) upd_same
end
end FT


/-! xs.count(y), flat items -/
namespace L2
open PySem PySem.Spec PyProof.Rows
theorem countP_eqU {x : V} : ∀ {xs : List V} {us : List Value}, Vals xs us → xs.all flatV = true → us.countP (eqU x) = xs.countP fun y => eqV y x
  | _, _, .nil, _ => rfl
  | y :: xs, u :: us, .cons r t, f => by
    rw [List.all_cons, Bool.and_eq_true] at f
    rw [List.countP_cons, List.countP_cons, countP_eqU t f.2, eqU_of r f.1]
def rCntF (K : PySem.W.Frag) : V → List V → Hp → VK → Prop := fun x xs H Q => ∃ (a : Addr) (ys : List V) (y : V), x = .ref a ∧ xs = [y] ∧ SqL K H a ys ∧ flatV y = true ∧ ys.all flatV = true ∧ Q (.int ((ys.countP fun z => eqV z y : Nat) : Int)) H
variable {X : Cx}
theorem mt_countF : MtR X "list.count" (rCntF X.K) := by
  intro pins s σ H x xs v us Q I rx rxs ⟨a, ys, y, ex, exs, hs, fy, fys, q⟩
  subst ex
  subst exs
  cases rx
  match us, rxs with
  | [uy], .cons ry .nil =>
    obtain ⟨its, rv, ⟨⟨cls, dd, data, sl⟩, n, ho, hc, hdn, hd⟩, hlen⟩ := I.list hs
    simp only at hc hd
    subst hc hd
    refine call_meets PySem.F.slot_list_count ⟨_, ho, rfl⟩ PySem.F.entry_list_count (PySem.F.args_list_count_2 _ _)
      (SeqAt.list_countAt a its.toArray n dd sl uy (eqU y)) ⟨ho, fun u hu => mem_eqAt ry fy rv fys u (by simpa using hu), ?_⟩
    refine ⟨.int ((ys.countP fun z => eqV z y : Nat) : Int), H, I.tok _, ⟨s.toks, ?_⟩, q⟩
    show Value.int ((its.toArray.toList.countP (eqU y) : Nat) : Int) s.toks = Value.int ((ys.countP fun z => eqV z y : Nat) : Int) s.toks
    rw [show its.toArray.toList = its from rfl, countP_eqU rv fys]
end L2


/-! Own: a lambda handed to a def that calls it in a try: what is raised is wished for at the caller's very slots (the library's rule asks it for all slots). -/
namespace L2
open PySem PySem.Spec PyProof.Rows LamX
section
variable {X : Cx} {pins : List (Addr × Obj)} {σ : St} {H : Hp} {s : Shared}
theorem pe_actS {CXg : CXT} {Eg : XK} {Ng : List Str} {qg : Str} {sg : Scope} {g f c' : Addr} {cdg pm ctv : Value} {params : Arguments} {body : Expr} {scope : Scope} {k i : Nat} {a : Str} {pn : List (Addr × Obj)} {xe : Value → Shared → Prop} {W : WX} {tb : XK → TE} {p1 p2 : Pos}
    (I : Inv X pins σ H s) (L : LamS X.env.scope scope) (here : s.heap.get? f = some (PySem.W.kla_obj "<lambda>" (X.env.qual ++ "<lambda>") params body scope (cloFrom X.env.cells scope.names []) pm c' ctv)) (fno : H f = none) (ffr : f ∉ frs X.stack)
    (bd : bindArgs (PySem.W.kla_fn "<lambda>" (X.env.qual ++ "<lambda>") params body scope (cloFrom X.env.cells scope.names []) pm (.ref c') ctv) ⟨[], []⟩ = pure []) (tk : Takes ((cxOf CXg X.prog X.w X.K X.mg X.base Ng qg sg g cdg X.A X.stack s H Eg).tr pn xe) W)
    (room : Room (k + 1) (X.A.deeper (envOfC qg sg s.heap.objs.size g cdg))) (walk : ∀ (A : Around) (outer : List Env) (s : Shared) (H : Hp) (E : XK), Room k (A.deeper (lamEnv X scope s.heap.objs.size f c')) → PE (lamCx X A outer s H E scope f c') body (tb E))
    (hN : Ng[i]? = some a) (hv : Vis sg a) (hd : (a == ("__debug__" : Str)) = false := by decide) (hcd : (a == ("__classdict__" : Str)) = false := by decide) :
    PE ((cxOf CXg X.prog X.w X.K X.mg X.base Ng qg sg g cdg X.A X.stack s H Eg).tr pn xe) (.Call (.Name a p1) [] [] p2)
      (fun τ HZ Q => ∃ (Ech : XK) (Qn : VK), (∀ cls d H', Ech cls d H' → W cls d τ H') ∧ (∀ v H', Qn v H' → Q v H') ∧ τ[i]? = some (some (.ref f)) ∧ HZ c' = some (CodeO c' (X.env.qual ++ "<lambda>")) ∧ tb Ech σ HZ Qn) := by
  constructor
  intro pz sz τ HZ Q IZ ⟨Ech, Qn, imp, impQ, slot, code, want⟩
  refine wpAny_Call_Name_kw (thn ((pe_var (pos := p1) (i := i) hN hv hd hcd).run pz sz τ HZ (fun v H1 => v = .ref f ∧ H1 = HZ) IZ ⟨.ref f, slot, rfl, rfl⟩) fun u s1 ⟨v, H1, I1, r1, ev, eH⟩ => ?_)
  subst ev
  subst eH
  cases (show u = Value.ref f from r1)
  have still : s1.heap.get? f = some (PySem.W.kla_obj "<lambda>" (X.env.qual ++ "<lambda>") params body scope (cloFrom X.env.cells scope.names []) pm c' ctv) := I1.base.keep f _ here fno ffr (by simp [cxOf, Cx.tr])
  have grown : Un (frs X.stack) [] H H1 s.heap s1.heap := I1.base
  obtain ⟨⟨oc, ws, t, e1, e2, e3⟩, _, _⟩ := I1.hok c' _ code
  refine PySem.W.callWith_F0 ⟨_, _, _, _, still⟩ (wpAny_call (codeAny_mono (R := CR (L2.CX X.prog X.w) (envOfC qg sg s.heap.objs.size g cdg :: X.stack) X.prog X.w H1 s1 Qn Ech) ?_ fun r s' z => ?_))
  · show codeAny _ _ (.call (.ref f) ⟨[], []⟩) _ s1
    refine PySem.W.kla_callFunE room.depth still rfl L.co L.gen rfl ⟨c', oc, ws, t, rfl, e1, e2, e3⟩ ?_
    rw [bd]
    refine wpAny_pure (wpAny_newFunctionEnv (fun y hy => (L.own y hy).2) (fun y hy => absurd hy (by simp)) (fun h₁ ns sb => ⟨I1.nolimit.fresh _ sb, ?_⟩) L.kind)
    have kp : ∀ b o, s1.heap.get? b = some o → h₁.get? b = some o := fun b o e => sb.extBut b o (Nat.ne_of_lt (Heap.lt_size e)) (Heap.get?_push_of_some _ e)
    have J : Inv (lamCx X (X.A.deeper (envOfC qg sg s.heap.objs.size g cdg)) (envOfC qg sg s.heap.objs.size g cdg :: X.stack) s1 H1 Ech scope f c') [] σ H1 { s1 with heap := h₁, toks := s1.toks + ([] : List (Str × Value)).length } := lam_start2 I L I1.env0 room.hd grown ns kp
    exact PySem.W.kla_codeExpr (wpAny_mono ((walk _ _ s1 H1 _ (room.deeper _)).run [] _ _ H1 Qn J want) (fun v s' ⟨w, H', J', rv, q⟩ => ⟨w, H', J'.os, J'.bare, J'.base, J'.hok, rv, q⟩) fun _ _ z => z)
  · match r, z with
    | .error e, z => exact tk e s' (XE.of_call I1 (fun cls d H' h => imp cls d H' h) z)
    | .ok (.ret u), z =>
      obtain ⟨v, H2, J2, rv, q⟩ := I1.after z
      exact ⟨v, H2, J2, rv, impQ v H2 q⟩
    | .ok .next, z => exact z.elim
    | .ok .brk, z => exact z.elim
    | .ok .cont, z => exact z.elim
end
/-- the def that calls what it got, in its slot 0 -/
def GivesS (X : Cx) (Ng : List Str) (x : Str) (sg : Scope) (g : Addr) (cdg : Value) (bg : List Stmt) (a : Str) (q : Str) (TT : (XK → Hp → VK → Prop) → Hp → VK → Prop) : Prop :=
  ∀ (f c' : Addr) (s : Shared) (H : Hp) (Q : VK) (tl : XK → Hp → VK → Prop),
    (∀ (W : WX) (pn : List (Addr × Obj)) (xe : Value → Shared → Prop) (p1 p2 : Pos), Takes ((cxOf C8.CX0 X.prog X.w X.K X.mg X.base Ng x sg g cdg X.A X.stack s H C8.E0).tr pn xe) W →
      PE ((cxOf C8.CX0 X.prog X.w X.K X.mg X.base Ng x sg g cdg X.A X.stack s H C8.E0).tr pn xe) (.Call (.Name a p1) [] [] p2) (fun τ HZ Q => ∃ (Ech : XK) (Qn : VK), (∀ cls d H', Ech cls d H' → W cls d τ H') ∧ (∀ v H', Qn v H' → Q v H') ∧ τ[0]? = some (some (.ref f)) ∧ HZ c' = some (CodeO c' q) ∧ tl Ech HZ Qn)) →
    H c' = some (CodeO c' q) → TT tl H Q → ∃ t, PSs (cxOf C8.CX0 X.prog X.w X.K X.mg X.base Ng x sg g cdg X.A X.stack s H C8.E0).nox bg t ∧ t { nx := fun _ H' => Q .non H', rt := Q } (L2.start Ng [.ref f]) H
/-- x(lambda: body), x such a def -/
theorem pe_lamS {X : Cx} {T : List (Addr × Str)} {TT : (XK → Hp → VK → Prop) → Hp → VK → Prop} {x a : Str} {g c P : Addr} {k : Nat} {st : Stmt} {fd : FuncData} {Ng : List Str} {params : Arguments} {body : Expr} {scope : Scope} {t : XK → TE} {p lpos pos : Pos} (hg : Gl X x) (hm : X.mg x = some (.ref g))
    (F : Fun X.K x x st g fd) (hb : Binds X.K fd [a] []) (Sg : FnScope Ng [a] (defScope st)) (hNg : Ng[0]? = some a) (hva : Vis (defScope st) a) (gives : ∀ cdg, GivesS X Ng x (defScope st) g cdg (defBody st) a (X.env.qual ++ "<lambda>") TT)
    (TB : TabB X.base X.mg c P) (code : X.env.code = .ref c) (mT : (P, X.env.qual ++ "<lambda>") ∈ T) (uT : ∀ p ∈ T, p.1 = P → p.2 = X.env.qual ++ "<lambda>") (room : Room (k + 2) X.A) (L : LamS X.env.scope scope) (dfl : defaultsOf params X.env = ([], []))
    (bd : ∀ (q : Str) (cl : List (Str × Addr)) (pm cv ctv : Value), bindArgs (PySem.W.kla_fn "<lambda>" q params body scope cl pm cv ctv) ⟨[], []⟩ = pure [])
    (walk : ∀ (A : Around) (outer : List Env) (s : Shared) (H : Hp) (E : XK) (f c' : Addr), Room k (A.deeper (lamEnv X scope s.heap.objs.size f c')) → PE (lamCx X A outer s H E scope f c') body (t E))
    (hdb : (x == ("__debug__" : Str)) = false := by decide) (hd : (a == ("__debug__" : Str)) = false := by decide) (hcd : (a == ("__classdict__" : Str)) = false := by decide) : PE X (.Call (.Name x p) [.Lambda params body scope lpos] [] pos) (tLam T TT t) := by
  constructor
  intro pins s σ H Q I ⟨hT, want⟩
  refine wpAny_Call_Name_kw (ld_glob I hg hm ?_ hdb)
  refine PySem.W.callWith_K (h₀ := X.base) I.ok.mod.kin F.kp (pos := pos) ?_ (by rfl) (by rfl)
  show wpAny _ _ (spliced ((false, eval (.Lambda params body scope lpos) X.env) :: backTo pos (starEach [] X.env))) _ _ s
  refine Calls.spliced_cons (lam_make2 I TB code mT uT hT dfl (L.has I.ok) fun f c' pm' ctv H1 s' I1 eN T1 of fn fr co => Calls.spliced_nil ⟨I1.kIn, wpAny_call (codeAny_mono (R := CR C8.CX0 X.stack X.prog X.w H1 s' Q C8.E0) ?_ fun r s2 z => ?_)⟩)
  · obtain ⟨oc, od, kV, doc, pm, an, cdv, ct, osl, rfl, lk, cin⟩ := F.ex
    refine run_ofS (N := Ng) (ps := [a]) (us := [.ref f]) (vs := [.ref f]) lk cin Sg room I1.env0 (hb s' [.ref f] I1.kIn rfl) (.cons rfl .nil) rfl fun room' => ?_
    obtain ⟨t', term, q⟩ := gives cdv f c' s' H1 Q (fun E H' Q' => t E σ H' Q') (fun W pn xe p1 p2 tk => pe_actS (i := 0) I1 L of fn fr (bd _ _ _ _ _) tk room' (fun A outer s H E hr2 => walk A outer s H E f c' hr2) hNg hva hd hcd) co (want H1 eN T1)
    exact ⟨t', term.nox, q⟩
  · match r, z with
    | .error e, z => exact (show False from z).elim
    | .ok (.ret u), z => exact I1.after z
    | .ok .next, z => exact z.elim
    | .ok .brk, z => exact z.elim
    | .ok .cont, z => exact z.elim
end L2


/-! isinstance of an exception of an own class, by a tuple of classes -/
namespace L2
open PySem PySem.Spec PyProof.Rows
section
variable {X : Cx}
def rIsXT (K : PySem.W.Frag) : List V → Hp → VK → Prop := fun xs H Q => ∃ (a C : Addr) (fs : List (Str × V)) (tp : Addr) (cs : List V) (ws : List Value) (b : Bool), xs = [.ref a, .ref tp] ∧ H tp = some (.tup cs) ∧ Paired ClsV cs ws ∧ XCls K C ∧ XV H a C fs ∧ PySem.W.kitAny K (.ref C) ws = some b ∧ Q (.bl b) H
end
end L2


/-! _law_told of k04: what it makes of a lambda -/
namespace FT
open PySem L2 TL ClX LamX NdefX
def cnT (i : Nat) : Str := (["InvalidUsers", "InvalidPlace", "UnknownUser", "UnknownName", "Mismatch"] : List Str).getD i ""
def wdT (i : Nat) : Str := (["users", "place", "user", "name"] : List Str).getD i ""
def flT (i : Nat) : Option Str := ([none, some ("user" : Str), some ("user" : Str), some ("name" : Str)] : List (Option Str)).getD i none
/-- the attribute that is told -/
def FldT (H : Hp) (d : Option Addr) (v : V) : Option Str → Prop
  | some f => ∃ dd, d = some dd ∧ H dd = some (.xd [(f, v)])
  | none => v = .non ∧ (d = none ∨ ∃ dd fs, d = some dd ∧ H dd = some (.xd fs))
def TTold (C : Nat → Addr) : (XK → Hp → VK → Prop) → Hp → VK → Prop := fun tl H Q =>
  tl (fun cls d H' => ∃ i v, i < 4 ∧ cls = .ref (C i) ∧ FldT H' d v (flT i) ∧ ∀ p H'', Same H' H'' → H' p = none → H'' p = some (.tup [.str (wdT i), v]) → Q (.ref p) H'') H
    fun v H' => Q v H'
structure Cl5T (K : PySem.W.Frag) (mg : Str → Option Value) (R : Addr) (C : Nat → Addr) : Prop where
  gR : mg "RolloutError" = some (.ref R)
  g : ∀ i, i < 5 → mg (cnT i) = some (.ref (C i))
  x : ∀ i, i < 4 → XCls K (C i)
  kit : ∀ i j, i < 4 → j < 5 → PySem.W.kitOne K (.ref (C i)) (.ref (C j)) = some (decide (i = j))
  kitV : ∀ i, i < 4 → PySem.W.kitOne K (.ref (C i)) (.type "ValueError") = some true
  te : ∀ i, i < 4 → PySem.W.exmOne K (.ref (C i)) (.ref R) = some true
  no : ∀ i f, i < 4 → flT i = some f → PySem.W.findIn K (.ref (C i)) f = some none
theorem XV_monoT {H H' : Hp} {a C : Addr} {fs : List (Str × V)} (s : Same H H') (x : XV H a C fs) : XV H' a C fs := by
  rcases x with ⟨x, e⟩ | ⟨dx, x, y⟩
  · exact .inl ⟨x.elim (fun q => .inl (s _ _ q)) (fun q => .inr (s _ _ q)), e⟩
  · exact .inr ⟨dx, x.elim (fun q => .inl (s _ _ q)) (fun q => .inr (s _ _ q)), y.elim (fun q => .inl (s _ _ q)) (fun q => .inr (s _ _ q))⟩
def marks4 (i : Nat) : List V := (List.range 4).map fun j => .bl (decide (i = j))
theorem upTo4 {Pr : Nat → Prop} (h0 : Pr 0) (h1 : Pr 1) (h2 : Pr 2) (h3 : Pr 3) : ∀ i, i < 4 → Pr i := by
  intro i hi
  match i, hi with
  | 0, _ => exact h0
  | 1, _ => exact h1
  | 2, _ => exact h2
  | 3, _ => exact h3
theorem marks4_flat (i : Nat) : (marks4 i).all flatV = true := rfl
theorem marks4_count : ∀ i, i < 4 → (marks4 i).countP (fun z => eqV z (.bl true)) = 1 := upTo4 rfl rfl rfl rfl
theorem marks4_get (i : Nat) : ∀ m, m < 4 → (marks4 i)[m]? = some (.bl (decide (i = m))) := upTo4 rfl rfl rfl rfl
abbrev NTd : List Str := ["_law_work", "_law_error", "_law_value", "e", "_law_marks"]
theorem scTd : FnScope NTd ["_law_work"] (defScope s__law_told) := ⟨rfl, rfl, rfl, by decide +kernel, rfl, by decide +kernel, by decide +kernel⟩
theorem isi_rdT {K : PySem.W.Frag} {σ : St} {H : Hp} {a Ci D : Addr} {fs : List (Str × V)} {b : Bool} {Q : VK} (h0 : σ[1]? = some (some (.ref a))) (X : XCls K Ci) (xv : XV H a Ci fs) (kit : PySem.W.kitOne K (.ref Ci) (.ref D) = some b) (q : Q (.bl b) H) :
    tCB (rIsX K) (tCons (tVar 1) (tCons (tC (.ref D)) tNil)) σ H Q := ⟨_, h0, a, Ci, fs, .ref D, _, b, rfl, .own _, X, xv, kit, q⟩
theorem told_gives {X : Cx} {g R : Addr} {C : Nat → Addr} {cdg : Value} {q : Str} (N : Nm X.mg) (L : Cl5T X.K X.mg R C) : GivesS X NTd "_law_told" (defScope s__law_told) g cdg (defBody s__law_told) "_law_work" q (TTold C) := by
  intro f c' s H Q tl act hc h
  refine ⟨_, pss_cons (ps_set (i := 1) scTd.nd rfl (.inl rfl) pe_non)
    (pss_cons (ps_try_keep (X := (cxOf C8.CX0 X.prog X.w X.K X.mg X.base NTd "_law_told" (defScope s__law_told) g cdg X.A X.stack s H C8.E0).nox) (c := .ref R) (i := 3)
      rfl rfl rfl scTd.nd rfl rfl ⟨rfl, by decide, .inl L.gR⟩ LamX.takes0 (fun W pn xe tk _ => pss_one (ps_set (i := 2) scTd.nd rfl (.inl rfl) (act W pn xe _ _ tk))) (fun a oe cls d pn hz hf => pss_one (ps_set (i := 1) scTd.nd rfl (.inl rfl) (pv 3))))
    (pss_cons (ps_if (pt_cmpR op_isN (pv 1) pe_non (nomark _)) (pss_one (ps_ret (pv 2))) pss_nil)
    (pss_cons (ps_set (i := 4) scTd.nd rfl (.inl rfl) (pe_lst (pa_cons (pe_callB call_isX (by rfl) N.isi (by decide +kernel) (pa_cons (pv 1) (pa_cons (pe_glob (v := .ref (C 0)) rfl (L.g 0 (by decide)) rfl) pa_nil))) (pa_cons (pe_callB call_isX (by rfl) N.isi (by decide +kernel) (pa_cons (pv 1) (pa_cons (pe_glob (v := .ref (C 1)) rfl (L.g 1 (by decide)) rfl) pa_nil)))
      (pa_cons (pe_callB call_isX (by rfl) N.isi (by decide +kernel) (pa_cons (pv 1) (pa_cons (pe_glob (v := .ref (C 2)) rfl (L.g 2 (by decide)) rfl) pa_nil))) pa_nil)))))
    (pss_cons (ps_expr (pe_bm PySem.F.plainAttrs_list PySem.F.slot_list_append PySem.F.type_list_append mt_append (pv 4) (pa_cons (pe_callB call_isX (by rfl) N.isi (by decide +kernel) (pa_cons (pv 1) (pa_cons (pe_glob (v := .ref (C 3)) rfl (L.g 3 (by decide)) rfl) pa_nil))) pa_nil)))
    (pss_cons (ps_if (PW.pt (pw_or (pt_cmpR op_ne (pe_bm PySem.F.plainAttrs_list PySem.F.slot_list_count PySem.F.type_list_count mt_countF (pv 4) (pa_cons pe_bl pa_nil)) pe_int (nomark _))
        (pw_or (pt_val (pe_callB call_isX (by rfl) N.isi (by decide +kernel) (pa_cons (pv 1) (pa_cons (pe_glob (v := .ref (C 4)) rfl (L.g 4 (by decide)) rfl) pa_nil))))
        (pw_or1 (pt_not (pt_val (pe_callB call_isX (by rfl) N.isi (by decide +kernel) (pa_cons (pv 1) (pa_cons (pe_bltn (v := .ty "ValueError") (u := .type "ValueError") (by rfl) N.vE (by decide +kernel) rfl) pa_nil))))))))) (pss_one (ps_ret (pe_tup (pa_cons pe_str (pa_cons pe_non pa_nil))))) pss_nil)
    (pss_cons (ps_if (pt_val (pe_ix ix_list (pv 4) pe_int (fun _ _ => rfl))) (pss_one (ps_ret (pe_tup (pa_cons pe_str (pa_cons pe_non pa_nil))))) pss_nil)
    (pss_one (ps_ret (pe_ifExp (pt_val (pe_ix ix_list (pv 4) pe_int (fun _ _ => rfl))) (pe_tup (pa_cons pe_str (pa_cons (pe_xfld (pv 1)) pa_nil)))
      (pe_tup (pa_cons (pe_ix ix_list (pe_lst (pa_cons pe_str (pa_cons pe_str pa_nil))) (pe_callTy call_int1 (by rfl) N.int (by decide +kernel) (pa_cons (pe_ix ix_list (pv 4) pe_int (fun _ _ => rfl)) pa_nil)) (fun _ _ => rfl)) (pa_cons (pe_xfld (pv 1)) pa_nil)))))))))))), ?_⟩
  have big : 1000 ≤ sizeLine := by decide
  refine ⟨_, _, fun cls d H' z => ?_, fun v H' z => ?_, rfl, hc, h⟩
  · obtain ⟨i, v, hi, rfl, hd, k⟩ := z
    refine ⟨true, C i, rfl, L.te i hi, fun _ a ha => ⟨_, rfl, ?_⟩, fun z => nomatch z⟩
    obtain ⟨H2, e2⟩ : ∃ X, X = upd H' a (exg a (C i) d) := ⟨_, rfl⟩
    have s2 : Same H' H2 := e2 ▸ same_new ha
    obtain ⟨fs, xv, hfs⟩ : ∃ fs, XV H2 a (C i) fs ∧ ∀ f, flT i = some f → fs.lookup f = some v := by
      cases ef : flT i with
      | some f =>
        rw [ef] at hd
        obtain ⟨dd, rfl, hdd⟩ := hd
        refine ⟨[(f, v)], .inr ⟨dd, .inr (by rw [e2]; exact upd_same), .inr (s2 _ _ hdd)⟩, fun f' e => ?_⟩
        rw [← Option.some.inj e]
        simp [List.lookup]
      | none =>
        rw [ef] at hd
        obtain ⟨_, hd⟩ := hd
        rcases hd with rfl | ⟨dd, fs, rfl, hdd⟩
        · exact ⟨[], .inl ⟨.inr (by rw [e2]; exact upd_same), rfl⟩, fun f' e => by cases e⟩
        · exact ⟨fs, .inr ⟨dd, .inr (by rw [e2]; exact upd_same), .inr (s2 _ _ hdd)⟩, fun f' e => by cases e⟩
    subst e2
    have Xi := L.x i hi
    refine ⟨_, rfl, rfl, _, rfl, iteF ?_⟩
    refine isi_rdT rfl Xi xv (L.kit i 0 hi (by decide)) (isi_rdT rfl Xi xv (L.kit i 1 hi (by decide)) (isi_rdT rfl Xi xv (L.kit i 2 hi (by decide)) ⟨by show 3 ≤ sizeLine; omega, fun p1 n1 => ?_⟩))
    have s3 := same_new (o := .lst ([.bl (decide (i = 0)), .bl (decide (i = 1)), .bl (decide (i = 2))] : List V)) n1
    have a3 := upd_same (H := upd H' a (exg a (C i) d)) (a := p1) (o := .lst ([.bl (decide (i = 0)), .bl (decide (i = 1)), .bl (decide (i = 2))] : List V))
    have xv3 := XV_monoT s3 xv
    refine ⟨_, rfl, .inl ⟨rfl, _, SqL.of a3⟩, isi_rdT rfl Xi xv3 (L.kit i 3 hi (by decide)) ⟨p1, _, _, rfl, rfl, a3, (by show 3 < sizeLine; omega), ?_⟩⟩
    obtain ⟨H5, e5⟩ : ∃ X, X = upd (upd (upd H' a (exg a (C i) d)) p1 (.lst ([.bl (decide (i = 0)), .bl (decide (i = 1)), .bl (decide (i = 2))] : List V))) p1 (.lst (marks4 i)) := ⟨_, rfl⟩
    have a5 : H5 p1 = some (.lst (marks4 i)) := by rw [e5]; exact upd_same
    have s25 : Same (upd H' a (exg a (C i) d)) H5 := by
      rw [e5, upd_upd]
      exact same_new n1
    have e5 : upd (upd (upd H' a (exg a (C i) d)) p1 (.lst ([.bl (decide (i = 0)), .bl (decide (i = 1)), .bl (decide (i = 2))] : List V))) p1 (.lst ([.bl (decide (i = 0)), .bl (decide (i = 1)), .bl (decide (i = 2))] ++ [V.bl (decide (i = 3))])) = H5 := e5.symm
    rw [e5]
    clear e5 a3 xv3 s3
    have xv5 := XV_monoT s25 xv
    have s05 : Same H' H5 := s2.trans s25
    refine ⟨_, rfl, .inl ⟨rfl, _, SqL.of a5⟩, p1, _, .bl true, rfl, rfl, SqL.of a5, marks4_flat i, rfl, rfl, _, rfl, ?_⟩
    rw [marks4_count i hi]
    refine iteF ?_
    refine isi_rdT rfl Xi xv5 (L.kit i 4 hi (by decide)) ⟨_, rfl, ?_⟩
    rw [decide_eq_false (show ¬ i = 4 by omega)]
    refine iteF ?_
    refine ⟨_, rfl, a, C i, fs, .ty "ValueError", .type "ValueError", true, rfl, .ty _, Xi, xv5, L.kitV i hi, true, rfl, iteF ?_⟩
    have tell : ∀ r, H5 r = none → Q (.ref r) (upd H5 r (.tup [.str (wdT i), v])) := fun r nr => k r _ (s05.trans (same_new nr)) (s05.free nr) upd_same
    refine ⟨_, rfl, p1, marks4 i, 0, .bl (decide (i = 0)), rfl, rfl, SqL.of a5, atI_nat (j := 0) (marks4_get i 0 (by decide)), _, rfl, ?_⟩
    by_cases i0 : i = 0
    · subst i0
      have vn : v = .non := hd.1
      subst vn
      exact iteT ⟨by show 2 ≤ sizeLine; omega, tell⟩
    rw [decide_eq_false i0]
    refine iteF ?_
    refine ⟨_, rfl, p1, marks4 i, 3, .bl (decide (i = 3)), rfl, rfl, SqL.of a5, atI_nat (j := 3) (marks4_get i 3 (by decide)), _, rfl, ?_⟩
    by_cases i3 : i = 3
    · subst i3
      exact iteT ⟨_, rfl, a, C 3, fs, v, rfl, xv5, Xi, L.no 3 _ hi rfl, hfs _ rfl, by show 2 ≤ sizeLine; omega, tell⟩
    rw [decide_eq_false i3]
    refine iteF ?_
    refine ⟨by show 2 ≤ sizeLine; omega, fun pl npl => ?_⟩
    have s6 : Same H5 (upd H5 pl (.lst [.str "place", .str "user"])) := same_new npl
    have fu : flT i = some ("user" : Str) := by
      have : i = 1 ∨ i = 2 := by omega
      rcases this with rfl | rfl <;> rfl
    refine ⟨_, rfl, p1, marks4 i, 2, .bl (decide (i = 2)), rfl, rfl, SqL.of (s6 _ _ a5), atI_nat (j := 2) (marks4_get i 2 (by decide)), .inr ⟨_, rfl, ?_⟩⟩
    have wd : ([V.str "place", .str "user"] : List V)[if decide (i = 2) = true then 1 else 0]? = some (.str (wdT i)) := by
      have : i = 1 ∨ i = 2 := by omega
      rcases this with rfl | rfl <;> rfl
    refine ⟨pl, _, _, .str (wdT i), rfl, rfl, SqL.of upd_same, ?_, ?_⟩
    · have : i = 1 ∨ i = 2 := by omega
      rcases this with rfl | rfl
      · exact atI_nat (j := 0) rfl
      · exact atI_nat (j := 1) rfl
    refine ⟨_, rfl, a, C i, fs, v, rfl, XV_monoT s6 xv5, Xi, L.no i _ hi fu, hfs _ fu, by show 2 ≤ sizeLine; omega, fun r nr => ?_⟩
    exact k r _ ((s05.trans s6).trans (same_new nr)) ((s05.trans s6).free nr) upd_same
  · exact ⟨_, rfl, rfl, _, rfl, iteT ⟨_, rfl, z⟩⟩
end FT


/-! Own: repr of a dict whose values are data without dicts. -/
namespace L2
open PySem PySem.Spec PyProof.Rows
def kD : Key → PyData
  | .inl i => .int i
  | .inr x => .str x
/-- an entry: the key, the value, the value as data -/
abbrev EntD := Key × V × PyData
abbrev dcD (es : List EntD) : PyData := .dict (es.map fun e => (kD e.1, e.2.2))
def rReprD (K : PySem.W.Frag) : List V → Hp → VK → Prop := fun xs H Q => ∃ (a : Addr) (es : List EntD), xs = [.ref a] ∧ H a = some (.dK (es.map fun e => (e.1, e.2.1))) ∧ (∀ e ∈ es, Dp K H e.2.1 e.2.2 ∧ e.2.2.hasDict = false) ∧
  (dcD es).showable = true ∧ (dcD es).depth ≤ 60 ∧ (dcD es).shown.length ≤ sizeLine ∧ Q (.str (dcD es).shown) H
section
variable {X : Cx} {pins : List (Addr × Obj)} {σ : St} {H : Hp} {s : Shared}
end
end L2


/-! Own: repr of data with dicts anywhere (lists of dicts, dicts of lists) -/
namespace L2
open PySem PySem.Spec PyProof.Rows
mutual
/-- data, dicts among it -/
inductive DR (K : PySem.W.Frag) (H : Hp) : V → PyData → Prop
  | dat {x : V} {d : PyData} : Dp K H x d → d.hasDict = false → DR K H x d
  | dict {a : Addr} {es : List EntD} : H a = some (.dK (es.map fun e => (e.1, e.2.1))) → DRE K H es → DR K H (.ref a) (dcD es)
  | list {a : Addr} {xs : List V} {ds : List PyData} : SqL K H a xs → DRA K H xs ds → DR K H (.ref a) (.list ds)
  | tup {a : Addr} {xs : List V} {ds : List PyData} : SqT K H a xs → DRA K H xs ds → DR K H (.ref a) (.tuple ds)
inductive DRA (K : PySem.W.Frag) (H : Hp) : List V → List PyData → Prop
  | nil : DRA K H [] []
  | cons {x : V} {d : PyData} {xs : List V} {ds : List PyData} : DR K H x d → DRA K H xs ds → DRA K H (x :: xs) (d :: ds)
inductive DRE (K : PySem.W.Frag) (H : Hp) : List EntD → Prop
  | nil : DRE K H []
  | cons {k : Key} {v : V} {d : PyData} {es : List EntD} : DR K H v d → DRE K H es → DRE K H ((k, v, d) :: es)
end
section
variable {X : Cx} {pins : List (Addr × Obj)} {σ : St} {H : Hp} {s : Shared}
theorem keys_rd : ∀ {es : List EntD} {ds : List DictEntry} {vs : List (Key × Value)}, Pairs (mixKind X.prog X.w) ds vs → KV (es.map fun e => (e.1, e.2.1)) vs → (∃ as, ReadsAll s.heap (ds.map (·.key)) ((es.map fun e => (kD e.1, e.2.2)).map (·.1)) as) ∧ PyData.hasDictAll ((es.map fun e => (kD e.1, e.2.2)).map (·.1)) = false
  | [], ds, vs, p, kv => by
    cases kv
    cases p
    exact ⟨⟨_, .nil⟩, rfl⟩
  | e :: es, ds, vs, p, kv => by
    cases kv with
    | cons hq kv =>
      cases p with
      | cons pk pv p =>
        obtain ⟨⟨as, r1⟩, n1⟩ := keys_rd p kv
        obtain ⟨k, v, d⟩ := e
        obtain ⟨e1, _⟩ := hq
        have e1 : k = _ := e1
        subst e1
        rcases keyIs_shape pk with ⟨i, t, ek, ev⟩ | ⟨x, t, ek, ev⟩
        · refine ⟨?_, ?_⟩
          · rw [List.map_cons, ev]
            exact ⟨_, .cons (by show Reads _ _ (kD _) _; rw [ek]; exact .int i t) r1⟩
          · show (PyData.hasDict (kD _) || PyData.hasDictAll _) = false
            rw [n1, ek] <;> rfl
        · refine ⟨?_, ?_⟩
          · rw [List.map_cons, ev]
            exact ⟨_, .cons (by show Reads _ _ (kD _) _; rw [ek]; exact .str x t) r1⟩
          · show (PyData.hasDict (kD _) || PyData.hasDictAll _) = false
            rw [n1, ek] <;> rfl
mutual
theorem DR.rk (I : Inv X pins σ H s) : ∀ {x : V} {d : PyData}, DR X.K H x d → ∀ {u : Value}, RelV x u → d.showable = true → d.shown.length ≤ sizeLine →
    ∃ as bs, Reads s.heap u d as ∧ ReadAtMost s.heap d.depth bs ∧ ReprK X.prog X.w bs s.heap d.depth u d.shown
  | _, d, .dat h nd, u, r, ok, few => by
    obtain ⟨as, q⟩ := Dp.reads I d _ u h r
    obtain ⟨bs, h1, h2⟩ := ReprK.of_reads (prog := X.prog) (w := X.w) q ok (PyData.noDict_hsm nd) few
    exact ⟨as, bs, q, h1, h2⟩
  | _, _, .dict (a := a) (es := es) ha he, u, r, ok, few => by
    obtain rfl : u = Value.ref a := r
    obtain ⟨_, ns, vs, kv, o, ds, ep, h1, h2, h3, _, h4, _⟩ := (show ObjOk X.prog X.w H s.heap a (.dK (es.map fun e => (e.1, e.2.1))) from I.hok a _ ha)
    have few' : (dictText (PyData.shownKv (es.map fun e => (kD e.1, e.2.2)))).length ≤ sizeLine := by simpa only [PyData.shown] using few
    obtain ⟨ok1, ok2⟩ := PyData.showableKv_split (es.map fun e => (kD e.1, e.2.2)) (by simpa [PyData.showable] using ok)
    obtain ⟨⟨as, r1⟩, n1⟩ := keys_rd (s := s) h4 kv
    obtain ⟨b1, m1, k1⟩ := ReprAllK.of_readsAll (prog := X.prog) (w := X.w) r1 ok1 (fun z => by rw [n1] at z; cases z) fun t ht => let ⟨p, hp, hl⟩ := PyData.shownKv_key_le _ t ht; Nat.le_trans hl (Nat.le_trans (dictText_mem_le hp) few')
    obtain ⟨cs, b2, r2, m2, k2⟩ := DRE.rk I he h4 kv ok2 fun t ht => let ⟨p, hp, hl⟩ := PyData.shownKv_val_le _ t ht; Nat.le_trans hl (Nat.le_trans (dictText_mem_le hp) few')
    have rd : Reads s.heap (.ref a) (dcD es) _ := .dict h1 h2.1 h3 r1 r2
    have hb : ReadAtMost s.heap (PyData.depthKv (es.map fun e => (kD e.1, e.2.2))) (b1 ++ b2) := (m1.mono (PyData.depthAll_keys_le _)).append (m2.mono (PyData.depthAll_vals_le _))
    have hna : a ∉ b1 ++ b2 := not_mem_of_deeper rd (by simp only [PyData.depth]; omega) hb
    refine ⟨_, a :: (b1 ++ b2), rd, ReadAtMost.cons rd (by simp only [PyData.depth]; omega) hb, ?_⟩
    simp only [PyData.depth, PyData.shown, PyData.shownKv_eq]
    exact ReprK.dict h1 h2.1 h3 ns hna (ReprEntriesK.of_two ds.toList _ _ (k1.more_le (fun b hb => List.mem_append_left _ hb) (PyData.depthAll_keys_le _)) (k2.more_le (fun b hb => List.mem_append_right _ hb) (PyData.depthAll_vals_le _)))
  | _, _, .list (a := a) (xs := xs) (ds := ds) hx h, u, r, ok, few => by
    obtain rfl : u = Value.ref a := r
    obtain ⟨its, rv, pl, hz⟩ := I.list hx
    obtain ⟨o, n, ho, hc, hd, hdat⟩ := pl
    have few' : (listText (PyData.shownAll ds)).length ≤ sizeLine := by simpa only [PyData.shown] using few
    obtain ⟨as, bs, r1, m1, k1⟩ := DRA.rk I h rv (by simpa [PyData.showable] using ok) fun t ht => Nat.le_trans (listText_mem_le ht) few'
    have rd : Reads s.heap (.ref a) (.list ds) _ := .list ho hc hdat (by simpa using r1)
    have hna : a ∉ bs := not_mem_of_deeper rd (by simp only [PyData.depth]; omega) m1
    refine ⟨_, a :: bs, rd, ReadAtMost.cons rd (by simp only [PyData.depth]; omega) m1, ?_⟩
    simp only [PyData.depth, PyData.shown]
    cases its with
    | nil =>
      cases r1
      simp only [PyData.shownAll, listText_nil]
      exact ReprK.listEmpty ho hc hdat
    | cons x l => exact ReprK.list ho hc hdat hna (by simpa using k1.length_eq) (fun i y e => k1.item i y (by simpa using e))
  | _, _, .tup (a := a) (xs := xs) (ds := ds) hx h, u, r, ok, few => by
    obtain rfl : u = Value.ref a := r
    obtain ⟨its, rv, ⟨o, ho, hc, n, hdat⟩, hz⟩ := I.tuple hx
    have few' : (tupleText (PyData.shownAll ds)).length ≤ sizeLine := by simpa only [PyData.shown] using few
    obtain ⟨as, bs, r1, m1, k1⟩ := DRA.rk I h rv (by simpa [PyData.showable] using ok) fun t ht => Nat.le_trans (tupleText_mem_le ht) few'
    have rd : Reads s.heap (.ref a) (.tuple ds) _ := .tuple ho hc hdat (by simpa using r1)
    have hna : a ∉ bs := not_mem_of_deeper rd (by simp only [PyData.depth]; omega) m1
    refine ⟨_, a :: bs, rd, ReadAtMost.cons rd (by simp only [PyData.depth]; omega) m1, ?_⟩
    simp only [PyData.depth, PyData.shown]
    exact ReprK.tuple ho hc hdat hna (by simpa using k1)
theorem DRA.rk (I : Inv X pins σ H s) : ∀ {xs : List V} {ds : List PyData}, DRA X.K H xs ds → ∀ {us : List Value}, Vals xs us → PyData.showableAll ds = true → (∀ t ∈ PyData.shownAll ds, t.length ≤ sizeLine) →
    ∃ as bs, ReadsAll s.heap us ds as ∧ ReadAtMost s.heap (PyData.depthAll ds) bs ∧ ReprAllK X.prog X.w bs s.heap (PyData.depthAll ds) us (PyData.shownAll ds)
  | _, _, .nil, _, .nil, _, _ => ⟨[], [], .nil, (fun _ h => nomatch h), by simp only [PyData.shownAll]; exact .nil⟩
  | _, _, .cons (d := d) (ds := ds) h hs, _, .cons r rs, ok, few => by
    have ok' : d.showable = true ∧ PyData.showableAll ds = true := by simpa [PyData.showableAll] using ok
    obtain ⟨a1, b1, r1, m1, k1⟩ := DR.rk I h r ok'.1 (few _ (by simp only [PyData.shownAll]; exact List.mem_cons_self ..))
    obtain ⟨a2, b2, r2, m2, k2⟩ := DRA.rk I hs rs ok'.2 (fun t ht => few t (by simp only [PyData.shownAll]; exact List.mem_cons_of_mem _ ht))
    refine ⟨_, b1 ++ b2, .cons r1 r2, ?_, ?_⟩
    · intro b hm
      simp only [PyData.depthAll]
      rcases List.mem_append.mp hm with hm | hm
      · obtain ⟨d', as', r', hd'⟩ := m1 b hm
        exact ⟨d', as', r', Nat.le_trans hd' (Nat.le_max_left _ _)⟩
      · obtain ⟨d', as', r', hd'⟩ := m2 b hm
        exact ⟨d', as', r', Nat.le_trans hd' (Nat.le_max_right _ _)⟩
    · simp only [PyData.depthAll, PyData.shownAll]
      exact .cons ((k1.more fun b hb => List.mem_append_left _ hb).level_le (Nat.le_max_left _ _)) (k2.more_le (fun b hb => List.mem_append_right _ hb) (Nat.le_max_right _ _))
theorem DRE.rk (I : Inv X pins σ H s) : ∀ {es : List EntD}, DRE X.K H es → ∀ {ds : List DictEntry} {vs : List (Key × Value)}, Pairs (mixKind X.prog X.w) ds vs → KV (es.map fun e => (e.1, e.2.1)) vs → PyData.showableAll ((es.map fun e => (kD e.1, e.2.2)).map (·.2)) = true → (∀ t ∈ PyData.shownAll ((es.map fun e => (kD e.1, e.2.2)).map (·.2)), t.length ≤ sizeLine) →
    ∃ as bs, ReadsAll s.heap (ds.map (·.val)) ((es.map fun e => (kD e.1, e.2.2)).map (·.2)) as ∧ ReadAtMost s.heap (PyData.depthAll ((es.map fun e => (kD e.1, e.2.2)).map (·.2))) bs ∧ ReprAllK X.prog X.w bs s.heap (PyData.depthAll ((es.map fun e => (kD e.1, e.2.2)).map (·.2))) (ds.map (·.val)) (PyData.shownAll ((es.map fun e => (kD e.1, e.2.2)).map (·.2)))
  | _, .nil, ds, vs, p, kv, _, _ => by
    cases kv
    cases p
    exact ⟨[], [], .nil, (fun _ h => nomatch h), by simp only [List.map_nil, PyData.shownAll]; exact .nil⟩
  | _, .cons (d := d) (es := es) h hs, ds, vs, p, kv, ok, few => by
    cases kv with
    | cons hq kv =>
      cases p with
      | cons pk pv p =>
        obtain ⟨e1, rv⟩ := hq
        rw [← pv] at rv
        have ok' : d.showable = true ∧ PyData.showableAll ((es.map fun e => (kD e.1, e.2.2)).map (·.2)) = true := by simpa [PyData.showableAll] using ok
        obtain ⟨a1, b1, r1, m1, k1⟩ := DR.rk I h rv ok'.1 (few _ (by simp only [List.map_cons, PyData.shownAll]; exact List.mem_cons_self ..))
        obtain ⟨a2, b2, r2, m2, k2⟩ := DRE.rk I hs p kv ok'.2 (fun t ht => few t (by simp only [List.map_cons, PyData.shownAll]; exact List.mem_cons_of_mem _ ht))
        refine ⟨_, b1 ++ b2, .cons r1 r2, ?_, ?_⟩
        · intro b hm
          simp only [List.map_cons, PyData.depthAll]
          rcases List.mem_append.mp hm with hm | hm
          · obtain ⟨d', as', r', hd'⟩ := m1 b hm
            exact ⟨d', as', r', Nat.le_trans hd' (Nat.le_max_left _ _)⟩
          · obtain ⟨d', as', r', hd'⟩ := m2 b hm
            exact ⟨d', as', r', Nat.le_trans hd' (Nat.le_max_right _ _)⟩
        · simp only [List.map_cons, PyData.depthAll, PyData.shownAll]
          exact .cons ((k1.more fun b hb => List.mem_append_left _ hb).level_le (Nat.le_max_left _ _)) (k2.more_le (fun b hb => List.mem_append_right _ hb) (Nat.le_max_right _ _))
end
def rReprR (K : PySem.W.Frag) : List V → Hp → VK → Prop := fun xs H Q => ∃ (x : V) (d : PyData), xs = [x] ∧ DR K H x d ∧ d.showable = true ∧ d.depth ≤ 60 ∧ d.shown.length ≤ sizeLine ∧ Q (.str d.shown) H
theorem call_reprR (clr : Clr X.A) (hu : X.A.units + 64 < cLine) : CallR X (.builtin "repr") (rReprR X.K) := by
  intro pins s σ H xs us Q I r h
  obtain ⟨x, d, rfl, sh, ok, dep, few, q⟩ := h
  cases sh with
  | dat h nd => exact call_repr clr hu pins s σ H _ us Q I r ⟨x, d, rfl, .inl ⟨h, nd⟩, ok, dep, few, q⟩
  | dict ha he =>
    rename_i a es
    obtain ⟨u, rfl, ru⟩ := vals1 r
    obtain rfl : u = Value.ref a := ru
    obtain ⟨_, ns, vs, kv, o, ds, ep, h1, h2, h3, _, h4, _⟩ := (show ObjOk X.prog X.w H s.heap a (.dK (es.map fun e => (e.1, e.2.1))) from I.hok a _ ha)
    have few' : (dictText (PyData.shownKv (es.map fun e => (kD e.1, e.2.2)))).length ≤ sizeLine := by simpa only [PyData.shown] using few
    obtain ⟨ok1, ok2⟩ := PyData.showableKv_split (es.map fun e => (kD e.1, e.2.2)) (by simpa [PyData.showable] using ok)
    obtain ⟨⟨as, r1⟩, n1⟩ := keys_rd (s := s) h4 kv
    obtain ⟨b1, m1, k1⟩ := ReprAllK.of_readsAll (prog := X.prog) (w := X.w) r1 ok1 (fun z => by rw [n1] at z; cases z) fun t ht => let ⟨p, hp, hl⟩ := PyData.shownKv_key_le _ t ht; Nat.le_trans hl (Nat.le_trans (dictText_mem_le hp) few')
    obtain ⟨cs, b2, r2, m2, k2⟩ := DRE.rk I he h4 kv ok2 fun t ht => let ⟨p, hp, hl⟩ := PyData.shownKv_val_le _ t ht; Nat.le_trans hl (Nat.le_trans (dictText_mem_le hp) few')
    have rd : Reads s.heap (.ref a) (dcD es) _ := .dict h1 h2.1 h3 r1 r2
    have hb : ReadAtMost s.heap (PyData.depthKv (es.map fun e => (kD e.1, e.2.2))) (b1 ++ b2) := (m1.mono (PyData.depthAll_keys_le _)).append (m2.mono (PyData.depthAll_vals_le _))
    have hna : a ∉ b1 ++ b2 := not_mem_of_deeper rd (by simp only [PyData.depth]; omega) hb
    have dep' : PyData.depthKv (es.map fun e => (kD e.1, e.2.2)) + 1 ≤ 60 := by simpa only [PyData.depth] using dep
    refine call_repr_slot (by omega) ⟨o, h1, h2.1⟩ PySem.F.slot_dict_repr (call_dict_reprK h1 h2.1 h3 ns hna (ReprEntriesK.of_two ds.toList _ _ (k1.more_le (fun b hb => List.mem_append_left _ hb) (PyData.depthAll_keys_le _)) (k2.more_le (fun b hb => List.mem_append_right _ hb) (PyData.depthAll_vals_le _)))
      (g := []) clr (fun b _ => Clear.nil b) (by show X.A.units + 1 + _ < cLine; omega) (fun _ _ z => z) (fun h' t tk kp => ⟨_, _, rfl, ?_⟩) (by rw [← PyData.shownKv_eq]; exact few'))
    refine ⟨.str (dcD es).shown, H, I.kept kp, ?_, q⟩
    exact ⟨t, by rw [show (dcD es).shown = dictText (PyData.shownKv (es.map fun e => (kD e.1, e.2.2))) by simp only [PyData.shown], PyData.shownKv_eq]⟩
  | list hx h =>
    rename_i a xs ds
    have r0 := r
    obtain ⟨u, rfl, ru⟩ := vals1 r
    obtain rfl : u = Value.ref a := ru
    obtain ⟨its, rv, pl, hz⟩ := I.list hx
    obtain ⟨o, n, ho, hc, hd, hdat⟩ := pl
    have few' : (listText (PyData.shownAll ds)).length ≤ sizeLine := by simpa only [PyData.shown] using few
    obtain ⟨as, bs, r1, m1, k1⟩ := DRA.rk I h rv (by simpa [PyData.showable] using ok) fun t ht => Nat.le_trans (listText_mem_le ht) few'
    have rd : Reads s.heap (.ref a) (.list ds) _ := .list ho hc hdat (by simpa using r1)
    have hna : a ∉ bs := not_mem_of_deeper rd (by simp only [PyData.depth]; omega) m1
    have dep' : PyData.depthAll ds + 1 ≤ 60 := by simpa only [PyData.depth] using dep
    cases its with
    | nil =>
      cases rv
      cases h
      exact call_repr clr hu pins s σ H _ _ Q I r0 ⟨.ref a, .list [], rfl, .inl ⟨.lst hx .nil, rfl⟩, ok, dep, few, q⟩
    | cons y l =>
      refine call_repr_slot (by omega) ⟨o, ho, hc⟩ PySem.F.slot_list_repr.toG (call_list_reprK ho hc hdat hna (by simpa using k1.length_eq) (fun i y e => k1.item i y (by simpa using e)) (g := []) clr (fun b _ => Clear.nil b) (by show X.A.units + 1 + _ < cLine; omega) (fun _ _ z => z) (fun h' t tk kp => ⟨_, _, rfl, ?_⟩) few')
      exact ⟨.str (PyData.list ds).shown, H, I.kept kp, ⟨t, by simp only [PyData.shown]⟩, q⟩
  | tup hx h =>
    rename_i a xs ds
    obtain ⟨u, rfl, ru⟩ := vals1 r
    obtain rfl : u = Value.ref a := ru
    obtain ⟨its, rv, ⟨o, ho, hc, n, hdat⟩, hz⟩ := I.tuple hx
    have few' : (tupleText (PyData.shownAll ds)).length ≤ sizeLine := by simpa only [PyData.shown] using few
    obtain ⟨as, bs, r1, m1, k1⟩ := DRA.rk I h rv (by simpa [PyData.showable] using ok) fun t ht => Nat.le_trans (tupleText_mem_le ht) few'
    have rd : Reads s.heap (.ref a) (.tuple ds) _ := .tuple ho hc hdat (by simpa using r1)
    have hna : a ∉ bs := not_mem_of_deeper rd (by simp only [PyData.depth]; omega) m1
    have dep' : PyData.depthAll ds + 1 ≤ 60 := by simpa only [PyData.depth] using dep
    refine call_repr_slot (by omega) ⟨o, ho, hc⟩ PySem.F.slot_tuple_repr (call_tuple_reprK ho hc hdat hna (by simpa using k1) (g := []) clr (fun b _ => Clear.nil b) (by show X.A.units + 1 + _ < cLine; omega) (fun _ _ z => z) (fun h' t tk kp => ⟨_, _, rfl, ?_⟩) few')
    exact ⟨.str (PyData.tuple ds).shown, H, I.kept kp, ⟨t, by simp only [PyData.shown]⟩, q⟩
end
end L2


/-! amounts and errors of tables (plain part of FtAm) -/
namespace FT
open PySem L2 TL ClX LamX NdefX LiI
end FT


/-! amounts and errors of tables; what stands while the draws go on. -/
namespace FT
open PySem L2 TL ClX LamX NdefX LiI
theorem DrawAt.notD {H : Hp} {d c b : Addr} {o : HO} (x : DrawAt H d c) (e : H b = some o) (n : ∀ xs, o ≠ .lst xs) : b ≠ d ∧ b ≠ c := by
  obtain ⟨nx, mx, ct, cells, z1, z2, _⟩ := x
  exact ⟨ne_of e z1 (n _), ne_of e z2 (n _)⟩
theorem Dat.keepN {K : PySem.W.Frag} {H H' : Hp} {d c : Addr} {v : V} {T : String} (dr : DrawAt H d c) (dr' : DrawAt H' d c) (k : KeepN d c H H') (x : Dat K H v T) : Dat K H' v T := by
  cases x with
  | non => exact .non
  | bl b => exact .bl b
  | int i => exact .int i
  | str z => exact .str z
  | @lst a xs h =>
    obtain ⟨nx, mx, ct, cells, z1, z2, _⟩ := dr'
    by_cases e1 : a = d
    · subst e1
      exact .lst z1
    · by_cases e2 : a = c
      · subst e2
        exact .lst z2
      · exact .lst (k _ _ e1 e2 h fun ps z => nomatch z)
  | tup h => exact let ⟨e1, e2⟩ := dr.notD h (fun xs z => nomatch z); .tup (k _ _ e1 e2 h fun ps z => nomatch z)
  | dct h => exact let ⟨e1, e2⟩ := dr.notD h (fun xs z => nomatch z); .dct (k _ _ e1 e2 h fun ps z => nomatch z)
theorem SzV.keepN {K : PySem.W.Frag} {H H' : Hp} {d c : Addr} {sv : V} {o : Option (List (Key × V))} (dr : DrawAt H d c) (dr' : DrawAt H' d c) (k : KeepN d c H H') (x : SzV K H sv o) : SzV K H' sv o := by
  cases o with
  | none => exact let ⟨T, x, n⟩ := x; ⟨T, x.keepN dr dr' k, n⟩
  | some kvs =>
    obtain ⟨q, e, h, a⟩ := x
    obtain ⟨e1, e2⟩ := dr.notD h (fun xs z => nomatch z)
    exact ⟨q, e, k _ _ e1 e2 h (fun ps z => nomatch z), fun p hp => let ⟨T, x⟩ := a p hp; ⟨T, x.keepN dr dr' k⟩⟩
theorem FAt.keepN {CF x : Addr} {H H' : Hp} {d c : Addr} {ts : List (Str × Str)} (dr : DrawAt H d c) (k : KeepN d c H H') (h : FAt CF H x ts) : FAt CF H' x ts := by
  obtain ⟨dx, dq, h1, h2⟩ := h
  obtain ⟨a1, a2⟩ := dr.notD h1 (fun xs z => nomatch z)
  obtain ⟨b1, b2⟩ := dr.notD h2 (fun xs z => nomatch z)
  exact ⟨dx, dq, k _ _ a1 a2 h1 (fun ps z => nomatch z), k _ _ b1 b2 h2 (fun ps z => nomatch z)⟩
theorem KeepN.dk {H H' : Hp} {d c b : Addr} {kvs : List (Key × V)} (dr : DrawAt H d c) (k : KeepN d c H H') (h : H b = some (.dK kvs)) : H' b = some (.dK kvs) := let ⟨a1, a2⟩ := dr.notD h (fun xs z => nomatch z); k _ _ a1 a2 h (fun ps z => nomatch z)
end FT


/-! assignments stay while the draws go on; readings of ifs -/
namespace FT
open PySem L2 TL ClX LamX NdefX LiI
theorem DrawAt.notS {H : Hp} {d c b : Addr} {zs : List Str} (x : DrawAt H d c) (e : H b = some (.lst (zs.map V.str))) : b ≠ d ∧ b ≠ c := by
  obtain ⟨nx, mx, ct, cells, z1, z2, ne, _⟩ := x
  constructor
  · refine ne_of e z1 fun z => ?_
    have z := HO.lst.inj z
    cases zs with
    | nil => cases z
    | cons a zs => cases z
  · refine ne_of e z2 fun z => ?_
    have z := HO.lst.inj z
    cases cells with
    | nil => exact ne rfl
    | cons a cs =>
      cases zs with
      | nil => cases z
      | cons b zs => cases z
theorem AAt.keepN {CA y x : Addr} {H H' : Hp} {d c : Addr} {zs : List Str} (dr : DrawAt H d c) (k : KeepN d c H H') (h : AAt CA H y x zs) : AAt CA H' y x zs := by
  obtain ⟨dy, p, e1, e2⟩ := h
  obtain ⟨a1, a2⟩ := dr.notD e1 (fun xs z => nomatch z)
  obtain ⟨b1, b2⟩ := dr.notS e2
  exact ⟨dy, p, k _ _ a1 a2 e1 (fun ps z => nomatch z), k _ _ b1 b2 e2 (fun ps z => nomatch z)⟩
end FT


/-! values that may be asked for, what is told, and how it is shown (k04) -/
namespace FT
open PySem L2 TL ClX LamX NdefX LiI
def Sm (v : V) : Prop := v = .non ∨ (∃ b, v = .bl b) ∨ (∃ i : Int, v = .int i ∧ -1 ≤ i ∧ i ≤ 61) ∨ ∃ z : Str, v = .str z ∧ z.length ≤ 8 ∧ (∀ c ∈ z.cps.toList, c < 16 ^ 8) ∧ PyData.strOk z = true
theorem int_short {i : Int} (h0 : -1 ≤ i) (h1 : i ≤ 61) : PyData.leavesShort 8 (.int i) = true := by
  have all : ∀ k : Fin 63, PyData.leavesShort 8 (.int ((k.1 : Int) - 1)) = true := by decide +kernel
  have := all ⟨(i + 1).toNat, by omega⟩
  rw [show (((i + 1).toNat : Nat) : Int) - 1 = i by omega] at this
  exact this
theorem int_shows {i : Int} (h0 : -1 ≤ i) (h1 : i ≤ 61) : PyData.showable (.int i) = true := by
  have all : ∀ k : Fin 63, PyData.showable (.int ((k.1 : Int) - 1)) = true := by decide +kernel
  have := all ⟨(i + 1).toNat, by omega⟩
  rw [show (((i + 1).toNat : Nat) : Int) - 1 = i by omega] at this
  exact this
/-- what may be asked for: it stands off the drawing state -/
def OdV (d c : Addr) (H : Hp) (v : V) : Prop := Sm v ∨ ∃ a, v = .ref a ∧ a ≠ d ∧ a ≠ c ∧ ((∃ x, Sm x ∧ H a = some (.lst [x])) ∨ H a = some (.dK []))
theorem OdV.ext {d c : Addr} {H H' : Hp} {v : V} (e : ExtN H H') (h : OdV d c H v) : OdV d c H' v := by
  rcases h with h | ⟨a, rfl, h1, h2, h | h⟩
  · exact .inl h
  · obtain ⟨x, hx, h⟩ := h
    exact .inr ⟨a, rfl, h1, h2, .inl ⟨x, hx, e _ _ h fun ps z => nomatch z⟩⟩
  · exact .inr ⟨a, rfl, h1, h2, .inr (e _ _ h fun ps z => nomatch z)⟩
theorem OdV.keepN {d c : Addr} {H H' : Hp} {v : V} (e : KeepN d c H H') (h : OdV d c H v) : OdV d c H' v := by
  rcases h with h | ⟨a, rfl, h1, h2, h | h⟩
  · exact .inl h
  · obtain ⟨x, hx, h⟩ := h
    exact .inr ⟨a, rfl, h1, h2, .inl ⟨x, hx, e _ _ h1 h2 h fun ps z => nomatch z⟩⟩
  · exact .inr ⟨a, rfl, h1, h2, .inr (e _ _ h1 h2 h fun ps z => nomatch z)⟩
theorem OdV.dat {K : PySem.W.Frag} {d c : Addr} {H : Hp} {v : V} (h : OdV d c H v) : IsDat K H v := by
  rcases h with h | ⟨a, rfl, h1, h2, h | h⟩
  · rcases h with rfl | ⟨b, rfl⟩ | ⟨i, rfl, _⟩ | ⟨z, rfl, _⟩
    · exact ⟨_, .non⟩
    · exact ⟨_, .bl b⟩
    · exact ⟨_, .int i⟩
    · exact ⟨_, .str z⟩
  · exact ⟨_, .lst h.choose_spec.2⟩
  · exact ⟨_, .dct h⟩
/-- short data of v -/
structure ShD (K : PySem.W.Frag) (H : Hp) (v : V) (da : PyData) : Prop where
  dr : DR K H v da
  lf : PyData.leavesShort 8 da = true
  ok : da.showable = true
  dep : da.depth ≤ 3
  bk : da.bulk ≤ 1000
theorem Sm.data {v : V} (h : Sm v) : ∃ da : PyData, (∀ K H, Dp K H v da) ∧ da.hasDict = false ∧ PyData.leavesShort 8 da = true ∧ da.showable = true ∧ da.depth = 0 ∧ da.bulk ≤ 8 := by
  rcases h with rfl | ⟨b, rfl⟩ | ⟨i, rfl, h0, h1⟩ | ⟨z, rfl, l, cs, ok⟩
  · exact ⟨.none, fun _ _ => .non, rfl, rfl, rfl, rfl, by decide⟩
  · exact ⟨.bool b, fun _ _ => .bl b, rfl, rfl, rfl, rfl, by show 0 ≤ 8; decide⟩
  · exact ⟨.int i, fun _ _ => .int i, rfl, int_short h0 h1, int_shows h0 h1, rfl, by show 0 ≤ 8; decide⟩
  · refine ⟨.str z, fun _ _ => .str z, rfl, ?_, rfl, rfl, ?_⟩
    · show (z.cps.toList.all fun c => decide (c < 16 ^ 8)) = true
      rw [List.all_eq_true]
      exact fun c hc => decide_eq_true (cs c hc)
    · show z.cps.size ≤ 8
      exact l
theorem OdV.data {K : PySem.W.Frag} {d c : Addr} {H : Hp} {v : V} (h : OdV d c H v) : ∃ da, ShD K H v da ∧ da.depth ≤ 1 ∧ da.bulk ≤ 20 := by
  rcases h with h | ⟨a, rfl, h1, h2, h | h⟩
  · obtain ⟨da, dp, nd, lf, ok, dep, bk⟩ := h.data
    exact ⟨da, ⟨.dat (dp K H) nd, lf, ok, by omega, by omega⟩, by omega, by omega⟩
  · obtain ⟨x, hx, h⟩ := h
    obtain ⟨da, dp, nd, lf, ok, dep, bk⟩ := hx.data
    refine ⟨.list [da], ⟨.list (SqL.of h) (.cons (.dat (dp K H) nd) .nil), ?_, ?_, ?_, ?_⟩, ?_, ?_⟩
    · show (PyData.leavesShort 8 da && true) = true
      rw [lf] <;> rfl
    · show (da.showable && true) = true
      rw [ok] <;> rfl
    · show max da.depth 0 + 1 ≤ 3
      omega
    · show da.bulk + 1 + 0 ≤ 1000
      omega
    · show max da.depth 0 + 1 ≤ 1
      omega
    · show da.bulk + 1 + 0 ≤ 20
      omega
  · exact ⟨.dict [], ⟨.dict (es := []) h .nil, rfl, rfl, by decide, by decide⟩, by decide, by decide⟩
theorem ShD.fits {K : PySem.W.Frag} {H : Hp} {v : V} {da : PyData} (h : ShD K H v da) : da.shown.length ≤ sizeLine := PyData.shown_fits_bulk (B := 8) (by decide) (by decide) h.lf (by have := h.bk; omega)
/-- two values are shown alike -/
def SameSh (K : PySem.W.Frag) (H : Hp) (u v : V) : Prop := ∃ da, ShD K H u da ∧ ShD K H v da
/-! ### results -/
inductive Rs where
  | err (w : Str) (v : V)
  | path (zs : List Str)
  | bool (b : Bool)
  | nums (ns : List Int)
def RsAt (H : Hp) (dv : V) : Rs → Prop
  | .err w v => ∃ p, dv = .ref p ∧ H p = some (.tup [.str w, v])
  | .path zs => ∃ p, dv = .ref p ∧ H p = some (.tup (zs.map V.str))
  | .bool b => dv = .bl b
  | .nums ns => ∃ p, dv = .ref p ∧ H p = some (.lst (ns.map V.int))
theorem RsAt.ext {H H' : Hp} {dv : V} {r : Rs} (e : ExtN H H') (h : RsAt H dv r) : RsAt H' dv r := by
  cases r with
  | err w v => exact let ⟨p, e1, h⟩ := h; ⟨p, e1, e _ _ h fun ps z => nomatch z⟩
  | path zs => exact let ⟨p, e1, h⟩ := h; ⟨p, e1, e _ _ h fun ps z => nomatch z⟩
  | bool b => exact h
  | nums ns => exact let ⟨p, e1, h⟩ := h; ⟨p, e1, e _ _ h fun ps z => nomatch z⟩
/-- it can be shown -/
def RsOk (d c : Addr) (H : Hp) : Rs → Prop
  | .err w v => Sm (.str w) ∧ OdV d c H v
  | .path zs => zs.length ≤ 20 ∧ ∀ z ∈ zs, Sm (.str z)
  | .bool b => True
  | .nums ns => ns.length ≤ 100 ∧ ∀ i ∈ ns, -1 ≤ i ∧ i ≤ 61
theorem RsOk.ext {d c : Addr} {H H' : Hp} {r : Rs} (e : ExtN H H') (h : RsOk d c H r) : RsOk d c H' r := by
  cases r with
  | err w v => exact ⟨h.1, h.2.ext e⟩
  | path zs => exact h
  | bool b => exact h
  | nums ns => exact h
theorem smS_data {z : Str} (h : Sm (.str z)) : PyData.leavesShort 8 (.str z) = true ∧ z.length ≤ 8 := by
  rcases h with e | ⟨b, e⟩ | ⟨i, e, _⟩ | ⟨z', e, l, cs, ok⟩
  · cases e
  · cases e
  · cases e
  · cases e
    refine ⟨?_, l⟩
    show (z.cps.toList.all fun c => decide (c < 16 ^ 8)) = true
    rw [List.all_eq_true]
    exact fun c hc => decide_eq_true (cs c hc)
theorem strs_short : ∀ zs : List Str, (∀ z ∈ zs, Sm (.str z)) → PyData.leavesShortAll 8 (zs.map PyData.str) = true ∧ PyData.showableAll (zs.map PyData.str) = true ∧ PyData.depthAll (zs.map PyData.str) = 0 ∧ PyData.bulkAll (zs.map PyData.str) ≤ 9 * zs.length
  | [], _ => ⟨rfl, rfl, rfl, Nat.zero_le _⟩
  | z :: zs, h => by
    obtain ⟨h1, h2, h3, h4⟩ := strs_short zs fun y hy => h y (List.mem_cons_of_mem _ hy)
    obtain ⟨g1, g2⟩ := smS_data (h z List.mem_cons_self)
    refine ⟨?_, ?_, ?_, ?_⟩
    · show (PyData.leavesShort 8 (.str z) && PyData.leavesShortAll 8 (zs.map PyData.str)) = true
      rw [g1, h1] <;> rfl
    · show (PyData.showable (.str z) && PyData.showableAll (zs.map PyData.str)) = true
      rw [h2] <;> rfl
    · show max (PyData.depth (.str z)) (PyData.depthAll (zs.map PyData.str)) = 0
      rw [h3] <;> rfl
    · show z.cps.size + 1 + PyData.bulkAll (zs.map PyData.str) ≤ 9 * (zs.length + 1)
      have : z.cps.size = z.length := rfl
      omega
theorem ints_short : ∀ ns : List Int, (∀ i ∈ ns, -1 ≤ i ∧ i ≤ 61) → PyData.leavesShortAll 8 (ns.map PyData.int) = true ∧ PyData.showableAll (ns.map PyData.int) = true ∧ PyData.depthAll (ns.map PyData.int) = 0 ∧ PyData.bulkAll (ns.map PyData.int) ≤ ns.length
  | [], _ => ⟨rfl, rfl, rfl, Nat.zero_le _⟩
  | i :: ns, h => by
    obtain ⟨h1, h2, h3, h4⟩ := ints_short ns fun y hy => h y (List.mem_cons_of_mem _ hy)
    have g1 := int_short (h i List.mem_cons_self).1 (h i List.mem_cons_self).2
    refine ⟨?_, ?_, ?_, ?_⟩
    · show (PyData.leavesShort 8 (.int i) && PyData.leavesShortAll 8 (ns.map PyData.int)) = true
      rw [g1, h1] <;> rfl
    · show (PyData.showable (.int i) && PyData.showableAll (ns.map PyData.int)) = true
      rw [int_shows (h i List.mem_cons_self).1 (h i List.mem_cons_self).2, h2] <;> rfl
    · show max (PyData.depth (.int i)) (PyData.depthAll (ns.map PyData.int)) = 0
      rw [h3] <;> rfl
    · show 0 + 1 + PyData.bulkAll (ns.map PyData.int) ≤ ns.length + 1
      omega
theorem dpsA_strs {K : PySem.W.Frag} {H : Hp} : ∀ zs : List Str, DRA K H (zs.map V.str) (zs.map PyData.str)
  | [] => .nil
  | z :: zs => .cons (.dat (.str z) rfl) (dpsA_strs zs)
theorem dpsA_ints {K : PySem.W.Frag} {H : Hp} : ∀ ns : List Int, DRA K H (ns.map V.int) (ns.map PyData.int)
  | [] => .nil
  | z :: zs => .cons (.dat (.int z) rfl) (dpsA_ints zs)
/-- the same result is shown alike -/
theorem RsAt.sh {K : PySem.W.Frag} {d c : Addr} {H : Hp} {r : Rs} (ok : RsOk d c H r) : ∃ da, ∀ u, RsAt H u r → ShD K H u da := by
  cases r with
  | err w v =>
    obtain ⟨hw, hv⟩ := ok
    obtain ⟨da, sd, dep, bk⟩ := hv.data (K := K)
    obtain ⟨g1, g2⟩ := smS_data hw
    refine ⟨.tuple [.str w, da], fun u ⟨p, e, h⟩ => ?_⟩
    subst e
    refine ⟨.tup (SqT.of h) (.cons (.dat (.str w) rfl) (.cons sd.dr .nil)), ?_, ?_, ?_, ?_⟩
    · show (PyData.leavesShort 8 (.str w) && (PyData.leavesShort 8 da && true)) = true
      rw [g1, sd.lf] <;> rfl
    · show (PyData.showable (.str w) && (da.showable && true)) = true
      rw [sd.ok] <;> rfl
    · show max (PyData.depth (.str w)) (max da.depth 0) + 1 ≤ 3
      have : PyData.depth (.str w) = 0 := rfl
      omega
    · show w.cps.size + 1 + (da.bulk + 1 + 0) ≤ 1000
      have : w.cps.size = w.length := rfl
      omega
  | path zs =>
    obtain ⟨l, hz⟩ := ok
    obtain ⟨h1, h2, h3, h4⟩ := strs_short zs hz
    refine ⟨.tuple (zs.map PyData.str), fun u ⟨p, e, h⟩ => ?_⟩
    subst e
    exact ⟨.tup (SqT.of h) (dpsA_strs zs), h1, h2, by show PyData.depthAll _ + 1 ≤ 3; omega, by show PyData.bulkAll _ ≤ 1000; omega⟩
  | bool b =>
    refine ⟨.bool b, fun u e => ?_⟩
    have e : u = .bl b := e
    subst e
    exact ⟨.dat (.bl b) rfl, rfl, rfl, by show 0 ≤ 3; decide, by show 0 ≤ 1000; decide⟩
  | nums ns =>
    obtain ⟨l, hz⟩ := ok
    obtain ⟨h1, h2, h3, h4⟩ := ints_short ns hz
    refine ⟨.list (ns.map PyData.int), fun u ⟨p, e, h⟩ => ?_⟩
    subst e
    exact ⟨.list (SqL.of h) (dpsA_ints ns), h1, h2, by show PyData.depthAll _ + 1 ≤ 3; omega, by show PyData.bulkAll _ ≤ 1000; omega⟩
/-- what a call under the lambda must answer -/
def AnsR (C : Nat → Addr) (G : Hp → Prop) (E : XK) (Q : VK) : Rs → Prop
  | .err w v => ∀ i, i < 4 → w = wdT i → ∀ d H, G H → FldT H d v (flT i) → E (.ref (C i)) d H
  | r => ∀ u H, G H → RsAt H u r → Q u H
/-- repr(told(lambda: ..)) against repr(due) -/
theorem chk_told {K : PySem.W.Frag} {T : List (Addr × Str)} {d c : Addr} {C : Nat → Addr} {σ : St} {H1 : Hp} {tt : XK → TE} {R : R2} {Q : VK} {i : Nat} {dv : V} {r : Rs} {G : Hp → Prop} (hi : σ[i]? = some (some dv)) (g1 : G H1) (gt : ∀ H, G H → Tabs T H) (ge : ∀ H H', G H → ExtN H H' → Tabs T H' → G H') (gr : ∀ H, G H → RsAt H dv r ∧ RsOk d c H r)
    (call : ∀ H2, G H2 → ∀ (E : XK) (Q' : VK), AnsR C G E Q' r → tt E σ H2 Q') (k : ∀ (z : Str) H3, G H3 → R (.str z) (.str z) H3 Q) :
    tOp R (tCB (rReprR K) (tCons (tLam T (TTold C) tt) tNil)) (tCB (rReprR K) (tCons (tVar i) tNil)) σ H1 Q := by
  refine ⟨gt _ g1, fun H2 e2 t2 => ?_⟩
  have fin : ∀ (u : V) (H3 : Hp), G H3 → RsAt H3 u r → ∃ (x : V) (da : PyData), [u] = [x] ∧ DR K H3 x da ∧ da.showable = true ∧ da.depth ≤ 60 ∧ da.shown.length ≤ sizeLine ∧ ∃ (y : V) (db : PyData), [dv] = [y] ∧ DR K H3 y db ∧ db.showable = true ∧ db.depth ≤ 60 ∧ db.shown.length ≤ sizeLine ∧ R (.str da.shown) (.str db.shown) H3 Q := fun u H3 g3 hu => by
    obtain ⟨hd, ok⟩ := gr H3 g3
    obtain ⟨da, sh⟩ := RsAt.sh (K := K) ok
    have s1 := sh u hu
    have s2 := sh dv hd
    exact ⟨u, da, rfl, s1.dr, s1.ok, by have := s1.dep; omega, s1.fits, dv, da, rfl, s2.dr, s2.ok, by have := s2.dep; omega, s2.fits, k _ _ g3⟩
  refine call H2 (ge _ _ g1 e2 t2) _ _ ?_
  cases r with
  | err w v =>
    intro j hj ew dd H3 g3 fl
    refine ⟨j, v, hj, rfl, fl, fun p H4 s4 np hp => ?_⟩
    have g4 := ge _ _ g3 (ExtN.of s4) ((gt _ g3).ext s4)
    obtain ⟨x, da, e1, q1, q2, q3, q4, y, db, e2, p1, p2, p3, p4, rest⟩ := fin (.ref p) H4 g4 ⟨p, rfl, by rw [ew]; exact hp⟩
    exact ⟨x, da, e1, q1, q2, q3, q4, _, hi, y, db, e2, p1, p2, p3, p4, rest⟩
  | path zs =>
    intro u H3 g3 hu
    obtain ⟨x, da, e1, q1, q2, q3, q4, y, db, e2, p1, p2, p3, p4, rest⟩ := fin u H3 g3 hu
    exact ⟨x, da, e1, q1, q2, q3, q4, _, hi, y, db, e2, p1, p2, p3, p4, rest⟩
  | bool b =>
    intro u H3 g3 hu
    obtain ⟨x, da, e1, q1, q2, q3, q4, y, db, e2, p1, p2, p3, p4, rest⟩ := fin u H3 g3 hu
    exact ⟨x, da, e1, q1, q2, q3, q4, _, hi, y, db, e2, p1, p2, p3, p4, rest⟩
  | nums ns =>
    intro u H3 g3 hu
    obtain ⟨x, da, e1, q1, q2, q3, q4, y, db, e2, p1, p2, p3, p4, rest⟩ := fin u H3 g3 hu
    exact ⟨x, da, e1, q1, q2, q3, q4, _, hi, y, db, e2, p1, p2, p3, p4, rest⟩
end FT


/-! _law_user_due, _law_name_due -/
namespace FT
open PySem L2 TL ClX LiI
section
variable {P : Program} {w : World} {K : PySem.W.Frag} {mg : Str → Option Value} {base : Heap}
theorem scUw : FnScope ["_law_spots_here", "_law_who"] ["_law_spots_here", "_law_who"] (defScope s__law_user_due) := ⟨rfl, rfl, rfl, by decide +kernel, rfl, by decide +kernel, by decide +kernel⟩
theorem ok_userW {f : Addr} {fd : FuncData} (F : Fun K "_law_user_due" "_law_user_due" s__law_user_due f fd) (T : Nm mg) : FnOk P w K mg base CX0 2 f fd ["_law_spots_here", "_law_who"] (spUserW K) := by
  refine F.ok scUw (fun vs H Q E h => ?_) (fun cdv A outer s H vs Q E hr h => ?_)
  · obtain ⟨l, v, zs, rfl, _⟩ := h
    rfl
  · obtain ⟨l, v, zs, rfl, hl, ⟨T0, dv⟩, k⟩ := h
    have big : 1000 ≤ sizeLine := by decide
    refine ⟨_, pss_cons (ps_if (PW.pt (pw_and (pt_val (pe_callB call_isi (by rfl) T.isi (by decide +kernel) (pa_cons (pv 1) (pa_cons (pe_bltn (v := .ty "int") (u := .type "int") (by rfl) T.int (by decide +kernel) rfl) pa_nil))))
        (pw_and (pt_not (pt_val (pe_callB call_isi (by rfl) T.isi (by decide +kernel) (pa_cons (pv 1) (pa_cons (pe_bltn (v := .ty "bool") (u := .type "bool") (by rfl) T.bool (by decide +kernel) rfl) pa_nil)))))
        (pw_and1 (pt_chain op_le op_lt pe_int (pv 1) (pe_callB call_len_seq (by rfl) T.len PySem.boot_len (pa_cons (pv 0) pa_nil))))))) (pss_one (ps_ret pe_non)) pss_nil)
      (pss_one (ps_ret (pe_tup (pa_cons pe_str (pa_cons (pv 1) pa_nil))))), ?_⟩
    have bad : userV zs.length v = false → 2 ≤ sizeLine ∧ ∀ p, H p = none → Q (.ref p) (upd H p (.tup [.str "user", v])) := fun e => by
      unfold userW at k
      rw [e] at k
      exact ⟨by omega, fun p np => k p _ (same_new np) np upd_same⟩
    refine ⟨_, rfl, v, _, _, _, _, rfl, .ty _, dv.ty, dv.int_, _, rfl, ?_⟩
    cases ei : isIntV v with
    | false =>
      refine iteF (iteF ⟨_, rfl, ?_⟩)
      exact bad (by cases v with | int i => cases ei | _ => rfl)
    | true =>
    show if true = true then _ else _
    rw [if_pos rfl]
    refine ⟨_, rfl, v, _, _, _, _, rfl, .ty _, dv.ty, dv.bool_, _, rfl, ?_⟩
    cases eb : isBlV v with
    | true =>
      refine iteF (iteF ⟨_, rfl, ?_⟩)
      exact bad (by cases v with | bl b => rfl | _ => cases eb)
    | false =>
    show if true = true then _ else _
    rw [if_pos rfl]
    obtain ⟨i, rfl⟩ : ∃ i, v = .int i := by
      cases v with
      | int i => exact ⟨i, rfl⟩
      | bl b => cases eb
      | _ => cases ei
    have bad : ¬ (0 ≤ i ∧ i < (zs.length : Int)) → 2 ≤ sizeLine ∧ ∀ p, H p = none → Q (.ref p) (upd H p (.tup [.str "user", .int i])) := fun n => bad (by
      show (decide (0 ≤ i) && decide (i < (zs.length : Int))) = false
      by_cases h0 : 0 ≤ i
      · rw [decide_eq_false (show ¬ i < (zs.length : Int) from fun z => n ⟨h0, z⟩), Bool.and_false]
      · rw [decide_eq_false h0, Bool.false_and])
    refine ⟨_, rfl, _, _, rfl, rfl, _, rfl, ?_⟩
    by_cases h0 : 0 ≤ i
    rotate_left
    · rw [if_neg (show ¬ decide ((0 : Int) ≤ i) = true by rw [decide_eq_true_eq]; exact h0)]
      refine ⟨_, rfl, iteF ⟨_, rfl, ?_⟩⟩
      exact bad fun z => h0 z.1
    rw [if_pos (show decide ((0 : Int) ≤ i) = true from decide_eq_true h0)]
    refine ⟨_, rfl, l, _, rfl, .inl (SqL.of hl), _, _, rfl, rfl, _, rfl, ?_⟩
    have ll : (zs.map V.str).length = zs.length := List.length_map ..
    by_cases h1 : i < (zs.length : Int)
    rotate_left
    · rw [decide_eq_false (show ¬ i < ((zs.map V.str).length : Int) by rw [ll]; exact h1)]
      exact iteF ⟨_, rfl, bad fun z => h1 z.2⟩
    rw [decide_eq_true (show i < ((zs.map V.str).length : Int) by rw [ll]; exact h1)]
    unfold userW at k
    rw [show userV zs.length (.int i) = true by show (decide (0 ≤ i) && decide (i < (zs.length : Int))) = true; rw [decide_eq_true h0, decide_eq_true h1] <;> rfl] at k
    exact iteT (k H Same.refl)
theorem scNw : FnScope ["_law_above", "_law_word", "_law_root"] ["_law_above", "_law_word", "_law_root"] (defScope s__law_name_due) := ⟨rfl, rfl, rfl, by decide +kernel, rfl, by decide +kernel, by decide +kernel⟩
theorem ok_nameW {f : Addr} {fd : FuncData} (F : Fun K "_law_name_due" "_law_name_due" s__law_name_due f fd) (T : Nm mg) : FnOk P w K mg base CX0 2 f fd ["_law_above", "_law_word", "_law_root"] (spNameW K) := by
  refine F.ok scNw (fun vs H Q E h => ?_) (fun cdv A outer s H vs Q E hr h => ?_)
  · obtain ⟨q, v, r, t, rfl, _⟩ := h
    rfl
  · obtain ⟨q, v, r, t, rfl, hq, o, ⟨T0, dv⟩, k⟩ := h
    have hu := hu_of hr
    have big : 1000 ≤ sizeLine := by decide
    refine ⟨_, pss_cons (ps_if (PW.pt (pw_and (pt_val (pe_callB call_isi (by rfl) T.isi (by decide +kernel) (pa_cons (pv 1) (pa_cons (pe_bltn (v := .ty "str") (u := .type "str") (by rfl) T.str (by decide +kernel) rfl) pa_nil))))
        (pw_and1 (PW.pt (pw_or (pt_cmp (pc_din hu (pv 1) (pv 0)) rfl) (pw_or1 (PW.pt (pw_and (pt_val (pv 2)) (pw_and1 (pt_cmpR op_eq (pv 1) pe_str (nomark _))))))))))) (pss_one (ps_ret pe_non)) pss_nil)
      (pss_one (ps_ret (pe_tup (pa_cons pe_str (pa_cons (pv 1) pa_nil))))), ?_⟩
    have bad : nameV t r v = false → 2 ≤ sizeLine ∧ ∀ p, H p = none → Q (.ref p) (upd H p (.tup [.str "name", v])) := fun e => by
      unfold nameW at k
      rw [e] at k
      exact ⟨by omega, fun p np => k p _ (same_new np) np upd_same⟩
    have good : nameV t r v = true → Q .non H := fun e => by
      unfold nameW at k
      rw [e] at k
      exact k H Same.refl
    refine ⟨_, rfl, v, _, _, _, _, rfl, .ty _, dv.ty, dv.str_, _, rfl, ?_⟩
    by_cases eT : T0 = "str"
    rotate_left
    · rw [decide_eq_false eT]
      refine iteF (iteF ⟨_, rfl, ?_⟩)
      refine bad ?_
      cases v with
      | str z => exact absurd rfl (dv.str_no eT z)
      | _ => cases r <;> rfl
    subst eT
    obtain ⟨b, rfl⟩ := dv.str_of
    rw [decide_eq_true rfl]
    show if true = true then _ else _
    rw [if_pos rfl]
    refine ⟨_, rfl, _, rfl, q, _, rfl, DGet.k (k := Sum.inr b) hq, _, rfl, ?_⟩
    rw [val_prs]
    by_cases ma : b ∈ t.map Prod.fst
    · obtain ⟨pa, hp⟩ := par_some o.nd ma
      rw [hp]
      show if true = true then _ else _
      rw [if_pos rfl]
      exact iteT (good (by cases r; exact decide_eq_true ma; exact decide_eq_true (.inr ma)))
    · rw [par_none ma]
      refine iteF ⟨_, rfl, _, rfl, ?_⟩
      cases r with
      | false =>
        refine iteF (iteF ⟨_, rfl, ?_⟩)
        exact bad (decide_eq_false ma)
      | true =>
        show if true = true then _ else _
        rw [if_pos rfl]
        refine ⟨_, rfl, rfl, _, rfl, ?_⟩
        by_cases e : b = ""
        · rw [decide_eq_true (show V.str b = V.str "" by rw [e])]
          exact iteT (good (decide_eq_true (.inl e)))
        · rw [decide_eq_false (show ¬ V.str b = V.str "" from fun z => e (V.str.inj z))]
          refine iteF ⟨_, rfl, ?_⟩
          exact bad (decide_eq_false (by rintro (h | h); exact e h; exact ma h))
end
end FT


/-! Own: calls with keywords alone, two or four of them turned; pairs of a text and an int as data. -/
namespace FT
open PySem L2 TL ClX
def tCallK0 (m : Nat) (sp : Sp) (gV : List V → List V → List V) (E : XK) (tk : TA) : TE := fun σ H Q => tk σ H fun zs H1 => zs.length = m ∧ sp (gV [] zs) H1 Q E
/-- four values, turned -/
def turn4 {α : Type} : List α → List α
  | [a, b, c, d] => [d, c, b, a]
  | l => l
end FT


/-! two keywords, turned; defs that get a lambda -/
namespace FT
open PySem L2 TL ClX
def turn2 {α : Type} : List α → List α
  | [a, b] => [b, a]
  | l => l
theorem turn2_rel {vs : List V} {us : List Value} (r : Vals vs us) : Vals (turn2 vs) (turn2 us) := by
  cases r with
  | nil => exact .nil
  | cons a r =>
    cases r with
    | nil => exact .cons a .nil
    | cons b r =>
      cases r with
      | nil => exact .cons b (.cons a .nil)
      | cons c r => exact .cons a (.cons b (.cons c r))
abbrev tn2 (α : Type) : List α → List α → List α := fun _ ws => turn2 ws
theorem kw2 {K : PySem.W.Frag} {x qual a b : Str} {st : Stmt} {f : Addr} {fd : FuncData} {ps : List Str} (F : L2.Fun K x qual st f fd)
    (h : ∀ (kV doc pm : Value) (an : Option Addr) (cdv ct u v : Value), bindArgs (PySem.W.fnOf x qual (defArgs st) (defBody st) (defScope st) .none kV doc pm an cdv ct) ⟨[], [(a, u), (b, v)]⟩ = pure (ps.zip [v, u])) :
    KBn K fd ps 0 [a, b] (tn2 Value) (tn2 V) := by
  obtain ⟨oc, od, kV, doc, pm, an, cdv, ct, osl, rfl, lk, hcd⟩ := F.ex
  refine ⟨fun s us ws _ h1 h2 => ?_, fun _ r => turn2_rel r⟩
  match us, ws, h1, h2 with
  | [], [u, v], _, _ => exact .of_eq (h kV doc pm an cdv ct u v)
/-- the two defs that get a lambda -/
structure Ge (K : PySem.W.Frag) (mg : Str → Option Value) (x : Str) (st : Stmt) (f : Addr) (fd : FuncData) : Prop where
  fn : Fun K x x st f fd
  bn : Binds K fd ["_law_work"] []
  mgn : mg x = some (.ref f)
end FT


/-! Own: o.m(k = v), a method called by keyword alone. -/
namespace FT
open PySem L2 TL ClX
def tMethK (C : Addr) (m : Str) (n : Nat) (sp : Sp) (gV : List V → List V → List V) (E : XK) (ta : TE) (tk : TA) : TE := fun σ H Q => ta σ H fun x H1 => ∃ a dx fs, x = .ref a ∧ H1 a = some (.ins C dx fs) ∧ fs.lookup m = none ∧ tk σ H1 fun zs H2 => zs.length = n ∧ sp (gV [.ref a] zs) H2 Q E
theorem pe_methK {X : Cx} {CX : CXT} {k : Nat} {C f : Addr} {fd : FuncData} {ps ks : List Str} {sp : Sp} {E : XK} {m : Str} {o : Expr} {apos pos : Pos} {kw : Keyword} {kws : List Keyword} {ta : TE} {tk : TA} {g : List Value → List Value → List Value} {gV : List V → List V → List V} {pl : Sem Bool}
    (he : PE X o ta) (c : Cls X.K C) (hm : Meth X.K C m f) (F : FnOk X.prog X.w X.K X.mg X.base CX k f fd ps sp) (hr : Room k X.A) (hb : KBn X.K fd ps 1 ks g gV) (hx : Passes CX X E)
    (hkw : PK X (kw :: kws) tk) (hall : (backToKw pos (keywordEach (kw :: kws) X.env)).all (·.1.isSome) = true := by rfl) (hks : (backToKw pos (keywordEach (kw :: kws) X.env)).filterMap (·.1) = ks := by rfl)
    (hpl : ((backTo pos (starEach [] X.env)).any (·.1) || (backToKw pos (keywordEach (kw :: kws) X.env)).any (·.1.isNone)) = false := by rfl)
    (ht : eval (.Call (.Attribute o m apos) [] (kw :: kws) pos) X.env = (do
      let ov ← eval o X.env
      standAt apos.atName
      let (f, first) ← holding [ov] (getMethod ov m pl)
      callWith pos f first (backTo pos (starEach [] X.env)) (backToKw pos (keywordEach (kw :: kws) X.env))) := by rfl) :
    PE X (.Call (.Attribute o m apos) [] (kw :: kws) pos) (tMethK C m ks.length sp gV E ta tk) := by
  refine ⟨fun pins s σ H Q I h => ?_⟩
  refine PySem.W.methodCall_KW (pl := pl) (thn (he.run pins s σ H _ I h) fun u s1 ⟨x, H1, I1, rx, a, dx, fs, ex, ea, l, q⟩ => ?_) ht
  subst ex
  obtain rfl : u = Value.ref a := rx
  refine getmeth_ok I1 ea c hm l ?_
  refine PySem.W.callWith_KW0 (first := [.ref a]) (h₀ := X.base) I.ok.mod.kin hm.kp hall ?_ hpl
  refine thn (hkw.run pos pins s1 σ H1 _ I1 q) fun ws s2 ⟨zs, H2, J, rz, l2, want⟩ => ⟨J.kIn, ?_⟩
  rw [hks]
  exact run_fnN (us := [.ref a]) (vs := [.ref a]) F hr hb hx J (.cons rfl .nil) rz rfl l2 want
theorem kwM1 {K : PySem.W.Frag} {x qual b : Str} {st : Stmt} {f : Addr} {fd : FuncData} {ps : List Str} (F : L2.Fun K x qual st f fd)
    (h : ∀ (kV doc pm : Value) (an : Option Addr) (cdv ct u v : Value), bindArgs (PySem.W.fnOf x qual (defArgs st) (defBody st) (defScope st) .none kV doc pm an cdv ct) ⟨[u], [(b, v)]⟩ = pure (ps.zip [u, v])) :
    KBn K fd ps 1 [b] (fun us ws => us ++ ws) (fun vs zs => vs ++ zs) := by
  obtain ⟨oc, od, kV, doc, pm, an, cdv, ct, osl, rfl, lk, hcd⟩ := F.ex
  refine ⟨fun s us ws _ h1 h2 => ?_, fun r r' => r.append r'⟩
  match us, ws, h1, h2 with
  | [u], [v], _, _ => exact .of_eq (h kV doc pm an cdv ct u v)
end FT


/-! _law_asked_right of k04 -/
namespace FT
open PySem L2 TL ClX LamX NdefX LiI
theorem kwM24 {K : PySem.W.Frag} {x qual a b : Str} {st : Stmt} {f : Addr} {fd : FuncData} {ps : List Str} (F : L2.Fun K x qual st f fd)
    (h : ∀ (kV doc pm : Value) (an : Option Addr) (cdv ct o u v : Value), bindArgs (PySem.W.fnOf x qual (defArgs st) (defBody st) (defScope st) .none kV doc pm an cdv ct) ⟨[o], [(a, u), (b, v)]⟩ = pure (ps.zip [o, v, u])) :
    KBn K fd ps 1 [a, b] (fun us ws => us ++ turn2 ws) (fun vs zs => vs ++ turn2 zs) := by
  obtain ⟨oc, od, kV, doc, pm, an, cdv, ct, osl, rfl, lk, hcd⟩ := F.ex
  refine ⟨fun s us ws _ h1 h2 => ?_, fun r r' => r.append (turn2_rel r')⟩
  match us, ws, h1, h2 with
  | [o], [u, v], _, _ => exact .of_eq (h kV doc pm an cdv ct o u v)
theorem hasU_perm4 {ts t : List (Str × Str)} (o : TreeOk ts) (pt : ts.Perm t) (zs : List Str) (a : Str) : hasU t zs a = hasU ts zs a := by
  unfold hasU
  congr 1
  funext i
  unfold hasC
  cases zs[i]? <;> simp only [path_perm o.nd pt]
abbrev cat2 (α : Type) : List α → List α → List α := fun us ws => us ++ ws
abbrev ctn2 (α : Type) : List α → List α → List α := fun us ws => us ++ turn2 ws
structure L4P (P : Program) (w : World) (K : PySem.W.Frag) (mg : Str → Option Value) (base : Heap) (CF CA CN CY : Addr) (mcA : Value) (f : Nat → Addr) (fd : Nat → FuncData) : Prop where
  B : Ac K mg CA mcA
  ud : Dn P w K mg base CX0 2 "_law_user_due" ["_law_spots_here", "_law_who"] (spUserW K) (f 0) (fd 0)
  nw : Dn P w K mg base CX0 2 "_law_name_due" ["_law_above", "_law_word", "_law_root"] (spNameW K) (f 1) (fd 1)
  ph : Dn P w K mg base CX0 1 "_law_path" ["_law_above", "_law_spot"] spPath (f 2) (fd 2)
  fl : Mt P w K mg base (L2.CX P w) 4 CA "flags_of" ["self", "user"] (spAFlagsE K CF CA CY) (f 3) (fd 3)
  flk : KBn K (fd 3) ["self", "user"] 1 ["user"] (cat2 Value) (cat2 V)
  ha : Mt P w K mg base (L2.CX P w) 4 CA "has" ["self", "user", "name"] (spAHas K CF CA CN CY) (f 4) (fd 4)
  hak : KBn K (fd 4) ["self", "user", "name"] 1 ["name", "user"] (ctn2 Value) (ctn2 V)
  us : Mt P w K mg base (L2.CX P w) 4 CA "users_of" ["self", "name"] (spAUsersE K CF CA CN) (f 5) (fd 5)
  usk : KBn K (fd 5) ["self", "name"] 1 ["name"] (cat2 Value) (cat2 V)
  at_ : Mt P w K mg base (L2.CX P w) 4 CA "at" ["self", "place"] (spAAtE K CF CA CN) (f 6) (fd 6)
  atk : KBn K (fd 6) ["self", "place"] 1 ["place"] (cat2 Value) (cat2 V)
/-- what stands while an assignment is asked -/
structure A04 (T : List (Addr × Str)) (CF CA d c y x q l : Addr) (t ts : List (Str × Str)) (zs : List Str) (v u : V) (H0 H : Hp) : Prop where
  tb : Tabs T H
  ex : ExtN H0 H
  aa : AAt CA H y x zs
  fa : FAt CF H x ts
  hq : H q = some (.dK (prs t))
  hl : H l = some (.lst (zs.map V.str))
  ov : OdV d c H v
  ou : OdV d c H u
theorem AAt.extN {CA y x : Addr} {H H' : Hp} {zs : List Str} (e : ExtN H H') (h : AAt CA H y x zs) : AAt CA H' y x zs := let ⟨dy, p, e1, e2⟩ := h; ⟨dy, p, e _ _ e1 (fun ps z => nomatch z), e _ _ e2 (fun ps z => nomatch z)⟩
theorem FAt.extN {CF x : Addr} {H H' : Hp} {ts : List (Str × Str)} (e : ExtN H H') (h : FAt CF H x ts) : FAt CF H' x ts := let ⟨dy, p, e1, e2⟩ := h; ⟨dy, p, e _ _ e1 (fun ps z => nomatch z), e _ _ e2 (fun ps z => nomatch z)⟩
section
variable {T : List (Addr × Str)} {CF CA d c y x q l : Addr} {t ts : List (Str × Str)} {zs : List Str} {v u : V} {H0 H H' : Hp}
theorem A04.ext (h : A04 T CF CA d c y x q l t ts zs v u H0 H) (e : ExtN H H') (tb : Tabs T H') : A04 T CF CA d c y x q l t ts zs v u H0 H' :=
  ⟨tb, h.ex.trans e, h.aa.extN e, h.fa.extN e, e _ _ h.hq (fun ps z => nomatch z), e _ _ h.hl (fun ps z => nomatch z), h.ov.ext e, h.ou.ext e⟩
theorem A04.same (h : A04 T CF CA d c y x q l t ts zs v u H0 H) (s : Same H H') : A04 T CF CA d c y x q l t ts zs v u H0 H' := h.ext (ExtN.of s) (h.tb.ext s)
end
def DvW (H : Hp) (dv : V) : Option (Str × V) → Prop
  | none => dv = .non
  | some (w, v) => ∃ p, dv = .ref p ∧ H p = some (.tup [.str w, v])
theorem DvW.ext {H H' : Hp} {dv : V} {r : Option (Str × V)} (e : ExtN H H') (h : DvW H dv r) : DvW H' dv r := by
  cases r with
  | none => exact h
  | some x => exact let ⟨p, e1, h⟩ := h; ⟨p, e1, e _ _ h (fun ps z => nomatch z)⟩
theorem DvW.is {H : Hp} {dv : V} {r : Option (Str × V)} (h : DvW H dv r) : decide (dv = .non) = r.isNone := by
  cases r with
  | none => rw [show dv = .non from h] <;> rfl
  | some x => obtain ⟨p, e, _⟩ := h; rw [e] <;> rfl
theorem tellW_of {H : Hp} {Q : VK} {r : Option (Str × V)} (h : ∀ dv H', Same H H' → DvW H' dv r → Q dv H') : TellW H Q r := by
  cases r with
  | none => exact fun H' s => h _ H' s rfl
  | some x => exact fun p H' s np hp => h _ H' s ⟨p, rfl, hp⟩
theorem AnsR.to {C : Nat → Addr} {G : Hp → Prop} {E : XK} {Q : VK} {r r' : Rs} (e : r = r') (h : AnsR C G E Q r) : AnsR C G E Q r' := e ▸ h
theorem nx_in {n : St → Hp → Prop} {r : VK} {b c : St → Hp → Prop} {σ : St} {H : Hp} (h : n σ H) : Ends.nx { nx := n, rt := r, bk := b, ct := c } σ H := h
theorem asg_join {te : TE} {i : Nat} {rest : TS} {D : Ends} {σ : St} {H : Hp} (G : V → Hp → Prop) (h : ∀ Q' : VK, (∀ v H', G v H' → Q' v H') → te σ H Q') (k : ∀ v H', G v H' → rest D (σ.set i (some v)) H') : tSeq (tAsg te (gName i)) rest D σ H := h _ fun v H' g => k v H' g
theorem ifSq_join {t : TT} {tb rest : TS} {D : Ends} {σ : St} {H : Hp} (R : St → Hp → Prop) (h : ∀ D' : Ends, (∀ σ' H', R σ' H' → D'.nx σ' H') → tIfS t tb tNext D' σ H) (k : ∀ σ' H', R σ' H' → rest D σ' H') : tSeq (tIfS t tb tNext) rest D σ H := h _ fun σ' H' r => k σ' H' r
theorem chk_toldS {K : PySem.W.Frag} {T : List (Addr × Str)} {d c : Addr} {C : Nat → Addr} {σ : St} {H1 : Hp} {tt : XK → TE} {tr : TS} {D : Ends} {i : Nat} {dv : V} {r : Rs} {G : Hp → Prop} (hi : σ[i]? = some (some dv)) (g1 : G H1) (gt : ∀ H, G H → Tabs T H) (ge : ∀ H H', G H → ExtN H H' → Tabs T H' → G H') (gr : ∀ H, G H → RsAt H dv r ∧ RsOk d c H r)
    (call : ∀ H2, G H2 → ∀ (E : XK) (Q' : VK), AnsR C G E Q' r → tt E σ H2 Q') (k : ∀ H3, G H3 → D.nx σ H3) :
    tIfS (tTest (tOp rNe (tCB (rReprR K) (tCons (tLam T (TTold C) tt) tNil)) (tCB (rReprR K) (tCons (tVar i) tNil)))) tr tNext D σ H1 := by
  refine chk_told (R := rNe) hi g1 gt ge gr call fun z H3 g3 => ⟨rfl, _, rfl, ?_⟩
  rw [decide_eq_true rfl]
  exact iteF (k H3 g3)
theorem chk_toldR {K : PySem.W.Frag} {T : List (Addr × Str)} {d c : Addr} {C : Nat → Addr} {σ : St} {H1 : Hp} {tt : XK → TE} {D : Ends} {i : Nat} {dv : V} {r : Rs} {G : Hp → Prop} (hi : σ[i]? = some (some dv)) (g1 : G H1) (gt : ∀ H, G H → Tabs T H) (ge : ∀ H H', G H → ExtN H H' → Tabs T H' → G H') (gr : ∀ H, G H → RsAt H dv r ∧ RsOk d c H r)
    (call : ∀ H2, G H2 → ∀ (E : XK) (Q' : VK), AnsR C G E Q' r → tt E σ H2 Q') (k : ∀ H3, G H3 → D.rt (.bl true) H3) :
    tRet (tOp rEq (tCB (rReprR K) (tCons (tLam T (TTold C) tt) tNil)) (tCB (rReprR K) (tCons (tVar i) tNil))) D σ H1 := by
  refine chk_told (R := rEq) hi g1 gt ge gr call fun z H3 g3 => ⟨rfl, ?_⟩
  rw [decide_eq_true rfl]
  exact k H3 g3
theorem sm_name {z : Str} (h : NameL z) : Sm (.str z) := .inr (.inr (.inr ⟨z, rfl, h.len.2, fun c hc => by have := h.1 c hc; omega, strOk_name h⟩))
theorem sm_word {z : Str} (h1 : z.length ≤ 8) (h2 : (z.cps.toList.all fun c => decide (c < 16 ^ 8)) = true) (h3 : PyData.strOk z = true) : Sm (.str z) := .inr (.inr (.inr ⟨z, rfl, h1, fun c hc => of_decide_eq_true (List.all_eq_true.mp h2 c hc), h3⟩))
theorem selU_in {n : Nat} {c : Nat → Bool} (h : n ≤ 60) : (selU n c).length ≤ 100 ∧ ∀ i ∈ selU n c, -1 ≤ i ∧ i ≤ 61 := by
  refine ⟨by have := selU_len n c; omega, fun i hi => ?_⟩
  unfold selU at hi
  obtain ⟨j, hj, rfl⟩ := List.mem_map.mp hi
  have := List.mem_range.mp (List.mem_filter.mp hj).1
  omega
/-- the results that are due -/
def r41 (t : List (Str × Str)) (zs : List Str) (v : V) : Rs := if userV zs.length v = true then .path (pathOf t (zs.getD (idxV v) "")) else .err "user" v
def r42 (t : List (Str × Str)) (zs : List Str) (v u : V) : Rs := if userV zs.length v = true then (if flagV t u = true then .bool (decide (strV u ∈ pathOf t (zs.getD (idxV v) ""))) else .err "name" u) else .err "user" v
def r43 (t : List (Str × Str)) (zs : List Str) (u : V) : Rs := if flagV t u = true then .nums (hasU t zs (strV u)) else .err "name" u
def r44 (t : List (Str × Str)) (zs : List Str) (u : V) : Rs := if placeV t u = true then .nums (atU zs (strV u)) else .err "name" u
theorem path_ok {t : List (Str × Str)} (o : TreeOk t) {z : Str} (p : Pl t z) : (pathOf t z).length ≤ 20 ∧ ∀ y ∈ pathOf t z, Sm (.str y) := ⟨by have := path_len t z; have := o.few; omega, fun y hy => sm_name (o.nm _ (path_all o p y hy))⟩
structure B04 (T : List (Addr × Str)) (CF CA d c y x q l : Addr) (t ts : List (Str × Str)) (zs : List Str) (v u dv1 dv2 dv : V) (r : Rs) (H0 H : Hp) : Prop where
  a : A04 T CF CA d c y x q l t ts zs v u H0 H
  d1 : DvW H dv1 (userW zs.length v)
  d2 : DvW H dv2 (nameW t false u)
  rs : RsAt H dv r
section
variable {T : List (Addr × Str)} {CF CA d c y x q l : Addr} {t ts : List (Str × Str)} {zs : List Str} {v u dv1 dv2 dv : V} {r : Rs} {H0 H H' : Hp}
theorem B04.ext (h : B04 T CF CA d c y x q l t ts zs v u dv1 dv2 dv r H0 H) (e : ExtN H H') (tb : Tabs T H') : B04 T CF CA d c y x q l t ts zs v u dv1 dv2 dv r H0 H' := ⟨h.a.ext e tb, h.d1.ext e, h.d2.ext e, h.rs.ext e⟩
theorem B04.same (h : B04 T CF CA d c y x q l t ts zs v u dv1 dv2 dv r H0 H) (s : Same H H') : B04 T CF CA d c y x q l t ts zs v u dv1 dv2 dv r H0 H' := h.ext (ExtN.of s) (h.a.tb.ext s)
end
def spAsk (T : List (Addr × Str)) (CF CA d c : Addr) : Sp := fun vs H Q _ => ∃ (y x q l : Addr) (t ts : List (Str × Str)) (zs : List Str) (v u : V), vs = [.ref y, .ref q, .ref l, v, u] ∧ A04 T CF CA d c y x q l t ts zs v u H H ∧ TreeOk t ∧ TreeOk ts ∧ ts.Perm t ∧ (∀ z ∈ zs, Pl ts z) ∧ zs.length ≤ 60 ∧
  ∀ H', Tabs T H' → ExtN H H' → Q (.bl true) H'
abbrev NAk : List Str := ["_law_sample", "_law_above", "_law_spots_here", "_law_who", "_law_word", "_law_user_due_here", "_law_flag_due", "_law_due_here", "_law_at", "_law_spot"]
section
variable {P : Program} {w : World} {K : PySem.W.Frag} {mg : Str → Option Value} {base : Heap}
theorem scAk : FnScope NAk ["_law_sample", "_law_above", "_law_spots_here", "_law_who", "_law_word"] (defScope s__law_asked_right) := ⟨rfl, rfl, rfl, by decide +kernel, rfl, by decide +kernel, by decide +kernel⟩
theorem ok_ask {f0 fEr CF CA CN CY R co ta d c : Addr} {mcA : Value} {C : Nat → Addr} {T : List (Addr × Str)} {f : Nat → Addr} {fd : Nat → FuncData} {fd0 fdEr : FuncData} (F : FunC K "_law_asked_right" "_law_asked_right" s__law_asked_right f0 fd0 co) (N : Nm mg) (L : L4P P w K mg base CF CA CN CY mcA f fd)
    (GE : Ge K mg "_law_told" s__law_told fEr fdEr) (CC : Cl5T K mg R C) (eY : C 2 = CY) (eN : C 3 = CN) (TB : TabB base mg co ta) (hmT : (ta, lamQ "_law_asked_right") ∈ T) (hut : ∀ p ∈ T, p.1 = ta → p.2 = lamQ "_law_asked_right") :
    FnG P w K mg base CX0 7 f0 fd0 ["_law_sample", "_law_above", "_law_spots_here", "_law_who", "_law_word"] (spAsk T CF CA d c) := by
  refine F.okG scAk (fun vs H Q E h => ?_) (fun A outer s H vs Q E clr hr h => ?_)
  · obtain ⟨y, x, q, l, t, ts, zs, v, u, rfl, _⟩ := h
    rfl
  · obtain ⟨y, x, q, l, t, ts, zs, v, u, rfl, G, o, ots, pt, pl, n60, k⟩ := h
    have hr1 : Room 1 _ := hr.mono (by decide)
    have hr2 : Room 2 _ := hr.mono (by decide)
    have nd := scAk.nd
    have big : 4000 ≤ sizeLine := by decide
    refine ⟨_, pss_cons (ps_par (i := 5) (j := 6) rfl nd rfl rfl (by decide) rfl rfl (pa_cons (pe_call L.ud.ok hr2 rfl L.ud.mgn L.ud.kp L.ud.bn .nil pass0 (pa_cons (pv 2) (pa_cons (pv 3) pa_nil))) (pa_cons (pe_call L.nw.ok hr2 rfl L.nw.mgn L.nw.kp L.nw.bn .nil pass0 (pa_cons (pv 1) (pa_cons (pv 4) (pa_cons pe_bl pa_nil)))) pa_nil)) (by rfl))
      (pss_cons (ps_set (i := 7) nd rfl (.inl rfl) (pe_ifExp (pt_cmpR op_notN (pv 5) pe_non (nomark _)) (pv 5) (pe_call L.ph.ok hr1 rfl L.ph.mgn L.ph.kp L.ph.bn .nil pass0 (pa_cons (pv 1) (pa_cons (pe_ix ix_list (pv 2) (pv 3) (fun _ _ => rfl)) pa_nil)))))
      (pss_cons (ps_if (pt_cmpR op_ne (pe_callB (call_reprR clr hr.units) (by rfl) N.rep (by decide +kernel) (pa_cons (pe_lamS (T := T) (k := 4) (t := fun E => tMethK CA "flags_of" (["user"] : List Str).length (spAFlagsE K CF CA CY) (cat2 V) E (tVar 0) (tCons (tVar 3) tNil)) rfl GE.mgn GE.fn GE.bn scTd rfl (.inl rfl) (fun cdg => told_gives N CC) TB rfl hmT hut hr (lamS_by (sc := defScope s__law_asked_right) (by decide +kernel)) rfl (fun _ _ _ _ _ => rfl)
          (fun A outer s H E f c' hr2 => pe_methK (pv 0) L.B.cl L.fl.mt L.fl.fn hr2 L.flk (passes_call (takes_of rfl rfl rfl rfl) (fun _ _ _ _ h => h)) (pk_cons (pv 3) pk_nil))) pa_nil)) (pe_callB (call_reprR clr hr.units) (by rfl) N.rep (by decide +kernel) (pa_cons (pv 7) pa_nil)) (nomark _)) (pss_one (ps_ret pe_bl)) pss_nil)
      (pss_cons (ps_set (i := 7) nd rfl (.inl rfl) (pe_ifExp (pt_cmpR op_notN (pv 5) pe_non (nomark _)) (pv 5) (pv 6)))
      (pss_cons (ps_if (pt_cmpR op_isN (pv 7) pe_non (nomark _)) (pss_one (ps_set (i := 7) nd rfl (.inl rfl) (pe_cmpR op_in_seq (pv 4) (pe_call L.ph.ok hr1 rfl L.ph.mgn L.ph.kp L.ph.bn .nil pass0 (pa_cons (pv 1) (pa_cons (pe_ix ix_list (pv 2) (pv 3) (fun _ _ => rfl)) pa_nil))) rfl))) pss_nil)
      (pss_cons (ps_if (pt_cmpR op_ne (pe_callB (call_reprR clr hr.units) (by rfl) N.rep (by decide +kernel) (pa_cons (pe_lamS (T := T) (k := 4) (t := fun E => tMethK CA "has" (["name", "user"] : List Str).length (spAHas K CF CA CN CY) (ctn2 V) E (tVar 0) (tCons (tVar 4) (tCons (tVar 3) tNil))) rfl GE.mgn GE.fn GE.bn scTd rfl (.inl rfl) (fun cdg => told_gives N CC) TB rfl hmT hut hr (lamS_by (sc := defScope s__law_asked_right) (by decide +kernel)) rfl (fun _ _ _ _ _ => rfl)
          (fun A outer s H E f c' hr2 => pe_methK (pv 0) L.B.cl L.ha.mt L.ha.fn hr2 L.hak (passes_call (takes_of rfl rfl rfl rfl) (fun _ _ _ _ h => h)) (pk_cons (pv 4) (pk_cons (pv 3) pk_nil)))) pa_nil)) (pe_callB (call_reprR clr hr.units) (by rfl) N.rep (by decide +kernel) (pa_cons (pv 7) pa_nil)) (nomark _)) (pss_one (ps_ret pe_bl)) pss_nil)
      (pss_cons (ps_set (i := 7) nd rfl (.inl rfl) (pv 6))
      (pss_cons (ps_if (pt_cmpR op_isN (pv 7) pe_non (nomark _)) (pss_one (ps_setLc (i := 7) (own := [("_law_at", 8), ("_law_spot", 9)]) (g := gTup K 2 (gCons (gName 8) (gCons (gName 9) gNil))) (tt := tTest (tOp (rIn K false) (tVar 4) (tCall spPath [] E0 (tCons (tVar 1) (tCons (tVar 9) tNil))))) (te := tVar 8) rfl nd rfl rfl (sw_true rfl rfl rfl (by decide +kernel)) (pi_enum rfl N.enu (pa_cons (pv 2) pa_nil))
          (blkOk_by (N := NAk) (sc := defScope s__law_asked_right) (by decide +kernel)) (fun _ _ _ _ _ => pg_tup rfl (pgs_cons (pg_name (i := 8) nd rfl (Or.inl rfl)) (pgs_cons (pg_name (i := 9) nd rfl (Or.inl rfl)) pgs_nil)))
          (fun _ _ _ _ _ => pts_one (pt_cmpR op_in_seq (pv 4) (pe_call L.ph.ok hr1 rfl L.ph.mgn L.ph.kp L.ph.bn .nil pass0 (pa_cons (pv 1) (pa_cons (pv 9) pa_nil))) rfl)) (fun _ _ _ _ _ => pv 8))) pss_nil)
      (pss_cons (ps_if (pt_cmpR op_ne (pe_callB (call_reprR clr hr.units) (by rfl) N.rep (by decide +kernel) (pa_cons (pe_lamS (T := T) (k := 4) (t := fun E => tMethK CA "users_of" (["name"] : List Str).length (spAUsersE K CF CA CN) (cat2 V) E (tVar 0) (tCons (tVar 4) tNil)) rfl GE.mgn GE.fn GE.bn scTd rfl (.inl rfl) (fun cdg => told_gives N CC) TB rfl hmT hut hr (lamS_by (sc := defScope s__law_asked_right) (by decide +kernel)) rfl (fun _ _ _ _ _ => rfl)
          (fun A outer s H E f c' hr2 => pe_methK (pv 0) L.B.cl L.us.mt L.us.fn hr2 L.usk (passes_call (takes_of rfl rfl rfl rfl) (fun _ _ _ _ h => h)) (pk_cons (pv 4) pk_nil))) pa_nil)) (pe_callB (call_reprR clr hr.units) (by rfl) N.rep (by decide +kernel) (pa_cons (pv 7) pa_nil)) (nomark _)) (pss_one (ps_ret pe_bl)) pss_nil)
      (pss_cons (ps_set (i := 7) nd rfl (.inl rfl) (pe_call L.nw.ok hr2 rfl L.nw.mgn L.nw.kp L.nw.bn .nil pass0 (pa_cons (pv 1) (pa_cons (pv 4) (pa_cons pe_bl pa_nil)))))
      (pss_cons (ps_if (pt_cmpR op_isN (pv 7) pe_non (nomark _)) (pss_one (ps_setLc (i := 7) (own := [("_law_at", 8), ("_law_spot", 9)]) (g := gTup K 2 (gCons (gName 8) (gCons (gName 9) gNil))) (tt := tTest (tOp rEq (tVar 9) (tVar 4))) (te := tVar 8) rfl nd rfl rfl (sw_true rfl rfl rfl (by decide +kernel)) (pi_enum rfl N.enu (pa_cons (pv 2) pa_nil))
          (blkOk_by (N := NAk) (sc := defScope s__law_asked_right) (by decide +kernel)) (fun _ _ _ _ _ => pg_tup rfl (pgs_cons (pg_name (i := 8) nd rfl (Or.inl rfl)) (pgs_cons (pg_name (i := 9) nd rfl (Or.inl rfl)) pgs_nil)))
          (fun _ _ _ _ _ => pts_one (pt_cmpR op_eq (pv 9) (pv 4) (nomark _))) (fun _ _ _ _ _ => pv 8))) pss_nil)
      (pss_one (ps_ret (pe_cmpR op_eq (pe_callB (call_reprR clr hr.units) (by rfl) N.rep (by decide +kernel) (pa_cons (pe_lamS (T := T) (k := 4) (t := fun E => tMethK CA "at" (["place"] : List Str).length (spAAtE K CF CA CN) (cat2 V) E (tVar 0) (tCons (tVar 4) tNil)) rfl GE.mgn GE.fn GE.bn scTd rfl (.inl rfl) (fun cdg => told_gives N CC) TB rfl hmT hut hr (lamS_by (sc := defScope s__law_asked_right) (by decide +kernel)) rfl (fun _ _ _ _ _ => rfl)
          (fun A outer s H E f c' hr2 => pe_methK (pv 0) L.B.cl L.at_.mt L.at_.fn hr2 L.atk (passes_call (takes_of rfl rfl rfl rfl) (fun _ _ _ _ h => h)) (pk_cons (pv 4) pk_nil))) pa_nil)) (pe_callB (call_reprR clr hr.units) (by rfl) N.rep (by decide +kernel) (pa_cons (pv 7) pa_nil)) (nomark _)))))))))))))), ?_⟩
    have us8 : Sm (.str "user") := sm_word (by decide) (by decide +kernel) (by decide +kernel)
    have na8 : Sm (.str "name") := sm_word (by decide) (by decide +kernel) (by decide +kernel)
    have plt : ∀ z ∈ zs, Pl t z := fun z hz => (pl z hz).imp id fun m => (pt.map Prod.fst).mem_iff.mp m
    have getz : userV zs.length v = true → ∃ i z, v = .int ((i : Nat) : Int) ∧ idxV v = i ∧ zs[i]? = some z ∧ zs.getD (idxV v) "" = z ∧ Pl t z := fun h => by
      obtain ⟨i, rfl, il, ei⟩ := userV_t h
      have hz : zs[i]? = some zs[i] := List.getElem?_eq_getElem il
      exact ⟨i, zs[i], rfl, ei, hz, by rw [ei, List.getD_eq_getElem?_getD, hz] <;> rfl, plt _ (List.getElem_mem il)⟩
    have ok1 : ∀ H', OdV d c H' v → RsOk d c H' (r41 t zs v) := fun H' ov => by
      unfold r41
      split
      · rename_i h
        obtain ⟨i, z, _, _, _, ez, pz⟩ := getz h
        rw [ez]
        exact path_ok o pz
      · exact ⟨us8, ov⟩
    have ok2 : ∀ H', OdV d c H' v → OdV d c H' u → RsOk d c H' (r42 t zs v u) := fun H' ov ou => by
      unfold r42
      split
      · split
        · trivial
        · exact ⟨na8, ou⟩
      · exact ⟨us8, ov⟩
    have ok3 : ∀ H', OdV d c H' u → RsOk d c H' (r43 t zs u) := fun H' ou => by
      unfold r43
      split
      · exact selU_in n60
      · exact ⟨na8, ou⟩
    have ok4 : ∀ H', OdV d c H' u → RsOk d c H' (r44 t zs u) := fun H' ou => by
      unfold r44
      split
      · exact selU_in n60
      · exact ⟨na8, ou⟩
    refine ⟨_, rfl, _, rfl, l, v, zs, rfl, G.hl, G.ov.dat, tellW_of fun dv1 H1 s1 h1 => ?_⟩
    have G1 := G.same s1
    refine ⟨_, rfl, _, rfl, q, u, false, t, rfl, G1.hq, o, G1.ou.dat, tellW_of fun dv2 H2 s2 h2 => ?_⟩
    have G2 := G1.same s2
    have h1 := h1.ext (ExtN.of s2)
    refine ⟨_, _, rfl, ?_⟩
    -- flags_of
    refine nx_in ?_
    refine asg_join (fun dv H' => B04 T CF CA d c y x q l t ts zs v u dv1 dv2 dv (r41 t zs v) H H') (fun Q' kq => ?_) (fun dv3 H3 G3 => ?_)
    · refine ⟨_, rfl, rfl, _, rfl, ?_⟩
      rw [h1.is]
      cases okU : userV zs.length v with
      | false =>
        have h1' := h1
        rw [show userW zs.length v = some (("user" : Str), v) by unfold userW; rw [okU] <;> rfl] at h1' ⊢
        refine iteT ⟨_, rfl, kq _ _ ⟨G2, h1, h2, ?_⟩⟩
        unfold r41
        rw [okU]
        exact h1'
      | true =>
        rw [show userW zs.length v = none by unfold userW; rw [okU] <;> rfl]
        refine iteF ?_
        obtain ⟨i, z, rfl, ei, hz, ez, pz⟩ := getz okU
        refine ⟨_, rfl, _, rfl, _, rfl, l, _, _, .str z, rfl, rfl, SqL.of G2.hl, atI_nat (map_at hz), q, z, t, rfl, .inl G2.hq, o, pz, fun p H3 s3 np hp => kq _ _ ⟨G2.same s3, h1.ext (ExtN.of s3), h2.ext (ExtN.of s3), ?_⟩⟩
        unfold r41
        rw [okU, if_pos rfl, ez]
        exact ⟨p, rfl, hp⟩
    refine chk_toldS (d := d) (c := c) (i := 7) (G := fun H' => B04 T CF CA d c y x q l t ts zs v u dv1 dv2 dv3 (r41 t zs v) H H') rfl G3 (fun H' g => g.a.tb) (fun H1 H2 g e tb => g.ext e tb) (fun H' g => ⟨g.rs, ok1 H' g.a.ov⟩) (fun H4 g4 E' Q' an => ?_) (fun H4 G4 => ?_)
    · obtain ⟨dy, pa, hy, hpa⟩ := id g4.a.aa
      refine ⟨_, rfl, y, dy, _, rfl, hy, rfl, _, rfl, rfl, y, x, ts, zs, v, rfl, g4.a.aa, g4.a.fa, ots, pl, g4.a.ov.dat, ?_⟩
      cases okU : userV zs.length v with
      | false =>
        have an := an.to (show r41 t zs v = .err "user" v by unfold r41; rw [okU] <;> rfl)
        rw [usE_f rfl]
        intro dd H5 s5 nd5 hd5
        rw [← eY]
        exact an 2 (by decide) rfl (some dd) H5 (g4.same s5) ⟨dd, rfl, hd5⟩
      | true =>
        have an := an.to (show r41 t zs v = .path (pathOf t (zs.getD (idxV v) "")) by unfold r41; rw [okU] <;> rfl)
        rw [usE_t rfl]
        intro z p H5 hz s5 np hp
        obtain ⟨i, z', rfl, ei, hz', ez, pz⟩ := getz okU
        rw [ei, hz'] at hz
        cases hz
        refine an (.ref p) H5 (g4.same s5) ⟨p, rfl, ?_⟩
        rw [hp, ez, path_perm ots.nd pt]
    -- has
    refine nx_in ?_
    refine asg_join (fun dv H' => B04 T CF CA d c y x q l t ts zs v u dv1 dv2 dv3 (r41 t zs v) H H' ∧ DvW H' dv ((userW zs.length v).or (nameW t false u))) (fun Q' kq => ?_) (fun dv4 H5 ⟨G5, h5⟩ => ?_)
    · refine ⟨_, rfl, rfl, _, rfl, ?_⟩
      have h1' := G4.d1
      rw [h1'.is]
      cases eo : userW zs.length v with
      | some w1 =>
        rw [eo] at h1'
        exact iteT ⟨_, rfl, kq _ _ ⟨G4, by rw [eo]; exact h1'⟩⟩
      | none => exact iteF ⟨_, rfl, kq _ _ ⟨G4, by rw [eo, Option.none_or]; exact G4.d2⟩⟩
    refine ifSq_join (fun σ' H' => ∃ dv, σ' = [some (.ref y), some (.ref q), some (.ref l), some v, some u, some dv1, some dv2, some dv, none, none] ∧ B04 T CF CA d c y x q l t ts zs v u dv1 dv2 dv (r42 t zs v u) H H') (fun D' nxD => ?_) (fun σ6 H6 ⟨dv6, e6, G6⟩ => ?_)
    · refine ⟨_, rfl, rfl, _, rfl, ?_⟩
      rw [h5.is]
      cases okU : userV zs.length v with
      | false =>
        have e1 : userW zs.length v = some (("user" : Str), v) := by unfold userW; rw [okU] <;> rfl
        rw [e1] at h5 ⊢
        refine iteF (nxD _ _ ⟨dv4, rfl, G5.a, G5.d1, G5.d2, ?_⟩)
        rw [show r42 t zs v u = .err "user" v by unfold r42; rw [okU] <;> rfl]
        exact h5
      | true =>
        have e1 : userW zs.length v = none := by unfold userW; rw [okU] <;> rfl
        rw [e1, Option.none_or] at h5 ⊢
        cases okN : flagV t u with
        | false =>
          have e2 : nameW t false u = some (("name" : Str), u) := by show (if flagV t u = true then none else some (("name" : Str), u)) = _; rw [okN] <;> rfl
          rw [e2] at h5 ⊢
          refine iteF (nxD _ _ ⟨dv4, rfl, G5.a, G5.d1, G5.d2, ?_⟩)
          rw [show r42 t zs v u = .err "name" u by unfold r42; rw [okU, okN] <;> rfl]
          exact h5
        | true =>
          have e2 : nameW t false u = none := by show (if flagV t u = true then none else some (("name" : Str), u)) = _; rw [okN] <;> rfl
          rw [e2] at h5 ⊢
          obtain ⟨a, rfl⟩ : ∃ a, u = .str a := by
            cases u with
            | str a => exact ⟨a, rfl⟩
            | _ => cases okN
          refine iteT ?_
          obtain ⟨i, z, rfl, ei, hz, ez, pz⟩ := getz okU
          refine ⟨_, rfl, _, rfl, _, rfl, _, rfl, l, _, _, .str z, rfl, rfl, SqL.of G5.a.hl, atI_nat (map_at hz), q, z, t, rfl, .inl G5.a.hq, o, pz, fun p H6 s6 np hp => ?_⟩
          refine ⟨p, _, rfl, .inr (.inl (.inl hp)), rfl, flat_strs _, ?_⟩
          rw [show (if false = true then !inV (V.str a) ((pathOf t z).map V.str) else inV (V.str a) ((pathOf t z).map V.str)) = decide (a ∈ pathOf t z) from inV_strs a _]
          have G6 := G5.same s6
          refine nxD _ _ ⟨_, rfl, G6.a, G6.d1, G6.d2, ?_⟩
          rw [show r42 t zs (.int (i : Int)) (.str a) = .bool (decide (a ∈ pathOf t z)) by unfold r42; rw [okU, okN, if_pos rfl, if_pos rfl, ez] <;> rfl]
          exact rfl
    subst e6
    refine chk_toldS (d := d) (c := c) (i := 7) (G := fun H' => B04 T CF CA d c y x q l t ts zs v u dv1 dv2 dv6 (r42 t zs v u) H H') rfl G6 (fun H' g => g.a.tb) (fun H1 H2 g e tb => g.ext e tb) (fun H' g => ⟨g.rs, ok2 H' g.a.ov g.a.ou⟩) (fun H4 g4 E' Q' an => ?_) (fun H7 G7 => ?_)
    · obtain ⟨dy, pa, hy, hpa⟩ := id g4.a.aa
      refine ⟨_, rfl, y, dy, _, rfl, hy, rfl, _, rfl, _, rfl, rfl, y, x, ts, zs, v, u, rfl, g4.a.aa, g4.a.fa, ots, pl, g4.a.ov.dat, g4.a.ou.dat, ?_⟩
      unfold hasE
      rw [flagV_perm pt]
      cases okU : userV zs.length v with
      | false =>
        have an := an.to (show r42 t zs v u = .err "user" v by unfold r42; rw [okU] <;> rfl)
        rw [usE_f rfl]
        intro dd H5 s5 nd5 hd5
        rw [← eY]
        exact an 2 (by decide) rfl (some dd) H5 (g4.same s5) ⟨dd, rfl, hd5⟩
      | true =>
        rw [usE_t rfl, Option.none_or]
        cases okN : flagV t u with
        | false =>
          have an := an.to (show r42 t zs v u = .err "name" u by unfold r42; rw [okU, okN] <;> rfl)
          rw [nmE_f rfl]
          intro dd H5 s5 nd5 hd5
          rw [← eN]
          exact an 3 (by decide) rfl (some dd) H5 (g4.same s5) ⟨dd, rfl, hd5⟩
        | true =>
          have an := an.to (show r42 t zs v u = .bool (decide (strV u ∈ pathOf t (zs.getD (idxV v) ""))) by unfold r42; rw [okU, okN] <;> rfl)
          rw [nmE_t rfl]
          intro z H5 hz s5
          obtain ⟨i, z', rfl, ei, hz', ez, pz⟩ := getz okU
          rw [ei, hz'] at hz
          cases hz
          refine an _ H5 (g4.same s5) ?_
          rw [ez, path_perm ots.nd pt]
          exact rfl
    -- users_of
    refine nx_in ?_
    refine asg_join (fun dv H' => dv = dv2 ∧ H' = H7) (fun Q' kq => ⟨_, rfl, kq _ _ ⟨rfl, rfl⟩⟩) (fun dv7 H8 ⟨e7, e8⟩ => ?_)
    subst e7
    subst e8
    refine ifSq_join (fun σ' H' => ∃ dv, σ' = [some (.ref y), some (.ref q), some (.ref l), some v, some u, some dv1, some dv7, some dv, none, none] ∧ B04 T CF CA d c y x q l t ts zs v u dv1 dv7 dv (r43 t zs u) H H') (fun D' nxD => ?_) (fun σ9 H9 ⟨dv9, e9, G9⟩ => ?_)
    · refine ⟨_, rfl, rfl, _, rfl, ?_⟩
      have h2' := G7.d2
      rw [h2'.is]
      cases okN : flagV t u with
      | false =>
        have e2 : nameW t false u = some (("name" : Str), u) := by show (if flagV t u = true then none else some (("name" : Str), u)) = _; rw [okN] <;> rfl
        rw [e2] at h2' ⊢
        refine iteF (nxD _ _ ⟨dv7, rfl, G7.a, G7.d1, G7.d2, ?_⟩)
        rw [show r43 t zs u = .err "name" u by unfold r43; rw [okN] <;> rfl]
        exact h2'
      | true =>
        have e2 : nameW t false u = none := by show (if flagV t u = true then none else some (("name" : Str), u)) = _; rw [okN] <;> rfl
        rw [e2] at h2' ⊢
        obtain ⟨a, rfl⟩ : ∃ a, u = .str a := by
          cases u with
          | str a => exact ⟨a, rfl⟩
          | _ => cases okN
        refine iteT ?_
        refine ⟨_, rfl, l, _, rfl, SqL.of G7.a.hl, fun D nD => ?_⟩
        refine lc_it walk_enum (fun j H' => Same H8 H' ∧ H' D = some (.lst ((selU j (hasC t zs a)).map V.int))) ⟨same_new nD, upd_same⟩ (fun j H' _ z => SqL.of (z.1 _ _ G7.a.hl)) ?_ ?_
        · intro j TT Ha Hb hj ⟨q1, q2⟩ ⟨T', y1, z, eT, nT, eH, ey, ez⟩
          subst eT
          subst eH
          cases ey
          obtain ⟨b, hb, rfl⟩ := map_of (f := V.str) (l := zs) (show (zs.map V.str)[j]? = some z from ez)
          have sT : Same Ha (upd Ha T' (.tup [.int (j : Int), .str b])) := same_new nT
          have jl := (List.getElem?_eq_some_iff.mp hb).1
          have ls := selU_len j (hasC t zs a)
          refine ⟨T', [.int (j : Int), .str b], rfl, .inl (.inl upd_same), rfl, _, _, rfl, _, _, rfl, rfl, rfl, ?_⟩
          refine ⟨_, rfl, _, rfl, _, rfl, q, b, t, rfl, .inl (sT _ _ (q1 _ _ G7.a.hq)), o, plt b (List.mem_of_getElem? hb), fun pt' H4 s4 npt hpt => ?_⟩
          refine ⟨pt', _, rfl, .inr (.inl (.inl hpt)), rfl, flat_strs _, _, rfl, ?_⟩
          rw [show (if false = true then !inV (V.str a) ((pathOf t b).map V.str) else inV (V.str a) ((pathOf t b).map V.str)) = decide (a ∈ pathOf t b) from inV_strs a _]
          have more := selU_more j (hasC t zs a)
          have ec : hasC t zs a j = decide (a ∈ pathOf t b) := by
            unfold hasC
            rw [hb]
          rw [ec] at more
          have q3 := s4 _ _ (sT _ _ q2)
          refine ite2 (fun yes => ?_) (fun no => ?_)
          · have yes : decide (a ∈ pathOf t b) = true := yes
            rw [if_pos yes] at more
            refine ⟨_, rfl, _, q3, by rw [List.length_map]; omega, ((q1.trans sT).trans s4).put nD, by rw [upd_same, more, List.map_append] <;> rfl⟩
          · have no : ¬ decide (a ∈ pathOf t b) = true := no
            rw [if_neg no, List.append_nil] at more
            exact ⟨(q1.trans sT).trans s4, by rw [more]; exact q3⟩
        · intro H1 ⟨q1, q2⟩
          rw [List.length_map] at q2
          have G6 := G7.same q1
          refine nxD _ _ ⟨_, rfl, G6.a, G6.d1, G6.d2, ?_⟩
          rw [show r43 t zs (.str a) = .nums (hasU t zs a) by unfold r43; rw [okN] <;> rfl]
          exact ⟨D, rfl, q2⟩
    subst e9
    refine chk_toldS (d := d) (c := c) (i := 7) (G := fun H' => B04 T CF CA d c y x q l t ts zs v u dv1 dv7 dv9 (r43 t zs u) H H') rfl G9 (fun H' g => g.a.tb) (fun H1 H2 g e tb => g.ext e tb) (fun H' g => ⟨g.rs, ok3 H' g.a.ou⟩) (fun H4 g4 E' Q' an => ?_) (fun H10 G10 => ?_)
    · obtain ⟨dy, pa, hy, hpa⟩ := id g4.a.aa
      refine ⟨_, rfl, y, dy, _, rfl, hy, rfl, _, rfl, rfl, y, x, ts, zs, u, rfl, g4.a.aa, g4.a.fa, ots, pl, by omega, g4.a.ou.dat, ?_⟩
      rw [flagV_perm pt]
      cases okN : flagV t u with
      | false =>
        have an := an.to (show r43 t zs u = .err "name" u by unfold r43; rw [okN] <;> rfl)
        rw [nmE_f rfl]
        intro dd H5 s5 nd5 hd5
        rw [← eN]
        exact an 3 (by decide) rfl (some dd) H5 (g4.same s5) ⟨dd, rfl, hd5⟩
      | true =>
        have an := an.to (show r43 t zs u = .nums (hasU t zs (strV u)) by unfold r43; rw [okN] <;> rfl)
        rw [nmE_t rfl]
        intro p H5 s5 np hp
        exact an (.ref p) H5 (g4.same s5) ⟨p, rfl, by rw [hp, hasU_perm4 ots pt]⟩
    -- at
    refine nx_in ?_
    refine asg_join (fun dv H' => B04 T CF CA d c y x q l t ts zs v u dv1 dv7 dv9 (r43 t zs u) H H' ∧ DvW H' dv (nameW t true u)) (fun Q' kq => ?_) (fun dv11 H11 ⟨G11, h11⟩ => ?_)
    · exact ⟨_, rfl, _, rfl, q, u, true, t, rfl, G10.a.hq, o, G10.a.ou.dat, tellW_of fun dv H' s' h' => kq _ _ ⟨G10.same s', h'⟩⟩
    refine ifSq_join (fun σ' H' => ∃ dv, σ' = [some (.ref y), some (.ref q), some (.ref l), some v, some u, some dv1, some dv7, some dv, none, none] ∧ B04 T CF CA d c y x q l t ts zs v u dv1 dv7 dv (r44 t zs u) H H') (fun D' nxD => ?_) (fun σ9 H12 ⟨dv12, e9, G12⟩ => ?_)
    · refine ⟨_, rfl, rfl, _, rfl, ?_⟩
      rw [h11.is]
      cases okN : placeV t u with
      | false =>
        have e2 : nameW t true u = some (("name" : Str), u) := by show (if placeV t u = true then none else some (("name" : Str), u)) = _; rw [okN] <;> rfl
        rw [e2] at h11 ⊢
        refine iteF (nxD _ _ ⟨dv11, rfl, G11.a, G11.d1, G11.d2, ?_⟩)
        rw [show r44 t zs u = .err "name" u by unfold r44; rw [okN] <;> rfl]
        exact h11
      | true =>
        have e2 : nameW t true u = none := by show (if placeV t u = true then none else some (("name" : Str), u)) = _; rw [okN] <;> rfl
        rw [e2] at h11 ⊢
        obtain ⟨a, rfl⟩ : ∃ a, u = .str a := by
          cases u with
          | str a => exact ⟨a, rfl⟩
          | _ => cases okN
        refine iteT ?_
        refine ⟨_, rfl, l, _, rfl, SqL.of G11.a.hl, fun D nD => ?_⟩
        refine lc_it walk_enum (fun j H' => Same H11 H' ∧ H' D = some (.lst ((selU j (atC zs a)).map V.int))) ⟨same_new nD, upd_same⟩ (fun j H' _ z => SqL.of (z.1 _ _ G11.a.hl)) ?_ ?_
        · intro j TT Ha Hb hj ⟨q1, q2⟩ ⟨T', y1, z, eT, nT, eH, ey, ez⟩
          subst eT
          subst eH
          cases ey
          obtain ⟨b, hb, rfl⟩ := map_of (f := V.str) (l := zs) (show (zs.map V.str)[j]? = some z from ez)
          have sT : Same Ha (upd Ha T' (.tup [.int (j : Int), .str b])) := same_new nT
          have jl := (List.getElem?_eq_some_iff.mp hb).1
          have ls := selU_len j (atC zs a)
          refine ⟨T', [.int (j : Int), .str b], rfl, .inl (.inl upd_same), rfl, _, _, rfl, _, _, rfl, rfl, rfl, ?_⟩
          refine ⟨_, rfl, _, rfl, rfl, _, rfl, ?_⟩
          have more := selU_more j (atC zs a)
          have ec : atC zs a j = decide (b = a) := by
            unfold atC
            rw [hb]
            by_cases e : b = a
            · rw [decide_eq_true e, decide_eq_true (by rw [e])]
            · rw [decide_eq_false e, decide_eq_false fun z => e (Option.some.inj z)]
          by_cases e : b = a
          · rw [decide_eq_true (show V.str b = V.str a by rw [e])]
            show if true = true then _ else _
            rw [if_pos rfl]
            rw [ec, decide_eq_true e, if_pos rfl] at more
            refine ⟨_, rfl, _, sT _ _ q2, by rw [List.length_map]; omega, (q1.trans sT).put nD, by rw [upd_same, more, List.map_append] <;> rfl⟩
          · rw [decide_eq_false (show ¬ V.str b = V.str a from fun z => e (V.str.inj z))]
            rw [ec, decide_eq_false e, if_neg (by decide), List.append_nil] at more
            exact iteF ⟨q1.trans sT, by rw [more]; exact sT _ _ q2⟩
        · intro H1 ⟨q1, q2⟩
          rw [List.length_map] at q2
          have G6 := G11.same q1
          refine nxD _ _ ⟨_, rfl, G6.a, G6.d1, G6.d2, ?_⟩
          rw [show r44 t zs (.str a) = .nums (atU zs a) by unfold r44; rw [okN] <;> rfl]
          exact ⟨D, rfl, q2⟩
    subst e9
    refine chk_toldR (d := d) (c := c) (i := 7) (G := fun H' => B04 T CF CA d c y x q l t ts zs v u dv1 dv7 dv12 (r44 t zs u) H H') rfl G12 (fun H' g => g.a.tb) (fun H1 H2 g e tb => g.ext e tb) (fun H' g => ⟨g.rs, ok4 H' g.a.ou⟩) (fun H4 g4 E' Q' an => ?_) (fun H13 G13 => k H13 G13.a.tb G13.a.ex)
    obtain ⟨dy, pa, hy, hpa⟩ := id g4.a.aa
    refine ⟨_, rfl, y, dy, _, rfl, hy, rfl, _, rfl, rfl, y, x, ts, zs, u, rfl, g4.a.aa, g4.a.fa, ots, by omega, g4.a.ou.dat, ?_⟩
    rw [placeV_perm pt]
    cases okN : placeV t u with
    | false =>
      have an := an.to (show r44 t zs u = .err "name" u by unfold r44; rw [okN] <;> rfl)
      rw [nmE_f rfl]
      intro dd H5 s5 nd5 hd5
      rw [← eN]
      exact an 3 (by decide) rfl (some dd) H5 (g4.same s5) ⟨dd, rfl, hd5⟩
    | true =>
      have an := an.to (show r44 t zs u = .nums (atU zs (strV u)) by unfold r44; rw [okN] <;> rfl)
      rw [nmE_t rfl]
      intro p H5 s5 np hp
      exact an (.ref p) H5 (g4.same s5) ⟨p, rfl, hp⟩
end
end FT


/-! Own: def m(self, b, *v) called as o.m(b = x): what is left over is an empty tuple -/
namespace FT
open PySem PySem.Spec PyProof.Rows L2 TL ClX StX
/-- what such a call keeps -/
def FnRK (P : Program) (w : World) (K : PySem.W.Frag) (mg : Str → Option Value) (base : Heap) (CX : CXT) (k : Nat) (f : Addr) (b : Str) (sp : Sp) : Prop :=
  ∀ (A : Around) (outer : List Env) (s : Shared) (H : Hp) (u v : Value) (x y : V) (Q : VK) (E : XK), Room k A → Env0 P w K mg base A outer s H → RelV x u → RelV y v → sp [x, y] H Q E →
    codeAny (model P w) A (.call (.ref f) ⟨[u], [(b, v)]⟩) (CR CX outer P w H s Q E) s
section
variable {CX : CXT} {P : Program} {w : World} {K : PySem.W.Frag} {mg : Str → Option Value} {base : Heap} {k : Nat} {f : Addr} {name qual : Str} {params : Arguments} {body : List Stmt} {scope : Scope} {dV kV doc pm cdv ct oc : Value} {an od : Option Addr}
  {osl : Array (Option Value)} {N : List Str} {sp : Sp}
theorem fn_starK {p1 b pv : Str} (lk : K.lookup f = some ⟨oc, od, .func (PySem.W.fnOf name qual params body scope dV kV doc pm an cdv ct), osl⟩) (hcd : PySem.W.codeIn K cdv qual = true) (S : FnScope N [p1, b, pv] scope) (hCX : CXUp CX)
    (hb : ∀ u v : Value, bindArgs (PySem.W.fnOf name qual params body scope dV kV doc pm an cdv ct) ⟨[u], [(b, v)]⟩ = (newTuple [] >>= fun t => pure [(p1, u), (b, v), (pv, t)]))
    (hbody : ∀ (A : Around) (outer : List Env) (s : Shared) (H : Hp) (vs : List V) (Q : VK) (E : XK), Room k (A.deeper (envOfC qual scope s.heap.objs.size f cdv)) → sp vs H Q E →
      ∃ t, PSs (cxOf CX P w K mg base N qual scope f cdv A outer s H E) body t ∧ t { nx := fun _ H' => Q .non H', rt := Q } (start N vs) H) :
    FnRK P w K mg base CX (k + 1) f b (fun vs H Q E => ∀ p, H p = Option.none → sp (vs ++ [V.ref p]) (upd H p (.tup [])) Q E) := by
  intro A outer s H u v x y Q E hr e0 rx ry hq
  have hn : H s.heap.objs.size = Option.none := e0.hok.fresh (Nat.le_refl _)
  refine run_bnd lk hcd S hr e0 (G := fun xs H2 => ∃ p, H p = Option.none ∧ xs = [x, y, V.ref p] ∧ H2 = upd H p (.tup [])) (fun A' Ex Q' h => ?_) fun s2 H2 xs ⟨p, hp, ex, eH⟩ hr' => ?_
  · rw [hb u v]
    refine wpAny_bind (wpAny_newTuple (wpAny_pure ?_) (Nat.zero_le _))
    have new : ObjOk P w (upd H s.heap.objs.size (.tup [])) (s.heap.push ({ cls := .type "tuple", data := .seq ([] : List Value).toArray } : Obj)) s.heap.objs.size (.tup []) := ⟨Nat.zero_le _, [], .nil, ⟨_, Heap.get?_push_size _ rfl, rfl, _, rfl⟩⟩
    have un := un_laid (fs := frs outer) (s := s) (o := ({ cls := .type "tuple", data := .seq ([] : List Value).toArray } : Obj)) (u := .tup []) hn
    exact h _ _ [x, y, V.ref s.heap.objs.size] [u, v, Value.ref s.heap.objs.size] (env0_laid e0 new) un rfl (fun e s' => hCX outer s H _ _ E e s' un (fun b o q => Heap.get?_push_of_some _ q) rfl) (.cons rx (.cons ry (.cons rfl .nil))) rfl ⟨_, hn, rfl, rfl⟩
  · subst ex eH
    exact hbody A outer s2 _ _ Q E hr' (hq p hp)
end
def tMethRK (C : Addr) (m : Str) (sp : Sp) (E : XK) (ta : TE) (tk : TA) : TE := fun σ H Q => ta σ H fun x H1 => ∃ a dx fs, x = .ref a ∧ H1 a = some (.ins C dx fs) ∧ fs.lookup m = none ∧ tk σ H1 fun zs H2 => ∃ z, zs = [z] ∧ sp [.ref a, z] H2 Q E
theorem pe_methRK {X : Cx} {CX : CXT} {k : Nat} {C f : Addr} {b : Str} {sp : Sp} {E : XK} {m : Str} {o : Expr} {apos pos : Pos} {kw : Keyword} {ta : TE} {tk : TA} {pl : Sem Bool}
    (he : PE X o ta) (c : Cls X.K C) (hm : Meth X.K C m f) (F : FnRK X.prog X.w X.K X.mg X.base CX k f b sp) (hr : Room k X.A) (hx : Passes CX X E)
    (hkw : PK X [kw] tk) (hall : (backToKw pos (keywordEach [kw] X.env)).all (·.1.isSome) = true := by rfl) (hks : (backToKw pos (keywordEach [kw] X.env)).filterMap (·.1) = [b] := by rfl)
    (hpl : ((backTo pos (starEach [] X.env)).any (·.1) || (backToKw pos (keywordEach [kw] X.env)).any (·.1.isNone)) = false := by rfl)
    (ht : eval (.Call (.Attribute o m apos) [] [kw] pos) X.env = (do
      let ov ← eval o X.env
      standAt apos.atName
      let (f, first) ← holding [ov] (getMethod ov m pl)
      callWith pos f first (backTo pos (starEach [] X.env)) (backToKw pos (keywordEach [kw] X.env))) := by rfl) :
    PE X (.Call (.Attribute o m apos) [] [kw] pos) (tMethRK C m sp E ta tk) := by
  refine ⟨fun pins s σ H Q I h => ?_⟩
  refine PySem.W.methodCall_KW (pl := pl) (thn (he.run pins s σ H _ I h) fun u s1 ⟨x, H1, I1, rx, a, dx, fs, ex, ea, l, q⟩ => ?_) ht
  subst ex
  obtain rfl : u = Value.ref a := rx
  refine getmeth_ok I1 ea c hm l ?_
  refine PySem.W.callWith_KW0 (first := [.ref a]) (h₀ := X.base) I.ok.mod.kin hm.kp hall ?_ hpl
  refine thn (hkw.run pos pins s1 σ H1 _ I1 q) fun ws s2 ⟨zs, H2, J, rz, z, ez, want⟩ => ⟨J.kIn, ?_⟩
  subst ez
  rw [hks]
  cases rz with
  | @cons _ v _ _ rz r =>
    cases r
    refine wpAny_call (codeAny_mono (F X.A X.stack s2 H2 (.ref a) v (.ref a) z Q E hr J.env0 rfl rz want) fun r s' hq => ?_)
    cases r with
    | error e => exact hx _ _ _ _ e s' J hq
    | ok fl =>
      cases fl with
      | ret u => exact J.after hq
      | next => exact False.elim hq
      | brk => exact False.elim hq
      | cont => exact False.elim hq
end FT


/-! a text times a number: its length -/
namespace L2
open PySem PySem.Spec PyProof.Rows
section
variable {X : Cx}
def rMulS : R2 := fun x y H Q => ∃ (a : Str) (n : Int), x = .str a ∧ y = .int n ∧ a.length ≤ 1000 ∧ 0 ≤ n ∧ n ≤ 1000 ∧ ∀ b : Str, b.length = a.length * n.toNat → Q (.str b) H
end
end L2


/-! Assignment.moved and empty with any values -/
namespace FT
open PySem L2 TL ClX LiI
/-- the places after these users have moved -/
def mvd (zs : List Str) (us : List V) (p : Str) : List Str := (List.range zs.length).map fun (i : Nat) => if V.int (i : Int) ∈ us then p else zs.getD i ""
theorem mvd_len (zs : List Str) (us : List V) (p : Str) : (mvd zs us p).length = zs.length := by unfold mvd; rw [List.length_map, List.length_range]
theorem mvd_at {zs : List Str} {us : List V} {p : Str} {i : Nat} (h : i < zs.length) : (mvd zs us p)[i]? = some (if V.int (i : Int) ∈ us then p else zs.getD i "") := by
  unfold mvd
  rw [List.getElem?_map, List.getElem?_range h] <;> rfl
theorem mvd_nil (zs : List Str) (p : Str) : mvd zs [] p = zs := by
  refine List.ext_getElem? fun i => ?_
  by_cases h : i < zs.length
  · rw [mvd_at h, if_neg (by simp), List.getD_eq_getElem?_getD, List.getElem?_eq_getElem h] <;> rfl
  · rw [List.getElem?_eq_none (by rw [mvd_len]; omega), List.getElem?_eq_none (by omega)]
theorem mvd_more {zs : List Str} {us : List V} {p : Str} {i : Nat} (h : i < zs.length) : (mvd zs us p).set i p = mvd zs (us ++ [.int (i : Int)]) p := by
  refine List.ext_getElem? fun j => ?_
  by_cases hj : j < zs.length
  · rw [mvd_at hj]
    by_cases e : i = j
    · subst e
      rw [List.getElem?_set_self (by rw [mvd_len]; exact h), if_pos (List.mem_append_right _ List.mem_cons_self)]
    · rw [List.getElem?_set_ne e, mvd_at hj]
      have : (V.int (j : Int) ∈ us ++ [V.int (i : Int)]) ↔ V.int (j : Int) ∈ us := by
        rw [List.mem_append, List.mem_singleton]
        refine ⟨fun z => z.resolve_right fun z => e ?_, .inl⟩
        have := V.int.inj z
        omega
      by_cases m : V.int (j : Int) ∈ us
      · rw [if_pos m, if_pos (this.mpr m)]
      · rw [if_neg m, if_neg fun z => m (this.mp z)]
  · rw [List.getElem?_eq_none (by rw [List.length_set, mvd_len]; omega), List.getElem?_eq_none (by rw [mvd_len]; omega)]
theorem mvd_pl {ts : List (Str × Str)} {zs : List Str} {us : List V} {p : Str} (h : ∀ z ∈ zs, Pl ts z) (hp : Pl ts p) : ∀ z ∈ mvd zs us p, Pl ts z := fun z hz => by
  unfold mvd at hz
  obtain ⟨i, hi, rfl⟩ := List.mem_map.mp hz
  have hi := List.mem_range.mp hi
  split
  · exact hp
  · rw [List.getD_eq_getElem?_getD, List.getElem?_eq_getElem hi]
    exact h _ (List.getElem_mem hi)
/-- what is wrong with a place and users -/
def mvEr4 (CN CY : Addr) (ts : List (Str × Str)) (n : Nat) (w : V) (us : List V) : Option Err := (nmE CN (placeV ts w) w).or ((us.find? fun u => !userV n u).map fun u => .e1 CY "user" u)
def MvQ (CA CN CY : Addr) (ts : List (Str × Str)) (x : Addr) (zs : List Str) (w : V) (us : List V) (H : Hp) (Q : VK) (E : XK) : Prop :=
  match mvEr4 CN CY ts zs.length w us with
  | none => ∀ (y' : Addr) (H' : Hp), Same H H' → H y' = none → AAt CA H' y' x (mvd zs us (strV w)) → Q (.ref y') H'
  | some e => Out H E e
theorem MvQ.mono {CA CN CY x : Addr} {ts : List (Str × Str)} {zs : List Str} {w : V} {us : List V} {H H1 : Hp} {Q : VK} {E : XK} (s : Same H H1) (h : MvQ CA CN CY ts x zs w us H Q E) : MvQ CA CN CY ts x zs w us H1 Q E := by
  unfold MvQ at h ⊢
  cases e : mvEr4 CN CY ts zs.length w us with
  | none => rw [e] at h; exact fun y' H' s' n a => h y' H' (s.trans s') (s.free n) a
  | some e' => rw [e] at h; exact Out.mono s h
def spMoved (K : PySem.W.Frag) (CF CA CN CY : Addr) : Sp := fun vs H Q E => ∃ (y x tp : Addr) (ts : List (Str × Str)) (zs : List Str) (w : V) (us : List V), vs = [.ref y, w, .ref tp] ∧ AAt CA H y x zs ∧ FAt CF H x ts ∧ TreeOk ts ∧ (∀ z ∈ zs, Pl ts z) ∧ 1 ≤ zs.length ∧ zs.length ≤ 60 ∧ IsDat K H w ∧ H tp = some (.tup us) ∧ (∀ u ∈ us, IsDat K H u) ∧ MvQ CA CN CY ts x zs w us H Q E
/-- called by place: o.moved(place, u, ..) -/
def spMovedR (K : PySem.W.Frag) (CF CA CN CY : Addr) : Sp := fun vs H Q E => ∃ (y x : Addr) (ts : List (Str × Str)) (zs : List Str) (w : V) (us : List V), vs = .ref y :: w :: us ∧ AAt CA H y x zs ∧ FAt CF H x ts ∧ TreeOk ts ∧ (∀ z ∈ zs, Pl ts z) ∧ 1 ≤ zs.length ∧ zs.length ≤ 60 ∧ IsDat K H w ∧ us.length ≤ 100 ∧ (∀ u ∈ us, IsDat K H u) ∧ MvQ CA CN CY ts x zs w us H Q E
/-- called by name, no users: o.moved(place=w) -/
def spMovedK (K : PySem.W.Frag) (CF CA CN CY : Addr) : Sp := fun vs H Q E => ∃ (y x : Addr) (ts : List (Str × Str)) (zs : List Str) (w : V), vs = [.ref y, w] ∧ AAt CA H y x zs ∧ FAt CF H x ts ∧ TreeOk ts ∧ (∀ z ∈ zs, Pl ts z) ∧ 1 ≤ zs.length ∧ zs.length ≤ 60 ∧ IsDat K H w ∧ MvQ CA CN CY ts x zs w [] H Q E
abbrev NMv : List Str := ["self", "place", "users", "places", "user"]
section
variable {P : Program} {w : World} {K : PySem.W.Frag} {mg : Str → Option Value} {base : Heap}
theorem scMv : FnScope NMv ["self", "place", "users"] (defScope s_Assignment_moved) := ⟨rfl, rfl, rfl, by decide +kernel, rfl, by decide +kernel, by decide +kernel⟩
theorem mv_body {fN fU fA CF CA CN CY : Addr} {mcA : Value} {fdN fdU fdA : FuncData} (T : Nm mg) (O : FoC K CF) (B : Ac K mg CA mcA) (DN : Dn P w K mg base (L2.CX P w) 3 "need_place" ["forest", "place"] (spNeedPlE K CF CN) fN fdN) (DU : Dn P w K mg base (L2.CX P w) 3 "need_user" ["assignment", "user"] (spNeedUsE K CA CY) fU fdU)
    (AI : FnOk P w K mg base CX0 1 fA fdA ["self", "forest", "places"] (spAInit CF CA)) (AM : Mk K CA fA) (AB : Binds K fdA ["self", "forest", "places"] []) {q : Str} {f : Addr} {cdv : Value} {A : Around} {outer : List Env} {s : Shared} {H : Hp} {vs : List V} {Q : VK} {E : XK}
    (hr : Room 3 (A.deeper (PyProof.Rows.envOfC q (defScope s_Assignment_moved) s.heap.objs.size f cdv))) (h : spMoved K CF CA CN CY vs H Q E) :
    ∃ t, PSs (cxOf (L2.CX P w) P w K mg base NMv q (defScope s_Assignment_moved) f cdv A outer s H E) (defBody s_Assignment_moved) t ∧ t { nx := fun _ H' => Q .non H', rt := Q } (start NMv vs) H := by
  obtain ⟨y, x, tp, ts, zs, wv, us, rfl, ha, fa, o, pls, z1, z60, dw, htp, du, k⟩ := h
  have nd := scMv.nd
  have big : 1000 ≤ sizeLine := by decide
  refine ⟨_, pss_cons (ps_expr (pe_call DN.ok hr rfl DN.mgn DN.kp DN.bn .nil (passes_call (takes_of rfl rfl rfl rfl) (fun _ _ _ _ h => h)) (pa_cons (pe_fld (pv 0) rfl) (pa_cons (pv 1) pa_nil))))
    (pss_cons (ps_set (i := 3) nd rfl (.inl rfl) (pe_callTy call_list_of (by rfl) T.lst (by decide +kernel) (pa_cons (pe_fld (pv 0) rfl) pa_nil)))
    (pss_cons (ps_for (passes_of rfl) rfl (pi_tup (pv 2)) (pg_name (i := 4) nd rfl (.inl rfl))
      (pss_cons (ps_expr (pe_call DU.ok hr rfl DU.mgn DU.kp DU.bn .nil (passes_call (takes_of rfl rfl rfl rfl) (fun _ _ _ _ h => h)) (pa_cons (pv 0) (pa_cons (pv 4) pa_nil))))
      (pss_one (ps_asg (pv 1) (pg_sub (pv 3) (pv 4) set_list)))))
    (pss_one (ps_ret (pe_make AM AI (hr.mono (by decide)) rfl B.gA AB .nil pass0 (pa_cons (pe_fld (pv 0) rfl) (pa_cons (pv 3) pa_nil))))))), ?_⟩
  obtain ⟨dy, p, hy, hp⟩ := id ha
  refine ⟨_, rfl, y, CA, dy, _, .ref x, rfl, hy, B.cl, B.nF, rfl, _, rfl, x, ts, wv, rfl, fa, o, dw, ?_⟩
  cases ok : placeV ts wv with
  | false =>
    unfold MvQ mvEr4 at k
    rw [ok, nmE_f rfl] at k
    rw [nmE_f rfl]
    exact k
  | true =>
  obtain ⟨b, rfl⟩ : ∃ b, wv = .str b := by
    cases wv with
    | str b => exact ⟨b, rfl⟩
    | _ => cases ok
  have plb : Pl ts b := by
    have ok' : decide (b = "" ∨ b ∈ ts.map Prod.fst) = true := ok
    have h0 := of_decide_eq_true ok'
    exact h0
  rw [nmE_t rfl]
  intro H1 s1
  have k1 := k.mono s1
  clear k
  have fa1 := fa.mono s1
  have ha1 := ha.mono s1
  obtain ⟨dy', p', hy', hp'⟩ := id ha1
  refine ⟨_, rfl, y, CA, dy', _, .ref p', rfl, hy', B.cl, B.nP, rfl, p', _, rfl, .inl (SqL.of hp'), fun l nl => ?_⟩
  obtain ⟨H2, e2⟩ : ∃ X, X = upd H1 l (.lst (zs.map V.str)) := ⟨_, rfl⟩
  have s2 : Same H1 H2 := e2 ▸ same_new nl
  have hl2 : H2 l = some (.lst (zs.map V.str)) := by rw [e2]; exact upd_same
  rw [← e2]
  clear e2
  have htp1 := s1 _ _ htp
  refine ⟨_, rfl, tp, rfl, ⟨us, SqT.of (s2 _ _ htp1)⟩, ?_⟩
  refine for_it walk_tup (fun j σ' H' => (∃ u4, σ' = [some (.ref y), some (.str b), some (.ref tp), some (.ref l), u4]) ∧ Same H1 H' ∧ H' l = some (.lst ((mvd zs (us.take j) b).map V.str)) ∧ (∀ u ∈ us.take j, userV zs.length u = true))
    ⟨⟨none, rfl⟩, s2, by rw [List.take_zero, mvd_nil]; exact hl2, by simp⟩ (fun j σ' H' _ z => SqT.of (z.2.1 _ _ htp1)) ?_ ?_
  · intro j u σ' Ha Hb hj ⟨⟨u4, e⟩, sa, hl, good⟩ ⟨eb, ex⟩
    subst e
    subst eb
    have tk : us.take (j + 1) = us.take j ++ [u] := by rw [List.take_add_one, ex] <;> rfl
    refine ⟨_, rfl, _, rfl, y, x, zs, u, rfl, ha1.mono sa, ((du u (List.mem_of_getElem? ex)).mono s1).mono sa, ?_⟩
    cases okU : userV zs.length u with
    | false =>
      have fnd : us.find? (fun u => !userV zs.length u) = some u := by
        rw [List.find?_eq_some_iff_append]
        refine ⟨by rw [okU] <;> rfl, us.take j, us.drop (j + 1), ?_, fun v hv => by rw [good v hv] <;> rfl⟩
        have e1 := List.take_append_drop j us
        rw [List.drop_eq_getElem_cons hj] at e1
        rw [← (List.getElem?_eq_some_iff.mp ex).2]
        exact e1.symm
      unfold MvQ mvEr4 at k1
      rw [ok, nmE_t rfl, fnd] at k1
      rw [usE_f rfl]
      have k1 : Out H1 E (.e1 CY "user" u) := k1
      exact k1.mono sa
    | true =>
      obtain ⟨i, rfl, il, ei⟩ := userV_t okU
      rw [usE_t rfl]
      intro H3 s3
      refine ⟨_, rfl, _, rfl, _, rfl, l, _, (i : Int), i, rfl, rfl, s3 _ _ hl, ixN_nat (by rw [List.length_map, mvd_len]; exact il), ?_⟩
      have sp : Same H1 (upd H3 l (.lst (((mvd zs (us.take j) b).map V.str).set i (.str b)))) := fun c u e => by
        have cl : c ≠ l := fun z => by rw [z, nl] at e; cases e
        rw [upd_ne cl]
        exact s3 _ _ (sa _ _ e)
      refine ⟨⟨_, rfl⟩, sp, ?_, fun v hv => ?_⟩
      · rw [upd_same, tk, ← mvd_more il, List.map_set]
      · rw [tk] at hv
        rcases List.mem_append.mp hv with h | h
        · exact good v h
        · rw [List.mem_singleton.mp h]
          exact okU
  · intro σ' H3 ⟨⟨u4, e⟩, sa, hl, good⟩
    subst e
    rw [List.take_length] at hl good
    have fnd : us.find? (fun u => !userV zs.length u) = none := List.find?_eq_none.mpr fun u hu => by rw [good u hu]; decide
    unfold MvQ mvEr4 at k1
    rw [ok, nmE_t rfl, fnd] at k1
    have k1 : ∀ (y' : Addr) (H' : Hp), Same H1 H' → H1 y' = none → AAt CA H' y' x (mvd zs us b) → Q (.ref y') H' := k1
    have hy3 := sa _ _ hy'
    refine ⟨_, rfl, y, CA, dy', _, .ref x, rfl, hy3, B.cl, B.nF, rfl, _, rfl, fun y2 dx2 n1 n2 ne => ?_⟩
    have sn : Same H3 (upd (upd H3 dx2 (.own y2)) y2 (.ins CA dx2 [])) := fun c u e => by
      rw [upd_ne (ne_of_none e n1), upd_ne (ne_of_none e n2)]
      exact e
    refine ⟨y2, x, l, dx2, ts, mvd zs us b, rfl, upd_same, (fa1.mono sa).mono sn, o, sn _ _ hl, by rw [mvd_len]; exact z1, by rw [mvd_len]; exact z60, mvd_pl pls plb, fun H4 aa kp => ⟨rfl, ?_⟩⟩
    refine k1 y2 H4 (fun c u e => ?_) (sa.free n1) aa
    have e3 := sa _ _ e
    exact kp c u (ne_of_none e3 n1) (sn _ _ e3)
theorem ok_movedR {f fN fU fA CF CA CN CY : Addr} {mcA : Value} {fd fdN fdU fdA : FuncData} (F : Fun K "moved" "Assignment.moved" s_Assignment_moved f fd) (T : Nm mg) (O : FoC K CF) (B : Ac K mg CA mcA) (DN : Dn P w K mg base (L2.CX P w) 3 "need_place" ["forest", "place"] (spNeedPlE K CF CN) fN fdN) (DU : Dn P w K mg base (L2.CX P w) 3 "need_user" ["assignment", "user"] (spNeedUsE K CA CY) fU fdU)
    (AI : FnOk P w K mg base CX0 1 fA fdA ["self", "forest", "places"] (spAInit CF CA)) (AM : Mk K CA fA) (AB : Binds K fdA ["self", "forest", "places"] []) : FnR P w K mg base (L2.CX P w) 4 f (spMovedR K CF CA CN CY) := by
  obtain ⟨oc, od, kV, doc, pm, an, cdv, ct, osl, rfl, lk, hcd⟩ := F.ex
  refine FnR.imp (StX.fn_star (ps := ["self", "place"]) (pv := "users") (sp := spMoved K CF CA CN CY) lk hcd scMv StX.cxUp (StX.bind_star2 (B := fun us => bindArgs _ ⟨us, []⟩) (fun _ _ => rfl) (fun _ _ _ _ => rfl)) fun A outer s H vs Q E hr h => mv_body T O B DN DU AI AM AB hr h) fun vs H Q E h => ?_
  obtain ⟨y, x, ts, zs, wv, us, rfl, ha, fa, o, pls, z1, z60, dw, l, du, k⟩ := h
  refine ⟨[.ref y, wv], us, rfl, rfl, by show us.length ≤ sizeLine; have : 1000 ≤ sizeLine := (by decide); omega, fun p np => ?_⟩
  have s := same_new (o := .tup us) np
  exact ⟨y, x, p, ts, zs, wv, us, rfl, ha.mono s, fa.mono s, o, pls, z1, z60, dw.mono s, upd_same, fun u hu => (du u hu).mono s, k.mono s⟩
theorem ok_movedK {f fN fU fA CF CA CN CY : Addr} {mcA : Value} {fd fdN fdU fdA : FuncData} (F : Fun K "moved" "Assignment.moved" s_Assignment_moved f fd) (T : Nm mg) (O : FoC K CF) (B : Ac K mg CA mcA) (DN : Dn P w K mg base (L2.CX P w) 3 "need_place" ["forest", "place"] (spNeedPlE K CF CN) fN fdN) (DU : Dn P w K mg base (L2.CX P w) 3 "need_user" ["assignment", "user"] (spNeedUsE K CA CY) fU fdU)
    (AI : FnOk P w K mg base CX0 1 fA fdA ["self", "forest", "places"] (spAInit CF CA)) (AM : Mk K CA fA) (AB : Binds K fdA ["self", "forest", "places"] []) : FnRK P w K mg base (L2.CX P w) 4 f "place" (spMovedK K CF CA CN CY) := by
  obtain ⟨oc, od, kV, doc, pm, an, cdv, ct, osl, rfl, lk, hcd⟩ := F.ex
  have base_ := fn_starK (p1 := "self") (b := "place") (pv := "users") (sp := spMoved K CF CA CN CY) lk hcd scMv StX.cxUp (fun _ _ => rfl) fun A outer s H vs Q E hr h => mv_body T O B DN DU AI AM AB hr h
  intro A outer s H u v x0 y0 Q E hr e0 rx ry h
  refine base_ A outer s H u v x0 y0 Q E hr e0 rx ry fun p np => ?_
  obtain ⟨y, x, ts, zs, wv, ev, ha, fa, o, pls, z1, z60, dw, k⟩ := h
  obtain ⟨rfl, rfl⟩ : x0 = .ref y ∧ y0 = wv := by
    injection ev with a b
    injection b with b _
    exact ⟨a, b⟩
  have s := same_new (o := .tup []) np
  exact ⟨y, x, p, ts, zs, y0, [], rfl, ha.mono s, fa.mono s, o, pls, z1, z60, dw.mono s, upd_same, (fun u hu => nomatch hu), k.mono s⟩
end
end FT


/-! own __eq__; Forest.__eq__; (need_match: FtEqM) -/
namespace FT
open PySem L2 TL ClX LiI
def strKey (e : DictEntry) : Bool := match e.key with
  | .str _ _ => true
  | _ => false
/-- a class of the text with its own __eq__ and no __ne__ -/
structure EqF (K : PySem.W.Frag) (C f : Addr) : Prop where
  at_ : ∃ nm q N bs sn sub ab col dd k0 k1 k2 k3 k5 newId, K.lookup C = some (excClassObj nm q C N bs [.type "object"] true sn sub ab col dd k0 k1 k2 k3 k5 newId) ∧
    ∃ (oc : Value) (od : Option Addr) (es : Array DictEntry) (ep : Nat) (sl : Array (Option Value)), K.lookup N = some ⟨oc, od, .dict es ep, sl⟩ ∧ es.toList.all strKey = true ∧ nsFind es "__eq__" = some (.ref f) ∧ nsFind es "__ne__" = none
  ty : ∃ o : Obj, K.lookup f = some o ∧ o.cls = .type "function"
theorem EqF.own {K : PySem.W.Frag} {C f : Addr} (e : EqF K C f) {h : Heap} (X : K.In h) {a : Addr} {o : Obj} (ho : h.get? a = some o) (hc : o.cls = .ref C) : h.OwnEqNoNe a C f "object" [.type "object"] := by
  obtain ⟨nm, q, N, bs, sn, sub, ab, col, dd, k0, k1, k2, k3, k5, newId, hC, oc, od, es, ep, sl, hN, hk, h1, h2⟩ := e.at_
  obtain ⟨of, hf, tf⟩ := e.ty
  have keys : StrKeys es := fun x hx => by
    have := List.all_eq_true.mp hk x (Array.mem_toList_iff.mpr hx)
    unfold strKey at this
    cases ek : x.key with
    | str n t => exact ⟨n, t, rfl⟩
    | _ => rw [ek] at this; cases this
  exact ⟨o, of, nm, q, N, bs, true, sn, sub, ab, col, dd, k0, k1, k2, k3, k5, newId, nsFind es, _, ho, hc, X _ _ hC, ⟨_, es, ep, X _ _ hN, rfl, keys, fun _ => rfl⟩, h1, X _ _ hf, tf, PySem.F.cmp_object.mro, PySem.F.cmp_object.eq.lookup, h2⟩
/-- x != y, two instances that are equal by their own __eq__ -/
def rNeG (D : Eqv) : R2 := fun x y H Q => D x y H ∧ ∀ H', Ext H H' → Q (.bl false) H'
/-- what isinstance asks of an own class -/
structure IsF (K : PySem.W.Frag) (C : Addr) : Prop where
  ha : PySem.W.findIn K (.ref C) "__class__" = some (some (.builtin "object.__class__"))
  hn : PySem.W.specialIn K (.builtin "object.__class__") "__get__" = some (some (.builtin "getset_descriptor.__get__"))
  ht : PySem.W.takesIn K (.builtin "object.__class__") = some true
  hm : PySem.W.mroIn K C (.type "object") = some true
theorem kit_self {K : PySem.W.Frag} {C : Addr} : PySem.W.kitOne K (.ref C) (.ref C) = some true := if_pos (beq_self_eq_true _)
def RFo (CF : Addr) : Addr → Addr → Hp → Prop := fun a b H => ∃ ts, FAt CF H a ts ∧ FAt CF H b ts ∧ TreeOk ts
theorem prs_all {ts : List (Str × Str)} (nd : (ts.map Prod.fst).Nodup) : ∀ p ∈ prs ts, valV (prs ts) p.1 = some p.2 ∧ flatB p.2 = true := fun p hp => by
  unfold prs kvT at hp
  rw [List.map_map] at hp
  obtain ⟨⟨a, r⟩, hm, rfl⟩ := List.mem_map.mp hp
  refine ⟨?_, rfl⟩
  show valV (prs ts) (Sum.inr a) = some (V.str r)
  rw [val_prs, par_of nd hm] <;> rfl
section
variable {P : Program} {w : World} {K : PySem.W.Frag} {mg : Str → Option Value} {base : Heap}
theorem scFEq : FnScope ["self", "other"] ["self", "other"] (defScope s_Forest___eq__) := ⟨rfl, rfl, rfl, by decide +kernel, rfl, by decide +kernel, by decide +kernel⟩
end
end FT


/-! two dicts of flat values compared, equal or not -/
namespace L2
open PySem PySem.Spec PyProof.Rows
def rowEq (ls : List (Key × V)) (p : Key × V) : Bool := match valV ls p.1 with
  | some u => eqV p.2 u
  | none => false
def eqDK (ks ls : List (Key × V)) : Bool := ks.length == ls.length && ks.all (rowEq ls)
theorem valV_mem {ls : List (Key × V)} {k : Key} {u : V} (h : valV ls k = some u) : ∃ p ∈ ls, p.2 = u := by
  induction ls with
  | nil => cases h
  | cons p ls ih =>
    by_cases e : p.1 = k
    · rw [valV_pos e] at h
      exact ⟨p, List.mem_cons_self .., Option.some.inj h⟩
    · rw [valV_neg e] at h
      obtain ⟨q, hq, eq⟩ := ih h
      exact ⟨q, List.mem_cons_of_mem _ hq, eq⟩
theorem hits_any {A : Around} {s : Shared} {ls : List (Key × V)} {vb : List (Key × Value)} (rb : KV ls vb) (fl : ∀ p ∈ ls, flatV p.2 = true) {ks : List (Key × V)} {va : List (Key × Value)} (ra : KV ks va) : (∀ p ∈ ks, flatV p.2 = true) → PySem.W.KeqHits A s vb va (ks.all (rowEq ls)) := by
  unfold KV at ra
  induction ra with
  | nil => intro _; exact .nil
  | @cons p q ps qs h t ih =>
    intro fk
    obtain ⟨h1, h2⟩ := h
    have ih := ih fun p' hm => fk p' (List.mem_cons_of_mem _ hm)
    obtain ⟨k, v⟩ := q
    have h1' : p.1 = k := h1
    have rr := rb.val p.1
    rw [List.all_cons]
    cases e : valV ls p.1 with
    | none =>
      rw [e] at rr
      have z := rr.none_of
      rw [h1'] at z
      rw [show rowEq ls p = false by unfold rowEq; rw [e]]
      exact .miss z
    | some u =>
      rw [e] at rr
      obtain ⟨y, hy, ry⟩ := rr.some_of
      rw [h1'] at hy
      obtain ⟨p', hp', e'⟩ := valV_mem e
      have fu : flatV u = true := by rw [← e']; exact fl p' hp'
      rw [show rowEq ls p = eqV p.2 u by unfold rowEq; rw [e]]
      exact .hit hy (eqAt_V h2 ry (fk p (List.mem_cons_self ..)) fu) ih
section
variable {X : Cx}
def rEqDC : R2 := fun x y H Q => ∃ a b ks ls, x = .ref a ∧ y = .ref b ∧ H a = some (.dK ks) ∧ H b = some (.dK ls) ∧ (∀ p ∈ ks, flatV p.2 = true) ∧ (∀ p ∈ ls, flatV p.2 = true) ∧ Q (.bl (eqDK ks ls)) H
def rNeDC : R2 := fun x y H Q => ∃ a b ks ls, x = .ref a ∧ y = .ref b ∧ H a = some (.dK ks) ∧ H b = some (.dK ls) ∧ (∀ p ∈ ks, flatV p.2 = true) ∧ (∀ p ∈ ls, flatV p.2 = true) ∧ Q (.bl (!eqDK ks ls)) H
theorem op_eq_dictC (hu : X.A.units < cLine) : OpR X (compareOp .Eq) rEqDC := by
  intro pins s σ H x y v u Q I rx ry h
  obtain ⟨a, b, ks, ls, rfl, rfl, ea, eb, fk, fl, q⟩ := h
  obtain rfl : v = Value.ref a := rx
  obtain rfl : u = Value.ref b := ry
  obtain ⟨_, ya, va, ra, da⟩ := (show ObjOk X.prog X.w H s.heap a (.dK ks) from I.hok a _ ea)
  obtain ⟨_, yb, vb, rb, db⟩ := (show ObjOk X.prog X.w H s.heap b (.dK ls) from I.hok b _ eb)
  have e : eqDK ks ls = (va.length == vb.length && ks.all (rowEq ls)) := by unfold eqDK; rw [ra.length, rb.length]
  exact PySem.W.keq_eq (knd := mixKind X.prog X.w) (r := ks.all (rowEq ls)) ya yb da db hu (fun _ => hits_any rb fl ra fk) (fin_bl I q e)
theorem op_ne_dictC (hu : X.A.units < cLine) : OpR X (compareOp .NotEq) rNeDC := by
  intro pins s σ H x y v u Q I rx ry h
  obtain ⟨a, b, ks, ls, rfl, rfl, ea, eb, fk, fl, q⟩ := h
  obtain rfl : v = Value.ref a := rx
  obtain rfl : u = Value.ref b := ry
  obtain ⟨_, ya, va, ra, da⟩ := (show ObjOk X.prog X.w H s.heap a (.dK ks) from I.hok a _ ea)
  obtain ⟨_, yb, vb, rb, db⟩ := (show ObjOk X.prog X.w H s.heap b (.dK ls) from I.hok b _ eb)
  have e : (!eqDK ks ls) = !(va.length == vb.length && ks.all (rowEq ls)) := by unfold eqDK; rw [ra.length, rb.length]
  exact PySem.W.keq_ne (knd := mixKind X.prog X.w) (r := ks.all (rowEq ls)) ya yb da db hu (fun _ => hits_any rb fl ra fk) (fin_bl I q e)
end
end L2


/-! own __eq__ with either answer; Forest.__eq__ -/
namespace FT
open PySem L2 TL ClX LiI
/-- what an own == promises, equal or not -/
def spEqB (R : Addr → Addr → Bool → Hp → Prop) : Sp := fun vs H Q _ => ∃ a b v, vs = [.ref a, .ref b] ∧ R a b v H ∧ ∀ H', Ext H H' → Q (.bl v) H'
def rNeB (C : Addr) (R : Addr → Addr → Bool → Hp → Prop) : R2 := fun x y H Q => ∃ a b dx dy fs gs v, x = .ref a ∧ y = .ref b ∧ H a = some (.ins C dx fs) ∧ H b = some (.ins C dy gs) ∧ R a b v H ∧ ∀ H', Ext H H' → Q (.bl (!v)) H'
def RFoB (CF : Addr) : Addr → Addr → Bool → Hp → Prop := fun a b v H => ∃ ts us, FAt CF H a ts ∧ FAt CF H b us ∧ v = eqDK (prs ts) (prs us)
theorem prs_flat (ts : List (Str × Str)) : ∀ p ∈ prs ts, flatV p.2 = true := fun p hp => by
  unfold prs kvT at hp
  rw [List.map_map] at hp
  obtain ⟨q, _, rfl⟩ := List.mem_map.mp hp
  rfl
section
variable {P : Program} {w : World} {K : PySem.W.Frag} {mg : Str → Option Value} {base : Heap}
theorem ok_feqB {f CF : Addr} {mc : Value} {fd : FuncData} (F : Fun K "__eq__" "Forest.__eq__" s_Forest___eq__ f fd) (T : Nm mg) (O : FoC K CF) (Z : Fc K mg CF mc) (S : IsF K CF) : FnOk P w K mg base CX0 1 f fd ["self", "other"] (spEqB (RFoB CF)) := by
  refine F.ok scFEq (fun vs H Q E h => ?_) (fun cdv A outer s H vs Q E hr h => ?_)
  · obtain ⟨a, b, v, rfl, _⟩ := h
    rfl
  · obtain ⟨a, b, v, rfl, ⟨ts, us, ⟨da, qa, ha, hda⟩, ⟨db, qb, hb, hdb⟩, rfl⟩, k⟩ := h
    have hu := hu_of hr
    refine ⟨_, pss_one (ps_ret (pe_and (pe_callB call_isi (by rfl) T.isi (by decide +kernel) (pa_cons (pv 1) (pa_cons (pe_glob (v := .ref CF) (by rfl) Z.gF rfl) pa_nil))) (pe_one (pe_cmpR (op_eq_dictC (Nat.lt_of_succ_lt hu)) (pe_fld (pv 0) rfl) (pe_fld (pv 1) rfl) (nomark _))))), ?_⟩
    refine ⟨_, rfl, .ref b, _, .ref CF, _, true, rfl, .own _, .base (.ins hb O.cl S.ha S.hn S.ht S.hm), kit_self, true, rfl, ?_⟩
    show if true = true then _ else _
    rw [if_pos rfl]
    exact ⟨_, rfl, a, CF, da, _, .ref qa, rfl, ha, O.cl, O.nA, rfl, _, rfl, b, CF, db, _, .ref qb, rfl, hb, O.cl, O.nA, rfl, qa, qb, _, _, rfl, rfl, hda, hdb, prs_flat _, prs_flat _, k _ fun _ _ e => e⟩
end
end FT


/-! need_match -/
namespace FT
open PySem L2 TL ClX LiI
def spMatch (CF CA : Addr) : Sp := fun vs H Q _ => ∃ (y1 y2 x : Addr) (ts : List (Str × Str)) (zs1 zs2 : List Str), vs = [.ref y1, .ref y2] ∧ AAt CA H y1 x zs1 ∧ AAt CA H y2 x zs2 ∧ FAt CF H x ts ∧ TreeOk ts ∧ zs1.length = zs2.length ∧ ∀ H', Same H H' → Q .non H'
section
variable {P : Program} {w : World} {K : PySem.W.Frag} {mg : Str → Option Value} {base : Heap}
end
end FT


/-! need_match with its error -/
namespace FT
open PySem L2 TL ClX LiI
/-- the same parents, as many users -/
def matB (ts us : List (Str × Str)) (zs1 zs2 : List Str) : Bool := eqDK (prs ts) (prs us) && decide (zs1.length = zs2.length)
def spMatchE (CF CA CM : Addr) : Sp := fun vs H Q E => ∃ (y1 y2 x1 x2 : Addr) (ts us : List (Str × Str)) (zs1 zs2 : List Str), vs = [.ref y1, .ref y2] ∧ AAt CA H y1 x1 zs1 ∧ AAt CA H y2 x2 zs2 ∧ FAt CF H x1 ts ∧ FAt CF H x2 us ∧
  if matB ts us zs1 zs2 = true then ∀ H', Same H H' → Q .non H' else Out H E (.e0 CM)
section
variable {P : Program} {w : World} {K : PySem.W.Frag} {mg : Str → Option Value} {base : Heap}
end
theorem eqDK_self {ts : List (Str × Str)} (nd : (ts.map Prod.fst).Nodup) : eqDK (prs ts) (prs ts) = true := by
  unfold eqDK
  rw [Bool.and_eq_true]
  refine ⟨by simp, List.all_eq_true.mpr fun p hp => ?_⟩
  obtain ⟨e, f⟩ := prs_all nd p hp
  unfold rowEq
  rw [e]
  unfold prs kvT at hp
  rw [List.map_map] at hp
  obtain ⟨q, _, rfl⟩ := List.mem_map.mp hp
  show (eqV (V.str q.2) (V.str q.2)) = true
  simp [eqV]
end FT


/-! own == with either answer, the right side an instance or a list -/
namespace L2
open PySem PySem.Spec PyProof.Rows
/-- what stands on the right -/
def RightL (C : Addr) (H : Hp) (y : V) : Prop := ∃ b, y = .ref b ∧ ((∃ dy fs, H b = some (.ins C dy fs)) ∨ ∃ xs, H b = some (.lst xs))
def spEqOl (R : Addr → V → Bool → Hp → Prop) : Sp := fun vs H Q _ => ∃ a y v, vs = [.ref a, y] ∧ R a y v H ∧ ∀ H', Ext H H' → Q (.bl v) H'
def rEqOl (C : Addr) (R : Addr → V → Bool → Hp → Prop) : R2 := fun x y H Q => ∃ a dx fs v, x = .ref a ∧ H a = some (.ins C dx fs) ∧ RightL C H y ∧ R a y v H ∧ ∀ H', Ext H H' → Q (.bl v) H'
theorem notFirst_lst {K : PySem.W.Frag} {C : Addr} : PySem.W.notFirst K C (.type "list") = true := by
  have h : ∃ l, PySem.fastBuiltinMro "list" = some l ∧ l.contains (.ref C) = false := by
    have e : (PySem.fastBuiltinMro "list").any (fun l => l.all fun v => match v with | .type _ => true | _ => false) = true := by decide +kernel
    cases h : PySem.fastBuiltinMro "list" with
    | none => rw [h] at e; cases e
    | some l =>
      refine ⟨l, rfl, ?_⟩
      rw [h] at e
      cases hc : l.contains (Value.ref C) with
      | false => rfl
      | true =>
        have z := List.all_eq_true.mp e _ (List.contains_iff_mem.mp hc)
        cases z
  obtain ⟨l, h1, h2⟩ := h
  show ((Value.type "list" == Value.ref C) || (((PySem.fastBuiltinMro "list").map fun l => l.contains (Value.ref C)) == some false)) = true
  rw [h1]
  show (_ || ((some (l.contains (Value.ref C))) == some false)) = true
  rw [h2]
  simp
theorem op_eqOl {X : Cx} {CX : CXT} {C f : Addr} {fd : FuncData} {ps : List Str} {R : Addr → V → Bool → Hp → Prop} {E : XK} {n : Nat} (F : FnOk X.prog X.w X.K X.mg X.base CX n f fd ps (spEqOl R))
    (hs : PySem.W.findIn X.K (.ref C) "__eq__" = some (some (.ref f))) (hf : PySem.W.isFn X.K (.ref f) = true) (hb : Binds X.K fd ps []) (hx : Passes CX X E) (hr : Room n X.A) : OpR X (compareOp .Eq) (rEqOl C R) := by
  intro pins s σ H x y v u Q I rx ry hq
  obtain ⟨a, dx, fs, v0, rfl, ha, ⟨b, rfl, hr'⟩, rel, q⟩ := hq
  cases rx
  cases ry
  obtain ⟨mA, J, _⟩ := ins_get I.hok ha
  obtain ⟨od, J, _⟩ := J.look
  obtain ⟨m, hF⟩ := I.fr
  have ty : ∃ tb, PySem.W.Looks (model X.prog X.w) s.heap (typeOf (.ref b)) tb ∧ PySem.W.notFirst X.K C tb = true := by
    rcases hr' with ⟨dy, gs, hb'⟩ | ⟨xs, hb'⟩
    · obtain ⟨mB, J', _⟩ := ins_get I.hok hb'
      obtain ⟨od', J', _⟩ := J'.look
      exact ⟨.ref C, J'.type, by simp [PySem.W.notFirst]⟩
    · obtain ⟨its, n', r', e', hz'⟩ := I.lst hb'
      exact ⟨.type "list", fun A Q E s k q => wpAny_typeOf_ref (k _ _ e') q, notFirst_lst⟩
  obtain ⟨tb, t1, t2⟩ := ty
  show wpAny (model X.prog X.w) X.A (richCompare .Eq _ _) (EP X pins σ Q) X.xe s
  refine PySem.W.cmp_K (op := .Eq) (tb := tb) hr.units0 hF I.ok.mod.kin J t1 t2 hs hf ?_
  have hsp : spEqOl R [.ref a, .ref b] H (fun v H' => v = .bl v0 ∧ Ext H H') E := ⟨a, .ref b, v0, rfl, rel, fun H' e => ⟨rfl, e⟩⟩
  have hl := F.len _ _ _ _ hsp
  have r2 : Vals [V.ref a, V.ref b] [Value.ref a, Value.ref b] := .cons rfl (.cons rfl .nil)
  refine wpAny_call (codeAny_mono (F.run X.A X.stack s H ⟨[.ref a, .ref b], []⟩ [.ref a, .ref b] [.ref a, .ref b] _ E hr I.env0 (by
    have := hb s [.ref a, .ref b] I.kIn (by simpa using hl)
    simpa using this) r2 hsp) fun r s' hq => ?_)
  cases r with
  | error e => exact hx pins σ H s e s' I hq
  | ok fl =>
    cases fl with
    | ret w =>
      obtain ⟨z, H', I', rz, ez, ex⟩ := I.after hq
      subst ez
      cases rz
      exact ⟨.bl v0, H', I', rfl, q H' ex⟩
    | next => exact False.elim hq
    | brk => exact False.elim hq
    | cont => exact False.elim hq
end L2


/-! Assignment.__eq__ -/
namespace FT
open PySem L2 TL ClX LiI
def RAs (CF CA : Addr) : Addr → Addr → Hp → Prop := fun a b H => ∃ x ts zs, AAt CA H a x zs ∧ AAt CA H b x zs ∧ FAt CF H x ts ∧ TreeOk ts ∧ ∀ z ∈ zs, Pl ts z
theorem pl_strOk {ts : List (Str × Str)} (o : TreeOk ts) {z : Str} (h : Pl ts z) : PyData.strOk z = true := h.elim (fun e => by rw [e]; exact strOk_root) fun m => strOk_name (o.nm _ m)
section
variable {P : Program} {w : World} {K : PySem.W.Frag} {mg : Str → Option Value} {base : Heap}
theorem scAEq : FnScope ["self", "other"] ["self", "other"] (defScope s_Assignment___eq__) := ⟨rfl, rfl, rfl, by decide +kernel, rfl, by decide +kernel, by decide +kernel⟩
end
end FT


/-! Assignment.__eq__, the right side an assignment or a list, either answer -/
namespace FT
open PySem L2 TL ClX LiI
theorem eqv_st4 : ∀ a b : List Str, PyData.eqvAll (a.map .str) (b.map .str) = decide (a = b)
  | [], [] => by simp [PyData.eqvAll]
  | [], _ :: _ => by simp [PyData.eqvAll]
  | _ :: _, [] => by simp [PyData.eqvAll]
  | x :: a, y :: b => by
    simp only [List.map_cons, PyData.eqvAll]
    rw [eqv_st4 a b]
    have e : PyData.eqv (.str x) (.str y) = decide (x = y) := by
      simp only [PyData.eqv]
      exact Bool.eq_iff_iff.mpr (by simp)
    rw [e, Bool.eq_iff_iff]
    simp
def RFoL (CF : Addr) : Addr → V → Bool → Hp → Prop := fun a y v H => ∃ b, y = .ref b ∧ RFoB CF a b v H
def RAsL (CF CA : Addr) : Addr → V → Bool → Hp → Prop := fun a y v H => ∃ (x : Addr) (ts : List (Str × Str)) (zs : List Str), AAt CA H a x zs ∧ FAt CF H x ts ∧ (∀ z ∈ zs, PyData.strOk z = true) ∧
  ((∃ (b : Addr) (xs : List V), y = .ref b ∧ H b = some (.lst xs) ∧ v = false) ∨ ∃ (b x' : Addr) (us : List (Str × Str)) (ws : List Str), y = .ref b ∧ AAt CA H b x' ws ∧ FAt CF H x' us ∧ (∀ z ∈ ws, PyData.strOk z = true) ∧ v = (eqDK (prs ts) (prs us) && decide (zs = ws)))
section
variable {P : Program} {w : World} {K : PySem.W.Frag} {mg : Str → Option Value} {base : Heap}
theorem feqL {f CF : Addr} {fd : FuncData} (h : FnOk P w K mg base CX0 1 f fd ["self", "other"] (spEqB (RFoB CF))) : FnOk P w K mg base CX0 1 f fd ["self", "other"] (spEqOl (RFoL CF)) :=
  FnOk.imp h fun vs H Q E ⟨a, y, v, e, ⟨b, ey, r⟩, k⟩ => ⟨a, b, v, by rw [e, ey], r, k⟩
theorem ok_aeqL {f fF CF CA : Addr} {mcA : Value} {fd fdF : FuncData} (F : Fun K "__eq__" "Assignment.__eq__" s_Assignment___eq__ f fd) (T : Nm mg) (B : Ac K mg CA mcA) (SA : IsF K CA) (kl : PySem.W.kitOne K (.type "list") (.ref CA) = some false)
    (GF : FnOk P w K mg base CX0 1 fF fdF ["self", "other"] (spEqOl (RFoL CF))) (bF : Binds K fdF ["self", "other"] []) (atF : PySem.W.findIn K (.ref CF) "__eq__" = some (some (.ref fF))) (isF : PySem.W.isFn K (.ref fF) = true) : FnOk P w K mg base CX0 2 f fd ["self", "other"] (spEqOl (RAsL CF CA)) := by
  refine F.ok scAEq (fun vs H Q E h => ?_) (fun cdv A outer s H vs Q E hr h => ?_)
  · obtain ⟨a, b, v, rfl, _⟩ := h
    rfl
  · obtain ⟨a, y, v, rfl, ⟨x, ts, zs, ⟨da, pa, ha, hpa⟩, fa, so, rel⟩, k⟩ := h
    refine ⟨_, pss_cons (ps_if (pt_not (pt_val (pe_callB call_isi (by rfl) T.isi (by decide +kernel) (pa_cons (pv 1) (pa_cons (pe_glob (v := .ref CA) (by rfl) B.gA rfl) pa_nil))))) (pss_one (ps_ret pe_bl)) pss_nil)
      (pss_one (ps_ret (pe_and (pe_cmpR (op_eqOl (E := E0) GF atF isF bF pass0 hr) (pe_fld (pv 0) rfl) (pe_fld (pv 1) rfl) (nomark _)) (pe_one (pe_cmpR (op_eqD hr.units) (pe_fld (pv 0) rfl) (pe_fld (pv 1) rfl) (nomark _)))))), ?_⟩
    rcases rel with ⟨b, xs, rfl, hb, rfl⟩ | ⟨b, x', us, ws, rfl, ⟨db, pb, hb, hpb⟩, fb, so', rfl⟩
    · refine ⟨_, rfl, .ref b, _, .type "list", _, _, rfl, .own _, .base (.lst hb), kl, false, rfl, ?_⟩
      exact iteT (k H fun _ _ e => e)
    · obtain ⟨dx, dq, hx, hd⟩ := id fa
      obtain ⟨dx', dq', hx', hd'⟩ := id fb
      refine ⟨_, rfl, .ref b, _, .ref CA, _, true, rfl, .own _, .base (.ins hb B.cl SA.ha SA.hn SA.ht SA.hm), kit_self, true, rfl, ?_⟩
      refine iteF ?_
      refine ⟨_, rfl, a, CA, da, _, .ref x, rfl, ha, B.cl, B.nF, rfl, _, rfl, b, CA, db, _, .ref x', rfl, hb, B.cl, B.nF, rfl, x, dx, _, _, rfl, hx, ⟨x', rfl, .inl ⟨dx', _, hx'⟩⟩, ⟨x', rfl, ts, us, fa, fb, rfl⟩, fun H1 e1 => ?_⟩
      have s1 : Same H H1 := fun b u e => e1 b u e
      refine ⟨eqDK (prs ts) (prs us), rfl, ?_⟩
      cases ef : eqDK (prs ts) (prs us) with
      | false =>
        rw [ef, Bool.false_and] at k
        exact iteF (k H1 e1)
      | true =>
        rw [ef, Bool.true_and] at k
        refine iteT ?_
        refine ⟨_, rfl, a, CA, da, _, .ref pa, rfl, s1 _ _ ha, B.cl, B.nP, rfl, _, rfl, b, CA, db, _, .ref pb, rfl, s1 _ _ hb, B.cl, B.nP, rfl, .list (zs.map PyData.str), .list (ws.map PyData.str), .lst (SqL.of (s1 _ _ hpa)) (dps_strs zs), .lst (SqL.of (s1 _ _ hpb)) (dps_strs ws), strs_shaped so, strs_shaped so', ?_⟩
        rw [show PyData.eqv (.list (zs.map PyData.str)) (.list (ws.map PyData.str)) = decide (zs = ws) by simp only [PyData.eqv]; exact eqv_st4 zs ws]
        exact k H1 e1
end
end FT


/-! _law_moved_right of k04 -/
namespace FT
open PySem L2 TL ClX LamX NdefX LiI
structure L4X (P : Program) (w : World) (K : PySem.W.Frag) (mg : Str → Option Value) (base : Heap) (CF CA CN CY : Addr) (mcA : Value) (f g : Nat → Addr) (fd : Nat → FuncData) : Prop where
  B : Ac K mg CA mcA
  SA : IsF K CA
  kt : PySem.W.kitOne K (.ref CA) (.type "tuple") = some false
  ud : Dn P w K mg base CX0 2 "_law_user_due" ["_law_spots_here", "_law_who"] (spUserW K) (f 0) (fd 0)
  nw : Dn P w K mg base CX0 2 "_law_name_due" ["_law_above", "_law_word", "_law_root"] (spNameW K) (f 1) (fd 1)
  mvm : Meth K CA "moved" (f 2)
  mvR : FnR P w K mg base (L2.CX P w) 4 (f 2) (spMovedR K CF CA CN CY)
  mvK : FnRK P w K mg base (L2.CX P w) 4 (f 2) "place" (spMovedK K CF CA CN CY)
  pP : PrN P w K mg base 1 CA "places" (spAPlaces CA) (g 0) (f 3) (fd 3)
  eq : FnOk P w K mg base CX0 2 (f 4) (fd 4) ["self", "other"] (spEqOl (RAsL CF CA))
  eqa : PySem.W.findIn K (.ref CA) "__eq__" = some (some (.ref (f 4)))
  eqf : PySem.W.isFn K (.ref (f 4)) = true
  eqb : Binds K (fd 4) ["self", "other"] []
structure M04 (T : List (Addr × Str)) (CF CA d c y x q l lm : Addr) (t ts : List (Str × Str)) (zs : List Str) (v u w0 w1 : V) (H0 H : Hp) : Prop where
  a : A04 T CF CA d c y x q l t ts zs v u H0 H
  hm : H lm = some (.lst [w0, w1])
section
variable {T : List (Addr × Str)} {CF CA d c y x q l lm : Addr} {t ts : List (Str × Str)} {zs : List Str} {v u w0 w1 : V} {H0 H H' : Hp}
theorem M04.ext (h : M04 T CF CA d c y x q l lm t ts zs v u w0 w1 H0 H) (e : ExtN H H') (tb : Tabs T H') : M04 T CF CA d c y x q l lm t ts zs v u w0 w1 H0 H' := ⟨h.a.ext e tb, e _ _ h.hm (fun ps z => nomatch z)⟩
theorem M04.same (h : M04 T CF CA d c y x q l lm t ts zs v u w0 w1 H0 H) (s : Same H H') : M04 T CF CA d c y x q l lm t ts zs v u w0 w1 H0 H' := h.ext (ExtN.of s) (h.a.tb.ext s)
end
def mvW (t : List (Str × Str)) (n : Nat) (w : V) (us : List V) : Option (Str × V) := (nameW t true w).or ((us.find? fun u => !userV n u).map fun u => (("user" : Str), u))
theorem inV_in4 (x : Int) : ∀ fs : List Int, inV (.int x) (fs.map V.int) = decide (x ∈ fs)
  | [] => by simp [inV]
  | y :: fs => by
    have ih := inV_in4 x fs
    unfold inV at ih ⊢
    rw [List.map_cons, List.any_cons, ih]
    show ((y == x) || decide (x ∈ fs)) = decide (x ∈ y :: fs)
    by_cases e : y = x
    · subst e
      simp
    · have e' : x ≠ y := fun z => e z.symm
      simp [e, e']
def pW (t : List (Str × Str)) (n : Nat) (w : V) (us : List V) (j : Nat) : Option (Str × V) := mvW t n w (us.take j)
theorem pW_more {t : List (Str × Str)} {n : Nat} {w : V} {us : List V} {j : Nat} {u : V} (h : us[j]? = some u) : pW t n w us (j + 1) = (pW t n w us j).or (userW n u) := by
  unfold pW mvW
  rw [List.take_add_one, h, List.find?_append, Option.or_assoc]
  congr 1
  cases e : List.find? (fun u => !userV n u) (us.take j) with
  | some x => rfl
  | none =>
    rw [Option.none_or]
    show Option.map _ (List.find? _ [u]) = Option.or none (userW n u)
    rw [Option.none_or]
    unfold userW
    cases ok : userV n u with
    | true => rw [List.find?_cons_of_neg (by rw [ok]; decide)] <;> rfl
    | false => rw [List.find?_cons_of_pos (by rw [ok]; rfl)] <;> rfl
theorem mvW_in {t : List (Str × Str)} {n : Nat} {w : V} {us : List V} {a : Str} {b : V} (h : mvW t n w us = some (a, b)) : (a = "name" ∧ b = w) ∨ (a = "user" ∧ b ∈ us) := by
  unfold mvW nameW at h
  split at h
  · rw [Option.none_or] at h
    obtain ⟨x, hx, e⟩ := Option.map_eq_some_iff.mp h
    cases e
    exact .inr ⟨rfl, List.mem_of_find?_eq_some hx⟩
  · cases h
    exact .inl ⟨rfl, rfl⟩
/-- what the law is told -/
def ToldM (CA x : Addr) (zs : List Str) (u : V) (us : List V) (H : Hp) (tv : V) : Option (Str × V) → Prop
  | some (w, a) => RsAt H tv (.err w a)
  | none => ∃ y', tv = .ref y' ∧ AAt CA H y' x (mvd zs us (strV u))
def spMvR (T : List (Addr × Str)) (CF CA d c : Addr) : Sp := fun vs H Q _ => ∃ (y x q l lm : Addr) (t ts : List (Str × Str)) (zs : List Str) (v u w0 w1 : V), vs = [.ref y, .ref q, .ref l, v, u, .ref lm] ∧ M04 T CF CA d c y x q l lm t ts zs v u w0 w1 H H ∧ Sm w0 ∧ Sm w1 ∧ TreeOk t ∧ TreeOk ts ∧ ts.Perm t ∧ (∀ z ∈ zs, Pl ts z) ∧ 1 ≤ zs.length ∧ zs.length ≤ 60 ∧
  ∀ H', Tabs T H' → ExtN H H' → Q (.bl true) H'
abbrev NMr : List Str := ["_law_sample", "_law_above", "_law_spots_here", "_law_who", "_law_word", "_law_more", "_law_due_here", "_law_other", "_law_told_here", "_law_moved_spots", "_law_at", "_law_spot"]
section
variable {P : Program} {w : World} {K : PySem.W.Frag} {mg : Str → Option Value} {base : Heap}
theorem scMr : FnScope NMr ["_law_sample", "_law_above", "_law_spots_here", "_law_who", "_law_word", "_law_more"] (defScope s__law_moved_right) := ⟨rfl, rfl, rfl, by decide +kernel, rfl, by decide +kernel, by decide +kernel⟩
theorem ok_mvR {f0 fEr CF CA CN CY R co ta d c : Addr} {mcA : Value} {C : Nat → Addr} {T : List (Addr × Str)} {f g : Nat → Addr} {fd : Nat → FuncData} {fd0 fdEr : FuncData} (F : FunC K "_law_moved_right" "_law_moved_right" s__law_moved_right f0 fd0 co) (N : Nm mg) (L : L4X P w K mg base CF CA CN CY mcA f g fd)
    (GE : Ge K mg "_law_told" s__law_told fEr fdEr) (CC : Cl5T K mg R C) (eY : C 2 = CY) (eN : C 3 = CN) (TB : TabB base mg co ta) (hmT : (ta, lamQ "_law_moved_right") ∈ T) (hut : ∀ p ∈ T, p.1 = ta → p.2 = lamQ "_law_moved_right") :
    FnG P w K mg base CX0 7 f0 fd0 ["_law_sample", "_law_above", "_law_spots_here", "_law_who", "_law_word", "_law_more"] (spMvR T CF CA d c) := by
  refine F.okG scMr (fun vs H Q E h => ?_) (fun A outer s H vs Q E clr hr h => ?_)
  · obtain ⟨y, x, q, l, lm, t, ts, zs, v, u, w0, w1, rfl, _⟩ := h
    rfl
  · obtain ⟨y, x, q, l, lm, t, ts, zs, v, u, w0, w1, rfl, M, sw0, sw1, o, ots, pt, pl, n1, n60, k⟩ := h
    have hr1 : Room 1 _ := hr.mono (by decide)
    have hr2 : Room 2 _ := hr.mono (by decide)
    have hr4 : Room 4 _ := hr.mono (by decide)
    have nd := scMr.nd
    have big : 4000 ≤ sizeLine := by decide
    refine ⟨_, pss_cons (ps_set (i := 6) nd rfl (.inl rfl) (pe_call L.nw.ok hr2 rfl L.nw.mgn L.nw.kp L.nw.bn .nil pass0 (pa_cons (pv 1) (pa_cons (pv 4) (pa_cons pe_bl pa_nil)))))
      (pss_cons (ps_for PassesOwn.never rfl (pi_list (pe_op op_cat (pv 5) (pe_lst (pa_cons (pv 3) pa_nil)))) (pg_name (i := 7) nd rfl (.inl rfl))
        (pss_one (ps_set (i := 6) nd rfl (.inl rfl) (pe_ifExp (pt_cmpR op_notN (pv 6) pe_non (nomark _)) (pv 6) (pe_call L.ud.ok hr2 rfl L.ud.mgn L.ud.kp L.ud.bn .nil pass0 (pa_cons (pv 2) (pa_cons (pv 7) pa_nil)))))))
      (pss_cons (ps_set (i := 8) nd rfl (.inl rfl) (pe_lamS (T := T) (k := 4) (t := fun E => tMethR CA "moved" (spMovedR K CF CA CN CY) E (tVar 0) (tCons (tVar 4) (tCons (tOp (rIxL K) (tVar 5) (tC (.int 0))) (tCons (tOp (rIxL K) (tVar 5) (tC (.int 1))) (tCons (tVar 3) tNil))))) rfl GE.mgn GE.fn GE.bn scTd rfl (.inl rfl) (fun cdg => told_gives N CC) TB rfl hmT hut hr (lamS_by (sc := defScope s__law_moved_right) (by decide +kernel)) rfl (fun _ _ _ _ _ => rfl)
          (fun A outer s H E f c' hr2 => pe_methR (pv 0) L.B.cl L.mvm L.mvR hr2 (passes_call (takes_of rfl rfl rfl rfl) (fun _ _ _ _ h => h)) (pa_cons (pv 4) (pa_cons (pe_ix ix_list (pv 5) pe_int (fun _ _ => rfl)) (pa_cons (pe_ix ix_list (pv 5) pe_int (fun _ _ => rfl)) (pa_cons (pv 3) pa_nil)))))))
      (pss_cons (ps_if (pt_cmpR op_notN (pv 6) pe_non (nomark _)) (pss_one (ps_ret (pe_cmpR op_eq (pe_callB (call_reprR clr hr.units) (by rfl) N.rep (by decide +kernel) (pa_cons (pv 8) pa_nil)) (pe_callB (call_reprR clr hr.units) (by rfl) N.rep (by decide +kernel) (pa_cons (pv 6) pa_nil)) (nomark _)))) pss_nil)
      (pss_cons (ps_setLc (i := 9) (own := [("_law_at", 10), ("_law_spot", 11)]) (g := gTup K 2 (gCons (gName 10) (gCons (gName 11) gNil))) (tt := tYes) (te := tIf (tTest (tOp (rIn K false) (tVar 10) (tOp rCat (tVar 5) (tLst (tCons (tVar 3) tNil))))) (tVar 4) (tVar 11)) rfl nd rfl rfl (sw_true rfl rfl rfl (by decide +kernel)) (pi_enum rfl N.enu (pa_cons (pv 2) pa_nil))
          (blkOk_by (N := NMr) (sc := defScope s__law_moved_right) (by decide +kernel)) (fun _ _ _ _ _ => pg_tup rfl (pgs_cons (pg_name (i := 10) nd rfl (Or.inl rfl)) (pgs_cons (pg_name (i := 11) nd rfl (Or.inl rfl)) pgs_nil))) (fun _ _ _ _ _ => pts_nil)
          (fun _ _ _ _ _ => pe_ifExp (pt_cmpR op_in_seq (pv 10) (pe_op op_cat (pv 5) (pe_lst (pa_cons (pv 3) pa_nil))) rfl) (pv 4) (pv 11)))
      (pss_cons (ps_if (PW.pt (pw_or (pt_val (pe_callB call_isi (by rfl) N.isi (by decide +kernel) (pa_cons (pv 8) (pa_cons (pe_bltn (v := .ty "tuple") (u := .type "tuple") (by rfl) N.tup (by decide +kernel) rfl) pa_nil))))
          (pw_or (pt_cmpR (op_neD hr.units) (pe_prop (pv 8) L.B.cl L.pP.pr L.pP.fn hr2 L.pP.bn .nil pass0 (by rfl)) (pv 9) (nomark _)) (pw_or1 (pt_cmpR (op_neD hr.units) (pe_prop (pv 0) L.B.cl L.pP.pr L.pP.fn hr2 L.pP.bn .nil pass0 (by rfl)) (pv 2) (nomark _)))))) (pss_one (ps_ret pe_bl)) pss_nil)
      (pss_one (ps_ret (pe_and (pe_cmpR (op_eqOl (E := E0) L.eq L.eqa L.eqf L.eqb pass0 hr2) (pe_methRK (E := E0) (pv 0) L.B.cl L.mvm L.mvK hr4 L2.passL (pk_cons (pv 4) pk_nil)) (pv 0) (nomark _))
        (pe_one (pe_cmpR op_eq (pe_cmpR (op_eqOl (E := E0) L.eq L.eqa L.eqf L.eqb pass0 hr2) (pv 8) (pv 0) (nomark _)) (pe_cmpR (op_eqD hr.units) (pv 9) (pv 2) (nomark _)) (nomark _))))))))))), ?_⟩
    obtain ⟨us, eus⟩ : ∃ us : List V, us = [w0, w1, v] := ⟨_, rfl⟩
    have odU : ∀ H', OdV d c H' v → ∀ x ∈ us, OdV d c H' x := fun H' ov x hx => by
      rw [eus] at hx
      simp only [List.mem_cons, List.not_mem_nil, or_false] at hx
      rcases hx with rfl | rfl | rfl
      · exact .inl sw0
      · exact .inl sw1
      · exact ov
    have us8 : Sm (.str "user") := sm_word (by decide) (by decide +kernel) (by decide +kernel)
    have na8 : Sm (.str "name") := sm_word (by decide) (by decide +kernel) (by decide +kernel)
    refine ⟨_, rfl, _, rfl, q, u, true, t, rfl, M.a.hq, o, M.a.ou.dat, tellW_of fun dv1 H1 s1 h1 => ?_⟩
    have M1 := M.same s1
    refine ⟨_, rfl, _, rfl, by show 1 ≤ sizeLine; omega, fun p1 m1 => ⟨lm, p1, [w0, w1], [v], rfl, rfl, same_new m1 _ _ M1.hm, upd_same, by show 2 + 1 ≤ sizeLine; omega, fun p2 m2 => ⟨p2, rfl, ⟨_, SqL.of upd_same⟩, ?_⟩⟩⟩
    have s12 : Same H1 (upd (upd H1 p1 (.lst [v])) p2 (.lst ([w0, w1] ++ [v]))) := (same_new m1).trans (same_new m2)
    obtain ⟨H3, e3⟩ : ∃ X, X = upd (upd H1 p1 (.lst [v])) p2 (.lst ([w0, w1] ++ [v])) := ⟨_, rfl⟩
    have hp2 : H3 p2 = some (.lst us) := by rw [e3, upd_same, eus] <;> rfl
    rw [← e3] at s12 ⊢
    clear e3
    have M3 := M1.same s12
    have lus : us.length = 3 := by rw [eus] <;> rfl
    have wl := walk_list (K := K) (a := p2) (xs := us)
    rw [eus] at wl
    refine for_it wl (fun j σ' H' => (∃ dv u7, σ' = [some (.ref y), some (.ref q), some (.ref l), some v, some u, some (.ref lm), some dv, u7, none, none, none, none] ∧ DvW H' dv (pW t zs.length u us j)) ∧ Same H3 H')
      ⟨⟨dv1, none, rfl, ?_⟩, Same.refl⟩ (fun j σ' H' _ z => SqL.of (by have := z.2 _ _ hp2; rw [eus] at this; exact this)) ?_ ?_
    · have h3 := h1.ext (ExtN.of s12)
      unfold pW mvW
      rw [List.take_zero]
      show DvW H3 dv1 ((nameW t true u).or none)
      rw [Option.or_none]
      exact h3
    · intro j xj σ' Ha Hb hj ⟨⟨dv, u7, e, hd⟩, sa⟩ ⟨eb, ex⟩
      subst e
      subst eb
      rw [← eus] at ex
      have Ma := M3.same sa
      have more := pW_more (t := t) (n := zs.length) (w := u) ex
      refine ⟨_, rfl, rfl, _, rfl, ?_⟩
      rw [hd.is]
      cases eo : pW t zs.length u us j with
      | some w =>
        rw [eo] at hd more
        refine iteT ⟨_, rfl, ⟨_, _, rfl, ?_⟩, sa⟩
        rw [more]
        exact hd
      | none =>
        rw [eo, Option.none_or] at more
        refine iteF ⟨_, rfl, _, rfl, l, xj, zs, rfl, Ma.a.hl, (odU _ Ma.a.ov xj (List.mem_of_getElem? ex)).dat, tellW_of fun dv' H' s' h' => ⟨⟨_, _, rfl, ?_⟩, sa.trans s'⟩⟩
        rw [more]
        exact h'
    intro σ' H4 ⟨⟨dv, u7, e, hd⟩, sa⟩
    subst e
    have e3 : pW t zs.length u us [w0, w1, v].length = mvW t zs.length u us := by
      unfold pW
      rw [show us.take [w0, w1, v].length = us by rw [eus] <;> rfl]
    rw [e3] at hd
    have M4 := M3.same sa
    -- the call
    refine nx_in ?_
    refine asg_join (fun tv H' => M04 T CF CA d c y x q l lm t ts zs v u w0 w1 H H' ∧ DvW H' dv (mvW t zs.length u us) ∧ ToldM CA x zs u us H' tv (mvW t zs.length u us)) (fun Q' kq => ?_) (fun tv H5 ⟨M5, hd5, tm5⟩ => ?_)
    · refine ⟨M4.a.tb, fun H6 e6 t6 => ?_⟩
      have M6 := M4.ext e6 t6
      have hd6 := hd.ext e6
      obtain ⟨dy, pa, hy, hpa⟩ := id M6.a.aa
      refine ⟨_, rfl, y, dy, _, rfl, hy, rfl, _, rfl, _, rfl, lm, [w0, w1], 0, w0, rfl, rfl, SqL.of M6.hm, atI_nat (j := 0) rfl, _, rfl, lm, [w0, w1], 1, w1, rfl, rfl, SqL.of M6.hm, atI_nat (j := 1) rfl, _, rfl, ?_⟩
      refine ⟨y, x, ts, zs, u, us, by rw [eus], M6.a.aa, M6.a.fa, ots, pl, n1, n60, M6.a.ou.dat, by omega, fun a ha => (odU _ M6.a.ov a ha).dat, ?_⟩
      unfold MvQ mvEr4
      rw [placeV_perm pt]
      unfold mvW nameW at hd6 kq
      cases okP : placeV t u with
      | false =>
        rw [show nameV t true u = false from okP] at hd6 kq
        rw [nmE_f rfl]
        exact fun dd H7 s7 nd7 hd7 => ⟨3, u, by decide, by rw [eN], ⟨dd, rfl, hd7⟩, fun p H8 s8 np hp => kq _ _ ⟨(M6.same s7).same s8, hd6.ext (ExtN.of (s7.trans s8)), p, rfl, hp⟩⟩
      | true =>
        rw [show nameV t true u = true from okP] at hd6 kq
        rw [nmE_t rfl, Option.none_or]
        rw [if_pos rfl, Option.none_or] at hd6 kq
        cases hf : us.find? fun a => !userV zs.length a with
        | some a =>
          rw [hf] at hd6 kq
          exact fun dd H7 s7 nd7 hd7 => ⟨2, a, by decide, by rw [eY], ⟨dd, rfl, hd7⟩, fun p H8 s8 np hp => kq _ _ ⟨(M6.same s7).same s8, hd6.ext (ExtN.of (s7.trans s8)), p, rfl, hp⟩⟩
        | none =>
          rw [hf] at hd6 kq
          exact fun y' H7 s7 ny aa => kq _ _ ⟨M6.same s7, hd6.ext (ExtN.of s7), y', rfl, aa⟩
    refine ⟨_, rfl, rfl, _, rfl, ?_⟩
    rw [hd5.is]
    cases eo : mvW t zs.length u us with
    | some wa =>
      obtain ⟨wd, a⟩ := wa
      rw [eo] at hd5 tm5
      refine iteT ?_
      have ok : RsOk d c H5 (.err wd a) := by
        rcases mvW_in eo with ⟨rfl, rfl⟩ | ⟨rfl, ha⟩
        · exact ⟨na8, M5.a.ou⟩
        · exact ⟨us8, odU _ M5.a.ov a ha⟩
      obtain ⟨da, sh⟩ := RsAt.sh (K := K) ok
      have g1 := sh tv tm5
      have g2 := sh dv hd5
      refine ⟨_, rfl, tv, da, rfl, g1.dr, g1.ok, by have := g1.dep; omega, g1.fits, _, rfl, dv, da, rfl, g2.dr, g2.ok, by have := g2.dep; omega, g2.fits, rfl, ?_⟩
      rw [decide_eq_true rfl]
      exact k H5 M5.a.tb M5.a.ex
    | none =>
    rw [eo] at hd5 tm5
    refine iteF ?_
    obtain ⟨y', rfl, aa'⟩ := tm5
    -- all is right
    unfold mvW nameW at eo
    have okP : placeV t u = true := by
      cases h : placeV t u with
      | true => rfl
      | false =>
        rw [show nameV t true u = false from h] at eo
        cases eo
    rw [show nameV t true u = true from okP, if_pos rfl, Option.none_or, Option.map_eq_none_iff, List.find?_eq_none] at eo
    obtain ⟨a, rfl⟩ : ∃ a, u = .str a := by
      cases u with
      | str a => exact ⟨a, rfl⟩
      | _ => cases okP
    have isU : ∀ z ∈ us, ∃ i : Nat, z = .int (i : Int) ∧ i < zs.length := fun z hz => by
      have h := eo z hz
      cases ok : userV zs.length z with
      | true =>
        obtain ⟨i, e, il, _⟩ := userV_t ok
        exact ⟨i, e, il⟩
      | false => rw [ok] at h; exact absurd rfl h
    obtain ⟨i0, rfl, l0⟩ := isU w0 (by rw [eus]; simp)
    obtain ⟨i1, rfl, l1⟩ := isU w1 (by rw [eus]; simp)
    obtain ⟨i2, rfl, l2⟩ := isU v (by rw [eus]; simp)
    have eus2 : us = ([(i0 : Int), (i1 : Int), (i2 : Int)] : List Int).map V.int := by rw [eus] <;> rfl
    have aa' : AAt CA H5 y' x (mvd zs us a) := aa'
    have lmv := mvd_len zs us a
    refine ⟨_, rfl, l, _, rfl, SqL.of M5.a.hl, fun D nD => ?_⟩
    refine lc_it walk_enum (fun j H' => Same H5 H' ∧ H' D = some (.lst (((mvd zs us a).take j).map V.str))) ⟨same_new nD, upd_same⟩ (fun j H' _ z => SqL.of (z.1 _ _ M5.a.hl)) ?_ ?_
    · intro j TT Ha Hb hj ⟨q1, q2⟩ ⟨T', y1, z, eT, nT, eH, ey, ez⟩
      subst eT
      subst eH
      cases ey
      obtain ⟨b, hb, rfl⟩ := map_of (f := V.str) (l := zs) (show (zs.map V.str)[j]? = some z from ez)
      have sT : Same Ha (upd Ha T' (.tup [.int (j : Int), .str b])) := same_new nT
      have jl := (List.getElem?_eq_some_iff.mp hb).1
      have Mb := (M5.same q1).same sT
      have tk : (mvd zs us a).take (j + 1) = (mvd zs us a).take j ++ [if V.int (j : Int) ∈ us then a else zs.getD j ""] := by rw [List.take_add_one, mvd_at jl] <;> rfl
      have egd : zs.getD j "" = b := by rw [List.getD_eq_getElem?_getD, hb] <;> rfl
      have ltk : ((mvd zs us a).take j).length ≤ 60 := by rw [List.length_take]; omega
      refine ⟨T', [.int (j : Int), .str b], rfl, .inl (.inl upd_same), rfl, _, _, rfl, _, _, rfl, rfl, rfl, ?_⟩
      refine ⟨_, rfl, _, rfl, _, rfl, by show 1 ≤ sizeLine; omega, fun p3 m3 => ⟨lm, p3, _, _, rfl, rfl, same_new m3 _ _ Mb.hm, upd_same, by show 2 + 1 ≤ sizeLine; omega, fun p4 m4 => ?_⟩⟩
      have s34 : Same (upd Ha T' (.tup [.int (j : Int), .str b])) _ := (same_new m3).trans (same_new (o := .lst ([V.int (i0 : Int), V.int (i1 : Int)] ++ [V.int (i2 : Int)])) m4)
      refine ⟨p4, us, rfl, .inl (SqL.of (by rw [upd_same, eus] <;> rfl)), rfl, by rw [eus] <;> rfl, _, rfl, ?_⟩
      have ein : (if false = true then !inV (V.int (j : Int)) us else inV (V.int (j : Int)) us) = decide (V.int (j : Int) ∈ us) := by
        show inV (V.int (j : Int)) us = _
        rw [eus2, inV_in4]
        exact decide_eq_decide.mpr ⟨fun h => List.mem_map.mpr ⟨_, h, rfl⟩, fun h => by obtain ⟨i, hi, e⟩ := List.mem_map.mp h; rw [← V.int.inj e]; exact hi⟩
      rw [ein]
      have sAll : Same H5 _ := (q1.trans sT).trans s34
      have q3 := s34 _ _ (sT _ _ q2)
      refine ite2 (fun yes => ?_) (fun no => ?_)
      · have yes : V.int (j : Int) ∈ us := of_decide_eq_true yes
        rw [if_pos yes] at tk
        refine ⟨_, rfl, _, q3, by rw [List.length_map]; omega, sAll.put nD, by rw [upd_same, tk, List.map_append] <;> rfl⟩
      · have no : ¬ V.int (j : Int) ∈ us := fun h => no (decide_eq_true h)
        rw [if_neg no, egd] at tk
        refine ⟨_, rfl, _, q3, by rw [List.length_map]; omega, sAll.put nD, by rw [upd_same, tk, List.map_append] <;> rfl⟩
    intro H6 ⟨q1, q2⟩
    rw [List.length_map, ← lmv, List.take_length] at q2
    have M6 := M5.same q1
    have aa6 := aa'.mono q1
    have okz : ∀ z ∈ zs, PyData.strOk z = true := fun z hz => pl_strOk ots (pl z hz)
    have pla : Pl ts a := by
      have h : decide (a = "" ∨ a ∈ t.map Prod.fst) = true := okP
      have h := of_decide_eq_true h
      exact h.imp id fun m => (pt.map Prod.fst).mem_iff.mpr m
    have okm : ∀ {us' : List V}, ∀ z ∈ mvd zs us' a, PyData.strOk z = true := fun z hz => pl_strOk ots (mvd_pl pl pla z hz)
    obtain ⟨dy', pa', hy', hpa'⟩ := id aa6
    have sh1 := strs_shaped (okm (us' := us))
    have sh2 := strs_shaped okz
    refine ⟨_, rfl, .ref y', .ty "tuple", .ref CA, .type "tuple", false, rfl, .ty _, .base (.ins hy' L.B.cl L.SA.ha L.SA.hn L.SA.ht L.SA.hm), L.kt, false, rfl, iteF ?_⟩
    refine ⟨_, rfl, y', dy', _, rfl, hy', y', x, mvd zs us a, rfl, aa6, fun p5 m5 => ?_⟩
    have s7 := same_new (o := .lst ((mvd zs us a).map V.str)) m5
    have M7 := M6.same s7
    refine ⟨_, rfl, .list ((mvd zs us a).map PyData.str), .list ((mvd zs us a).map PyData.str), .lst (SqL.of upd_same) (dps_strs _), .lst (SqL.of (s7 _ _ q2)) (dps_strs _), sh1, sh1, _, rfl, ?_⟩
    rw [SeqAt.eqv_refl _ (SeqAt.canLay_of_shaped sh1)]
    refine iteF ?_
    obtain ⟨dy7, pa7, hy7, hpa7⟩ := id M7.a.aa
    refine ⟨_, rfl, y, dy7, _, rfl, hy7, y, x, zs, rfl, M7.a.aa, fun p6 m6 => ?_⟩
    have s8 := same_new (o := .lst (zs.map V.str)) m6
    have M8 := M7.same s8
    refine ⟨_, rfl, .list (zs.map PyData.str), .list (zs.map PyData.str), .lst (SqL.of upd_same) (dps_strs _), .lst (SqL.of M8.a.hl) (dps_strs _), sh2, sh2, _, rfl, ?_⟩
    rw [SeqAt.eqv_refl _ (SeqAt.canLay_of_shaped sh2)]
    refine iteF ?_
    -- the last row
    obtain ⟨H8, e8⟩ : ∃ X, X = upd (upd H6 p5 (.lst ((mvd zs us a).map V.str))) p6 (.lst (zs.map V.str)) := ⟨_, rfl⟩
    have s68 : Same H6 H8 := e8 ▸ (s7.trans s8)
    rw [← e8] at M8 ⊢
    have aa8 := aa6.mono s68
    have q8 := s68 _ _ q2
    clear e8
    obtain ⟨dy8, pa8, hy8, hpa8⟩ := id M8.a.aa
    refine ⟨_, rfl, y, dy8, _, rfl, hy8, rfl, _, rfl, .str a, rfl, y, x, ts, zs, .str a, rfl, M8.a.aa, M8.a.fa, ots, pl, n1, n60, M8.a.ou.dat, ?_⟩
    unfold MvQ mvEr4
    rw [placeV_perm pt, okP, nmE_t rfl]
    show ∀ (y2 : Addr) (H9 : Hp), Same H8 H9 → H8 y2 = none → AAt CA H9 y2 x (mvd zs [] a) → _
    intro y2 H9 s9 ny2 aa9
    have M9 := M8.same s9
    obtain ⟨dy9, pa9, hy9, hpa9⟩ := id M9.a.aa
    obtain ⟨dz9, pz9, hz9, hpz9⟩ := id aa9
    refine ⟨_, rfl, y2, dz9, _, _, rfl, hz9, ⟨y, rfl, .inl ⟨dy9, _, hy9⟩⟩, ⟨x, ts, mvd zs [] a, aa9, M9.a.fa, okm, .inr ⟨y, x, ts, zs, rfl, M9.a.aa, M9.a.fa, okz, rfl⟩⟩, fun H10 e10 => ?_⟩
    have s10 : Same H9 H10 := fun b u e => e10 b u e
    rw [eqDK_self ots.nd, mvd_nil, decide_eq_true (rfl : zs = zs)]
    refine ⟨true, rfl, ?_⟩
    show if true = true then _ else _
    rw [if_pos rfl]
    have M10 := M9.same s10
    have aa10 := (aa8.mono s9).mono s10
    obtain ⟨dyA, paA, hyA, hpaA⟩ := id M10.a.aa
    obtain ⟨dzA, pzA, hzA, hpzA⟩ := id aa10
    refine ⟨_, rfl, _, rfl, y', dzA, _, _, rfl, hzA, ⟨y, rfl, .inl ⟨dyA, _, hyA⟩⟩, ⟨x, ts, mvd zs us a, aa10, M10.a.fa, okm, .inr ⟨y, x, ts, zs, rfl, M10.a.aa, M10.a.fa, okz, rfl⟩⟩, fun H11 e11 => ?_⟩
    have s11 : Same H10 H11 := fun b u e => e11 b u e
    have M11 := M10.same s11
    refine ⟨_, rfl, _, rfl, .list ((mvd zs us a).map PyData.str), .list (zs.map PyData.str), .lst (SqL.of (s11 _ _ (s10 _ _ (s9 _ _ q8)))) (dps_strs _), .lst (SqL.of M11.a.hl) (dps_strs _), sh1, sh2, rfl, ?_⟩
    rw [show PyData.eqv (.list ((mvd zs us a).map PyData.str)) (.list (zs.map PyData.str)) = decide (mvd zs us a = zs) by simp only [PyData.eqv]; exact eqv_st4 _ _, eqDK_self ots.nd, Bool.true_and, decide_eq_true rfl]
    exact k H11 M11.a.tb M11.a.ex
end
end FT


namespace FT
open PySem L2 TL ClX
section
variable {P : Program} {w : World} {K : PySem.W.Frag} {mg : Str → Option Value} {base : Heap}
abbrev NRes : List Str := ["forest", "users", "sizes", "found", "parents", "name", "place"]
end
end FT


namespace FT
open PySem L2 TL ClX
section
variable {P : Program} {w : World} {K : PySem.W.Frag} {mg : Str → Option Value} {base : Heap}
abbrev NFe : List Str := ["forest", "users", "sizes", "name", "left", "place"]
end
end FT


namespace FT
open PySem L2 TL ClX
section
variable {P : Program} {w : World} {K : PySem.W.Frag} {mg : Str → Option Value} {base : Heap}
end
end FT


namespace FT
open PySem L2 TL ClX LiI
section
variable {P : Program} {w : World} {K : PySem.W.Frag} {mg : Str → Option Value} {base : Heap}
abbrev NCr : List Str := ["forest", "changed", "found", "name", "above"]
end
end FT


/-! factorials, products: plain. -/
namespace FT
def fct : Nat → Nat
  | 0 => 1
  | n + 1 => (n + 1) * fct n
/-- product -/
def prd : List Nat → Nat
  | [] => 1
  | x :: l => x * prd l
theorem prd_mul {α : Type} (f g : α → Nat) : ∀ l : List α, prd (l.map fun x => f x * g x) = prd (l.map f) * prd (l.map g)
  | [] => rfl
  | x :: l => by
    show f x * g x * prd (l.map fun x => f x * g x) = f x * prd (l.map f) * (g x * prd (l.map g))
    rw [prd_mul f g l, Nat.mul_assoc, Nat.mul_assoc]
    congr 1
    rw [← Nat.mul_assoc, Nat.mul_comm (g x), Nat.mul_assoc]
/-- the product of the factorials -/
def fprod (l : List Nat) : Nat := prd (l.map fct)
end FT


namespace FT
open PySem L2 TL ClX LiI
/-! ### product_to -/
def spFct : Sp := fun vs H Q _ => ∃ k : Nat, vs = [.int (k : Int)] ∧ k ≤ 500 ∧ Q (.int (fct k : Int)) H
/-! ### ways -/
def arr (es : List (Str × Str × Int)) (p : Str) : Int := ((es.filter fun e => decide (e.2.1 = p)).map fun e => e.2.2).sum
def lvs (es : List (Str × Str × Int)) (p : Str) : List Int := (es.filter fun e => decide (e.1 = p)).map fun e => e.2.2
def grp (pre : Str → Nat) (out : Str → List Nat) (p : Str) : List Nat := out p ++ [pre p - (out p).sum]
def wyN (pre : Str → Nat) (out : Str → List Nat) : List Str → Nat → Nat := fun keys f => keys.foldl (fun f p => f * fct (pre p) / fprod (grp pre out p)) f
def spWays : Sp := fun vs H Q _ => ∃ (q e : Addr) (rs : List Addr) (keys : List Str) (res : Str → Int) (es : List (Str × Str × Int)) (pre : Str → Nat) (out : Str → List Nat), vs = [.ref q, .ref e] ∧ H q = some (.dK (tblI keys res)) ∧ keys.length ≤ 13 ∧
  H e = some (.lst (rs.map V.ref)) ∧ EdG H rs es ∧ es.length ≤ 100 ∧ (∀ p ∈ keys, res p + arr es p = (pre p : Int) ∧ lvs es p = (out p).map (fun x : Nat => (x : Int)) ∧ (out p).sum ≤ pre p ∧ pre p ≤ 300) ∧
  ∀ H', Same H H' → Q (.int (wyN pre out keys 1 : Int)) H'
section
variable {P : Program} {w : World} {K : PySem.W.Frag} {mg : Str → Option Value} {base : Heap}
end
end FT


namespace FT
open PySem L2 TL ClX LiI
section
variable {P : Program} {w : World} {K : PySem.W.Frag} {mg : Str → Option Value} {base : Heap}
abbrev NWy : List Str := ["here", "edges", "found", "place", "arriving", "leaving", "present", "group", "start", "goal", "amount"]
end
end FT


/-! the number of best changes, plain. -/
namespace FT
open PySem
def posP (z : Int) : Int := if 0 < z then z else 0
def sOf (ts : List (Str × Str)) (c : Str × Str → Bool) (f : Str → Int) : Int := ((ts.filter c).map fun x => f x.1).sum
theorem sOf_cons (x : Str × Str) (ts : List (Str × Str)) (c : Str × Str → Bool) (f : Str → Int) : sOf (x :: ts) c f = (if c x = true then f x.1 else 0) + sOf ts c f := by
  unfold sOf
  by_cases e : c x = true
  · rw [if_pos e, List.filter_cons, if_pos e, List.map_cons, List.sum_cons]
  · rw [if_neg e, List.filter_cons, if_neg e, Int.zero_add]
theorem kids_sOf (ts : List (Str × Str)) (p : Str) (f : Str → Int) : sOf ts (fun x => decide (x.2 = p)) f = ((kids ts p).map f).sum := by
  unfold sOf kids
  rw [List.map_map] <;> rfl
theorem sum_add (f g : Str → Int) : ∀ l : List Str, (l.map fun a => f a + g a).sum = (l.map f).sum + (l.map g).sum
  | [] => rfl
  | a :: l => by
    rw [List.map_cons, List.map_cons, List.map_cons, List.sum_cons, List.sum_cons, List.sum_cons, sum_add f g l]
    omega
/-! ### those present -/
def preC (ts : List (Str × Str)) (n : Int) (s1 s2 : Str → Int) (p : Str) : Int := (if p = "" then n else max (s1 p) (s2 p)) - ((kids ts p).map fun c => min (s1 c) (s2 c)).sum
/-! ### the number -/
def preN (ts : List (Str × Str)) (n : Int) (s1 s2 : Str → Int) (p : Str) : Nat := (preC ts n s1 s2 p).toNat
def outN (ts : List (Str × Str)) (s1 s2 : Str → Int) (p : Str) : List Nat := (lvs (crs (fun a => s2 a - s1 a) ts) p).map Int.toNat
def plc (ts : List (Str × Str)) : List Str := ("" : Str) :: ts.map Prod.fst
def cntN (ts : List (Str × Str)) (n : Int) (s1 s2 : Str → Int) : Nat := wyN (preN ts n s1 s2) (outN ts s1 s2) (plc ts) 1
theorem prd_one {h : Nat} {p : Str} : ∀ {keys : List Str}, keys.Nodup → p ∈ keys → prd (keys.map fun q => if p = q then h else 1) = h
  | k :: keys, nd, m => by
    obtain ⟨n1, n2⟩ := List.nodup_cons.mp nd
    show (if p = k then h else 1) * prd (keys.map fun q => if p = q then h else 1) = h
    by_cases e : p = k
    · rw [if_pos e]
      have : prd (keys.map fun q => if p = q then h else 1) = 1 := by
        subst e
        clear nd m
        induction keys with
        | nil => rfl
        | cons c keys ih =>
          rw [List.mem_cons] at n1
          show (if p = c then h else 1) * prd (keys.map fun q => if p = q then h else 1) = 1
          rw [if_neg fun z => n1 (.inl z), ih (List.nodup_cons.mp n2).2 (fun z => n1 (.inr z))]
      rw [this, Nat.mul_one]
    · rw [if_neg e, Nat.one_mul]
      exact prd_one n2 ((List.mem_cons.mp m).resolve_left e)
theorem part {α : Type} (st : α → Str) (h : α → Nat) {keys : List Str} (nd : keys.Nodup) : ∀ es : List α, (∀ e ∈ es, st e ∈ keys) → prd (keys.map fun p => prd ((es.filter fun e => decide (st e = p)).map h)) = prd (es.map h)
  | [], _ => by
    show prd (keys.map fun _ => 1) = 1
    clear nd
    induction keys with
    | nil => rfl
    | cons k keys ih =>
      show 1 * prd (keys.map fun _ => 1) = 1
      rw [ih (fun _ z => nomatch z)]
  | e :: es, hm => by
    have i := part st h nd es fun x hx => hm x (List.mem_cons_of_mem _ hx)
    have eq : (keys.map fun p => prd (((e :: es).filter fun e => decide (st e = p)).map h)) = keys.map fun p => (if st e = p then h e else 1) * prd ((es.filter fun e => decide (st e = p)).map h) := List.map_congr_left fun p _ => by
      by_cases c : st e = p
      · rw [List.filter_cons, if_pos (decide_eq_true c), if_pos c] <;> rfl
      · rw [List.filter_cons, if_neg (by rw [decide_eq_true_eq]; exact c), if_neg c, Nat.one_mul]
    rw [eq, prd_mul, i, prd_one nd (hm e (List.mem_cons_self ..))] <;> rfl
/-- the products that do not hang on the order -/
def Apr (ts : List (Str × Str)) (s1 s2 : Str → Int) : Nat := prd (ts.map fun x => fct (s2 x.1 - s1 x.1).natAbs)
def Rpr (ts : List (Str × Str)) (n : Int) (s : Str → Int) : Nat := prd ((plc ts).map fun p => fct (resid ts n s p).toNat)
def Ppr (ts : List (Str × Str)) (n : Int) (s1 s2 : Str → Int) : Nat := prd ((plc ts).map fun p => fct (preC ts n s1 s2 p).toNat)
theorem plc_nd {ts : List (Str × Str)} (o : TreeOk ts) : (plc ts).Nodup := List.nodup_cons.mpr ⟨o.root, o.nd⟩
end FT


/-! one user walks along the edges of a change: all ends together (plain maths) -/
namespace FT
open PySem
def inB (ts : List (Str × Str)) (a x : Str) : Bool := decide (a ∈ pathOf ts x)
def inR (ts : List (Str × Str)) (q x : Str) : Bool := decide (q = "") || inB ts q x
section
variable {ts : List (Str × Str)}
/-- the places on the way from one to another one -/
def onW (ts : List (Str × Str)) (x g q : Str) : Bool := (inR ts q x || inR ts q g) && (kids ts q).all fun k => !(inB ts k x && inB ts k g)
/-- all edges on the way lead this way -/
def alB (ts : List (Str × Str)) (c : Str → Int) (x g : Str) : Bool := (ts.map Prod.fst).all fun f => if inB ts f x = inB ts f g then true else if inB ts f g = true then decide (0 < c f) else decide (c f < 0)
def aP (ts : List (Str × Str)) (c : Str → Int) (x g : Str) : Nat := prd ((ts.map Prod.fst).map fun f => if inB ts f x = inB ts f g then 1 else (c f).natAbs)
def vP (ts : List (Str × Str)) (v : Str → Nat) (x g : Str) : Nat := prd ((plc ts).map fun q => if onW ts x g q = true then 1 else v q)
def tok (ts : List (Str × Str)) (c : Str → Int) (r v : Str → Nat) (x g : Str) : Nat := if alB ts c x g = true then r g * (aP ts c x g * vP ts v x g) else 0
def upA (ts : List (Str × Str)) (c : Str → Int) (x : Str) : Nat := if x = "" then 0 else (- c x).toNat
def upT (ts : List (Str × Str)) (c : Str → Int) (T : Str → Nat) (x : Str) : Nat := match par ts x with
  | some z => (- c x).toNat * T z
  | none => 0
end
end FT


/-! the number of best changes, user by user (plain maths) -/
namespace FT
open PySem
def bz (b : Bool) : Int := if b = true then 1 else 0
section
variable {ts : List (Str × Str)}
/-- sizes without a user at a place -/
def lessS (ts : List (Str × Str)) (s : Str → Int) (g : Str) : Str → Int := fun a => s a - bz (inB ts a g)
section
variable {n : Int} {s1 s2 : Str → Int} {p g : Str}
end
def oneN (k : Nat) : Nat := if k = 0 then 1 else k
end
end FT


namespace FT
open PySem
theorem sum_if {z : Int} {q : Str} : ∀ {keys : List Str}, keys.Nodup → q ∈ keys → (keys.map fun p => if q = p then z else 0).sum = z
  | k :: keys, nd, m => by
    obtain ⟨n1, n2⟩ := List.nodup_cons.mp nd
    rw [List.map_cons, List.sum_cons]
    by_cases e : q = k
    · rw [if_pos e]
      have : (keys.map fun p => if q = p then z else 0).sum = 0 := by
        subst e
        clear nd m
        induction keys with
        | nil => rfl
        | cons c keys ih =>
          rw [List.mem_cons] at n1
          rw [List.map_cons, List.sum_cons, if_neg fun z => n1 (.inl z), ih (List.nodup_cons.mp n2).2 (fun z => n1 (.inr z))] <;> rfl
      rw [this]
      omega
    · rw [if_neg e, sum_if n2 ((List.mem_cons.mp m).resolve_left e)]
      omega
theorem sum_part {s : Str → Int} {keys : List Str} (nd : keys.Nodup) : ∀ ts : List (Str × Str), (∀ x ∈ ts, x.2 ∈ keys) → (keys.map fun p => sOf ts (fun x => decide (x.2 = p)) s).sum = (ts.map fun x => s x.1).sum
  | [], _ => by
    show (keys.map fun _ => (0 : Int)).sum = 0
    clear nd
    induction keys with
    | nil => rfl
    | cons k keys ih =>
      rw [List.map_cons, List.sum_cons, ih fun _ z => nomatch z] <;> rfl
  | x :: ts, hm => by
    have i := sum_part (s := s) nd ts fun y hy => hm y (List.mem_cons_of_mem _ hy)
    have e : (keys.map fun p => sOf (x :: ts) (fun x => decide (x.2 = p)) s) = keys.map fun p => (if x.2 = p then s x.1 else 0) + sOf ts (fun x => decide (x.2 = p)) s := List.map_congr_left fun p _ => by
      rw [sOf_cons]
      simp only [decide_eq_true_eq]
    rw [e, sum_add, i, sum_if nd (hm x (List.mem_cons_self ..)), List.map_cons, List.sum_cons]
theorem plc_par {ts : List (Str × Str)} (o : TreeOk ts) {x : Str × Str} (h : x ∈ ts) : x.2 ∈ plc ts := by
  obtain ⟨rk, r⟩ := o.up
  exact List.mem_cons.mpr ((r _ h).2.imp id And.left)
theorem resid_sum {ts : List (Str × Str)} {n : Int} {s : Str → Int} (o : TreeOk ts) : ((plc ts).map (resid ts n s)).sum = n := by
  have e1 := sum_part (s := s) (plc_nd o) ts fun x hx => plc_par o hx
  have e2 : ((plc ts).map fun p : Str => if p = ("" : Str) then n else s p).sum = n + (ts.map fun x => s x.1).sum := by
    unfold plc
    rw [List.map_cons, List.sum_cons, if_pos rfl, List.map_map]
    congr 2
    refine List.map_congr_left fun x hx => ?_
    show (if x.1 = "" then n else s x.1) = s x.1
    rw [if_neg fun z => o.root (by rw [← z]; exact List.mem_map.mpr ⟨_, hx, rfl⟩)]
  have e3 : ((plc ts).map fun p : Str => if p = ("" : Str) then n else s p) = (plc ts).map fun p => resid ts n s p + sOf ts (fun x => decide (x.2 = p)) s := List.map_congr_left fun p _ => by
    rw [kids_sOf]
    unfold resid
    omega
  rw [e3, sum_add, e1] at e2
  have : (plc ts).map (resid ts n s) = (plc ts).map fun p => resid ts n s p := rfl
  omega
/-- how many assignments have these sizes -/
def resN (ts : List (Str × Str)) (n : Int) (s : Str → Int) : List Nat := (plc ts).map fun p => (resid ts n s p).toNat
def mwN (ts : List (Str × Str)) (n : Int) (s : Str → Int) : Nat := fct n.toNat / fprod (resN ts n s)
/-! ### other orders, other names -/
structure Ren (t : List (Str × Str)) (φ ψ : Str → Str) : Prop where
  inv : ∀ a ∈ t.map Prod.fst, ψ (φ a) = a
  nm : ∀ a ∈ t.map Prod.fst, NameL (φ a)
def ph0 (φ : Str → Str) (p : Str) : Str := if p = "" then "" else φ p
def renT (φ : Str → Str) (t : List (Str × Str)) : List (Str × Str) := t.map fun x => (φ x.1, ph0 φ x.2)
section
variable {t : List (Str × Str)} {φ ψ : Str → Str} (o : TreeOk t) (R : Ren t φ ψ)
include o R
end
end FT


/-! sizes of a list of places; numbers of best changes (plain maths) -/
namespace FT
open PySem
section
variable {t : List (Str × Str)}
def szL (t : List (Str × Str)) (zs : List Str) (a : Str) : Int := (zs.map fun z => bz (inB t a z)).sum
theorem szL_cons (p : Str) (L : List Str) (a : Str) : szL t (p :: L) a = bz (inB t a p) + szL t L a := by
  unfold szL
  rw [List.map_cons, List.sum_cons]
end
end FT


/-! _law_counted -/
namespace FT
open PySem L2 TL ClX LiI
theorem szL_more {ts : List (Str × Str)} {zs : List Str} {z a : Str} {j : Nat} (h : zs[j]? = some z) : szL ts (zs.take (j + 1)) a = szL ts (zs.take j) a + if a ∈ pathOf ts z then 1 else 0 := by
  unfold szL
  rw [take_more h, List.map_append, List.sum_append]
  show _ + (bz (inB ts a z) + 0) = _
  unfold bz inB
  by_cases m : a ∈ pathOf ts z
  · rw [if_pos m, decide_eq_true m]
    simp
  · rw [if_neg m, decide_eq_false m]
    simp
def spCounted : Sp := fun vs H Q _ => ∃ (q l : Addr) (t : List (Str × Str)) (zs : List Str), vs = [.ref q, .ref l] ∧ H q = some (.dK (prs t)) ∧ TreeOk t ∧ H l = some (.lst (zs.map V.str)) ∧ (∀ z ∈ zs, Pl t z) ∧
  ∀ (p : Addr) (ks : List Str) (H' : Hp), Same H H' → H p = none → ks.Perm (t.map Prod.fst) → H' p = some (.dK (tblI ks (szL t zs))) → Q (.ref p) H'
section
variable {P : Program} {w : World} {K : PySem.W.Frag} {mg : Str → Option Value} {base : Heap}
abbrev NCd : List Str := ["_law_above", "_law_spots_here", "_law_flag", "_law_found", "_law_spot"]
end
end FT


/-! Own: a loop over a list or a tuple -/
namespace L2
open PySem PySem.Spec PyProof.Rows
def SqJ (K : PySem.W.Frag) (H : Hp) (a : Addr) (J : It) : Prop := ∃ xs : List V, (SqL K H a xs ∧ J = Itl K a) ∨ (SqT K H a xs ∧ J = Itt K a)
def iSeqE (K : PySem.W.Frag) (tl : TE) : TI := fun σ H R => tl σ H fun x H1 => ∃ a J, x = .ref a ∧ SqJ K H1 a J ∧ R J H1
theorem pi_seqE {X : Cx} {tg l : Expr} {tl : TE} (hl : PE X l tl) : PI X tg l (iSeqE X.K tl) := by
  refine ⟨fun pins s σ H R I h => ?_⟩
  refine thn (hl.run pins s σ H _ I h) fun v s1 ⟨x, H1, I1, rx, a, J, ex, ⟨xs, hJ⟩, q⟩ => ?_
  subst ex
  obtain rfl : v = Value.ref a := rx
  have nw := fun (b : Addr) (hb : b ∈ [s1.heap.objs.size]) =>
    have le : s1.heap.objs.size ≤ b := Nat.le_of_eq (List.mem_singleton.mp hb).symm
    I1.fpOk le (I1.hok.fresh le)
  rcases hJ with ⟨hq, rfl⟩ | ⟨hq, rfl⟩
  · obtain ⟨us, ru, pl, lu⟩ := I1.list hq
    exact wpAny_pyIter_list pl.isList ⟨_, [s1.heap.objs.size], _, _, H1, rfl, I1.kept (t' := s1.toks) fun b o e => Heap.get?_push_of_some _ e, turn_list a _, ⟨_, Heap.get?_push_size _ rfl, rfl, rfl⟩, nw, q⟩
  · obtain ⟨us, ru, pt, lu⟩ := I1.tuple hq
    exact wpAny_pyIter_tuple (show s1.heap.IsTuple a us.toArray from pt) ⟨_, [s1.heap.objs.size], _, _, H1, rfl, I1.kept (t' := s1.toks) fun b o e => Heap.get?_push_of_some _ e, turn_tuple a _, ⟨_, Heap.get?_push_size _ rfl, rfl, rfl⟩, nw, q⟩
end L2


/-! _law_counted of k04: of a list or a tuple, ascending -/
namespace FT
open PySem L2 TL ClX LiI
theorem seqJ_of {K : PySem.W.Frag} {H : Hp} {a : Addr} {xs : List V} (h : SeqAt H a xs) : ∃ (J : It) (G : Hp → Prop), (∀ H', Same H H' → SqJ K H' a J) ∧ Walk J xs.length G (YAt xs) ∧ ∀ H', Same H H' → G H' := by
  rcases h with h | h
  · exact ⟨_, _, fun H' s => ⟨xs, .inl ⟨SqL.of (s _ _ h), rfl⟩⟩, walk_list, fun H' s => SqL.of (s _ _ h)⟩
  · exact ⟨_, _, fun H' s => ⟨xs, .inr ⟨SqT.of (s _ _ h), rfl⟩⟩, walk_tup, fun H' s => SqT.of (s _ _ h)⟩
def spCountE : Sp := fun vs H Q _ => ∃ (q l : Addr) (t : List (Str × Str)) (zs : List Str), vs = [.ref q, .ref l] ∧ H q = some (.dK (prs t)) ∧ TreeOk t ∧ SeqAt H l (zs.map V.str) ∧ (∀ z ∈ zs, Pl t z) ∧
  ∀ (p : Addr) (ks : List Str) (H' : Hp), Same H H' → H p = none → ks.Perm (t.map Prod.fst) → PyProof.Rows.sortedS ks = true → H' p = some (.dK (tblI ks (szL t zs))) → Q (.ref p) H'
section
variable {P : Program} {w : World} {K : PySem.W.Frag} {mg : Str → Option Value} {base : Heap}
abbrev NCdE : List Str := ["_law_above", "_law_spots_here", "_law_flag", "_law_found", "_law_spot"]
theorem scCdE : FnScope NCdE ["_law_above", "_law_spots_here"] (defScope s__law_counted) := ⟨rfl, rfl, rfl, by decide +kernel, rfl, by decide +kernel, by decide +kernel⟩
theorem ok_countE {f fP : Addr} {fd fdP : FuncData} (F : Fun K "_law_counted" "_law_counted" s__law_counted f fd) (T : Nm mg) (DP : Dn P w K mg base CX0 1 "_law_path" ["_law_above", "_law_spot"] spPath fP fdP) : FnOk P w K mg base CX0 2 f fd ["_law_above", "_law_spots_here"] spCountE := by
  refine F.ok scCdE (fun vs H Q E h => ?_) (fun cdv A outer s H vs Q E hr h => ?_)
  · obtain ⟨q, l, t, zs, rfl, _⟩ := h
    rfl
  · obtain ⟨q, l, t, zs, rfl, hq, o, hl, pl, k⟩ := h
    have hu := hu_of hr
    have nd := scCdE.nd
    have big : 1000 ≤ sizeLine := by decide
    have few := o.few
    refine ⟨_, pss_cons (ps_set (i := 3) nd rfl (.inl rfl) (pe_callTy (call_dictP rfl) (by rfl) T.dct (by decide +kernel) (pa_cons (pe_lc (own := [("_law_flag", 2)]) (g := gName 2) (tt := tYes) rfl nd (pi_list (pe_callB (call_sortedD rfl) (by rfl) T.srt (by decide +kernel) (pa_cons (pv 0) pa_nil)))
          (blkOk_by (N := NCdE) (sc := defScope s__law_counted) (by decide +kernel)) (fun _ _ _ _ _ => pg_name (i := 2) nd rfl (Or.inl rfl)) (fun _ _ _ _ _ => pts_nil) (fun _ _ _ _ _ => pe_tup (pa_cons (pv 2) (pa_cons pe_int pa_nil)))) pa_nil)))
      (pss_cons (ps_for PassesOwn.never rfl (pi_seqE (pv 1)) (pg_name (i := 4) nd rfl (.inl rfl))
        (pss_one (ps_for PassesOwn.never rfl (pi_tup (pe_call DP.ok hr rfl DP.mgn DP.kp DP.bn .nil pass0 (pa_cons (pv 0) (pa_cons (pv 4) pa_nil)))) (pg_name (i := 2) nd rfl (.inl rfl))
          (pss_one (ps_dput hu (pv 3) (pv 2) (pe_op op_add (pe_dget hu (pv 3) (pv 2) (fun _ _ => rfl)) pe_int) rfl)))))
      (pss_one (ps_ret (pv 3)))), ?_⟩
    refine ⟨_, rfl, q, prs t, t.map Prod.fst, rfl, .inl hq, prs_keys t, by rw [List.length_map]; omega, fun ks pf perm srt nf => ⟨pf, rfl, ⟨_, SqL.of upd_same⟩, fun D nD => ?_⟩⟩
    have lk := perm.length_eq
    rw [List.length_map] at lk
    have ndk : ks.Nodup := perm.nodup_iff.mpr o.nd
    obtain ⟨H1, e1⟩ : ∃ X, X = upd H pf (.lst (ks.map V.str)) := ⟨_, rfl⟩
    have s1 : Same H H1 := e1 ▸ same_new nf
    have a1 : H1 pf = some (.lst (ks.map V.str)) := by rw [e1]; exact upd_same
    rw [← e1] at nD ⊢
    refine lc_it walk_list (fun i H' => Same H1 H' ∧ ∃ rs : List Addr, H' D = some (.lst (rs.map V.ref)) ∧ PrG (fun _ => .int 0) H' rs (ks.take i)) ⟨same_new nD, [], upd_same, .nil⟩ (fun i H' _ z => SqL.of (z.1 _ _ a1)) ?_ ?_
    · intro i y Hz Ha hi ⟨z1, rs, hD, pr⟩ ⟨eb, ex⟩
      subst eb
      obtain ⟨a, ha, rfl⟩ := map_of ex
      have lr := pr.len
      rw [List.length_take] at lr
      refine ⟨rfl, ?_⟩
      refine ⟨_, rfl, by show 2 ≤ sizeLine; omega, fun tq ntq => ?_⟩
      have sq : Same Ha (upd Ha tq (.tup [.str a, .int 0])) := same_new ntq
      refine ⟨_, sq _ _ hD, by rw [List.length_map]; omega, (z1.trans sq).put nD, rs ++ [tq], by rw [upd_same, List.map_append] <;> rfl, ?_⟩
      rw [take_more ha]
      exact PrG.push (sq _ _ hD) (PrG.snoc upd_same (pr.mono sq))
    intro H2 ⟨z1, rs, hD, pr⟩
    rw [List.length_map, List.take_length] at pr
    refine ⟨D, rs, _, rfl, SqL.of hD, pr.kvs, fun pd npd => ?_⟩
    rw [merge_nd (by rw [map_fst]; exact ndk)]
    have s02 : Same H H2 := s1.trans z1
    have np0 : H pd = none := s02.free npd
    obtain ⟨H3, e3⟩ : ∃ X, X = upd H2 pd (.dK (kvT (ks.map fun a => (a, V.int 0)))) := ⟨_, rfl⟩
    have s03 : Same H H3 := e3 ▸ s02.trans (same_new npd)
    have hp3 : H3 pd = some (.dK (tblI ks (szL t []))) := by rw [e3, upd_same] <;> rfl
    rw [← e3]
    obtain ⟨J, GG, eJ, wk, gG⟩ := seqJ_of (K := K) hl
    refine ⟨_, rfl, l, J, rfl, eJ _ s03, ?_⟩
    refine for_it wk (fun j σ' H' => (∃ u2 u4, σ' = [some (.ref q), some (.ref l), u2, some (.ref pd), u4]) ∧ Same H H' ∧ H' pd = some (.dK (tblI ks (szL t (zs.take j))))) ⟨⟨_, _, rfl⟩, s03, by rw [List.take_zero]; exact hp3⟩ (fun j σ' H' _ z => gG _ z.2.1) ?_ ?_
    · intro j y σ' Hz Ha hj ⟨⟨u2, u4, e⟩, sa, hpd⟩ ⟨eb, ex⟩
      subst e
      subst eb
      obtain ⟨z, hz, rfl⟩ := map_of ex
      have mz := pl z (List.mem_of_getElem? hz)
      refine ⟨_, rfl, _, rfl, q, z, t, rfl, .inl (sa _ _ hq), o, mz, fun pt H4 s4 npt hpt => ?_⟩
      have pdt : pd ≠ pt := ne_of_none hpd npt
      have nt0 : H pt = none := sa.free npt
      refine ⟨pt, rfl, ⟨_, .inl (.inl hpt)⟩, ?_⟩
      have nodup := path_nd o mz
      refine for_it walk_tup (fun i σ' H' => (∃ u2, σ' = [some (.ref q), some (.ref l), u2, some (.ref pd), some (.str z)]) ∧ Same H H' ∧ H' pt = some (.tup ((pathOf t z).map V.str)) ∧ H' pd = some (.dK (tblI ks fun a => szL t (zs.take j) a + if a ∈ (pathOf t z).take i then 1 else 0)))
        ⟨⟨_, rfl⟩, sa.trans s4, hpt, by rw [s4 _ _ hpd]; congr 2; exact tblI_congr fun a _ => by rw [List.take_zero, if_neg (fun h => nomatch h), Int.add_zero]⟩ (fun i σ' H' _ w => .inl (.inl w.2.2.1)) ?_ ?_
      · intro i y2 σ2 Hy Hb hi ⟨⟨u2', e⟩, sb, hpt', hpd'⟩ ⟨eb, ex⟩
        subst e
        subst eb
        obtain ⟨b, hb, rfl⟩ := map_of ex
        have mb := perm.mem_iff.mpr (path_all o mz b (List.mem_of_getElem? hb))
        have nb := nat_fresh nodup hb
        have dg : DGet Hb pd (.str b) (some (.int (szL t (zs.take j) b + 0))) := by
          have w := DGet.k (k := Sum.inr b) hpd'
          rw [tblI_val mb, if_neg nb] at w
          exact w
        refine ⟨_, rfl, _, rfl, pd, _, rfl, dg, _, _, rfl, rfl, _, rfl, _, rfl, pd, _, rfl, DPut.k (k := Sum.inr b) hpd' (by rw [tblI_len]; omega), ?_⟩
        rw [tblI_put mb]
        refine ⟨⟨_, rfl⟩, sb.put np0, by rw [upd_ne pdt.symm]; exact hpt', ?_⟩
        rw [upd_same, take_more hb]
        congr 2
        refine tblI_congr fun a _ => ?_
        by_cases w : a = b
        · rw [if_pos w, w, if_pos (List.mem_append_right _ (List.mem_singleton_self _)), Int.add_zero]
        · rw [if_neg w]
          by_cases m : a ∈ (pathOf t z).take i
          · rw [if_pos m, if_pos (List.mem_append_left _ m)]
          · rw [if_neg m, if_neg fun h => (List.mem_append.mp h).elim m fun h => w (List.mem_singleton.mp h)]
      · intro σ2 Hb ⟨⟨u2', e⟩, sb, hpt', hpd'⟩
        subst e
        rw [List.length_map, List.take_length] at hpd'
        refine ⟨⟨_, _, rfl⟩, sb, ?_⟩
        rw [hpd']
        congr 2
        exact tblI_congr fun a _ => (szL_more hz).symm
    · intro σ' H4 ⟨⟨u2, u4, e⟩, sa, hpd⟩
      subst e
      rw [List.length_map, List.take_length] at hpd
      exact ⟨_, rfl, k pd ks H4 sa np0 perm srt hpd⟩
end
end FT


/-! Own: C.m(..) where m is a staticmethod of the class. -/
namespace L2
open PySem PySem.Spec PyProof.Rows
/-- C.m is a staticmethod: its record at p, its def at f -/
structure SMet (K : PySem.W.Frag) (C : Addr) (mc : Value) (m : Str) (p f : Addr) : Prop where
  at_ : PySem.W.findCls K (.ref C) mc m = some (.get (.builtin "staticmethod.__get__") (.ref p) .none (.ref C))
  rc : ∃ rest, PySem.W.recIn K p "staticmethod" = some (.ref f :: rest)
def tSMeth (C : Addr) (sp : Sp) (dvs : List V) (E : XK) (ta : TE) (t : TA) : TE := fun σ H Q => ta σ H fun x H1 => x = .ref C ∧ t σ H1 fun vs H2 => sp (vs ++ dvs) H2 Q E
section
variable {X : Cx} {CX : CXT} {k : Nat} {C p f : Addr} {mc : Value} {fd : FuncData} {ps : List Str} {sp : Sp} {dvs : List V} {ds : List Value} {E : XK} {o e : Expr} {es : List Expr} {m : Str} {pos apos : Pos} {ta : TE} {t : TA} {pl : Sem Bool}
end
end L2


/-! Own: C.m(k = v, ..): a static method called by keywords alone -/
namespace FT
open PySem PySem.Spec PyProof.Rows L2 TL ClX
def tSMethK (C : Addr) (n : Nat) (sp : Sp) (gV : List V → List V → List V) (E : XK) (ta : TE) (tk : TA) : TE := fun σ H Q => ta σ H fun x H1 => x = .ref C ∧ tk σ H1 fun zs H2 => zs.length = n ∧ sp (gV [] zs) H2 Q E
theorem pe_smethK {X : Cx} {CX : CXT} {k : Nat} {C p f : Addr} {mc : Value} {fd : FuncData} {ps ks : List Str} {sp : Sp} {E : XK} {o : Expr} {m : Str} {pos apos : Pos} {kw : Keyword} {kws : List Keyword} {ta : TE} {tk : TA} {g : List Value → List Value → List Value} {gV : List V → List V → List V} {pl : Sem Bool}
    (he : PE X o ta) (r : ClX.CRead X.K C mc) (c : SMet X.K C mc m p f) (F : FnOk X.prog X.w X.K X.mg X.base CX k f fd ps sp) (hr : Room k X.A) (hk : PySem.W.keepIn X.K (.ref f) = true) (hb : KBn X.K fd ps 0 ks g gV) (hx : Passes CX X E)
    (hkw : PK X (kw :: kws) tk) (hall : (backToKw pos (keywordEach (kw :: kws) X.env)).all (·.1.isSome) = true := by rfl) (hks : (backToKw pos (keywordEach (kw :: kws) X.env)).filterMap (·.1) = ks := by rfl)
    (hpl : ((backTo pos (starEach [] X.env)).any (·.1) || (backToKw pos (keywordEach (kw :: kws) X.env)).any (·.1.isNone)) = false := by rfl)
    (ev : eval (.Call (.Attribute o m apos) [] (kw :: kws) pos) X.env = (do
      let u ← eval o X.env
      standAt apos.atName
      let (g, first) ← holding [u] (getMethod u m pl)
      callWith pos g first (backTo pos (starEach [] X.env)) (backToKw pos (keywordEach (kw :: kws) X.env))) := by rfl) :
    PE X (.Call (.Attribute o m apos) [] (kw :: kws) pos) (tSMethK C ks.length sp gV E ta tk) := by
  refine ⟨fun pins s σ H Q I h => ?_⟩
  refine PySem.W.methodCall_KW (pl := pl) (thn (he.run pins s σ H _ I h) fun u s1 ⟨x, H1, J, rx, ex, q⟩ => ?_) ev
  subst ex
  obtain rfl : u = Value.ref C := rx
  obtain ⟨rest, hp⟩ := c.rc
  refine PySem.W.method_cls J.kIn r.ga (PySem.W.cls_bind J.kIn r.rd c.at_ (wpAny_call (PySem.W.sm_get (s := { s1 with toks := s1.toks + 1 }) J.kIn hp (PySem.W.handed_on rfl ?_))))
  refine PySem.W.callWith_KW0 (first := []) (h₀ := X.base) J.ok.mod.kin hk hall ?_ hpl
  refine thn (hkw.run pos pins _ σ H1 _ (J.tok _) q) fun ws s2 ⟨zs, H2, J2, rz, l2, want⟩ => ⟨J2.kIn, ?_⟩
  rw [hks]
  exact run_fnN (us := []) (vs := []) F hr hb hx J2 .nil rz rfl l2 want
end FT


/-! users move along edges, the order of the lists left open (plain maths) -/
namespace FT
open PySem L2 TL ClX
def MovedP (ts : List (Str × Str)) (c : Str → Int) (L L' : Str → List Int) : Prop := ∃ G : Str → Str → List Int, (∀ p, Pl ts p → ∀ o ∈ adj ts p, (G p o).length = lv ts c p o) ∧ ∀ p, Pl ts p → (L p ++ ins ts G p).Perm (L' p ++ outs ts G p)
theorem Moved.p {ts : List (Str × Str)} {c : Str → Int} {L L' : Str → List Int} (m : Moved ts c L L') : MovedP ts c L L' := by
  obtain ⟨G, g1, g2⟩ := m
  exact ⟨G, g1, fun p hp => by rw [g2 p hp]⟩
end FT


/-! edges of a change, in an order (plain maths) -/
namespace FT
open PySem L2 TL ClX LiI
/-- each place behind all from which users move to it -/
def Topo (ts : List (Str × Str)) (c : Str → Int) (ds : List Str) : Prop := ∀ (i : Nat) (p : Str), ds[i]? = some p → ∀ q, 0 < lv ts c q p → q ∈ ds.take i
def spEdgeOrder (CF : Addr) : Sp := fun vs H Q _ => ∃ (x q : Addr) (ts : List (Str × Str)) (c : Str → Int), vs = [.ref x, .ref q] ∧ FAt CF H x ts ∧ TreeOk ts ∧ H q = some (.dK (tblI (ts.map Prod.fst) c)) ∧
  ∀ (p : Addr) (ds : List Str) (H' : Hp), Same H H' → H p = none → ds.Perm (pls ts) → Topo ts c ds → H' p = some (.lst (ds.map V.str)) → Q (.ref p) H'
/-- goals of the edges from places that are left -/
def waitL (es : List (Str × Str × Int)) (rest : List Str) : List Str := (es.filter fun e => decide (e.1 ∈ rest)).map fun e => e.2.1
end FT


/-! users moved edge by edge (plain maths) -/
namespace FT
open PySem L2 TL ClX LiI
/-- the last ones, the rest -/
def lastN (a : Int) (l : List Int) : List Int := l.drop (l.length - a.toNat)
def butN (a : Int) (l : List Int) : List Int := l.take (l.length - a.toNat)
def mvE (L : Str → List Int) (e : Str × Str × Int) : Str → List Int := fun p => if p = e.1 then butN e.2.2 (L e.1) else if p = e.2.1 then L e.2.1 ++ lastN e.2.2 (L e.1) else L p
def mvP (es : List (Str × Str × Int)) (L : Str → List Int) (p : Str) : Str → List Int := (es.filter fun e => decide (e.1 = p)).foldl mvE L
def mvA (es : List (Str × Str × Int)) (L : Str → List Int) (ds : List Str) : Str → List Int := ds.foldl (mvP es) L
structure Adv (φ : List Int → Int) : Prop where
  nil : φ [] = 0
  app : ∀ a b, φ (a ++ b) = φ a + φ b
def Bal (ts : List (Str × Str)) (L0 L : Str → List Int) (G : Str → Str → List Int) : Prop := ∀ p, Pl ts p → ∀ φ, Adv φ → φ (L0 p) + ((adj ts p).map fun x => φ (G x p)).sum = φ (L p) + ((adj ts p).map fun x => φ (G p x)).sum
/-- after some places: groups out of them are whole, out of others none -/
structure Gone (ts : List (Str × Str)) (c : Str → Int) (L0 L : Str → List Int) (D : List Str) : Prop where
  ex : ∃ G : Str → Str → List Int, Bal ts L0 L G ∧ (∀ p x, p ∉ D → G p x = []) ∧ ∀ p ∈ D, ∀ x ∈ adj ts p, (G p x).length = lv ts c p x
end FT


/-! best -/
namespace FT
open PySem L2 TL ClX LiI
theorem EdG.imp {H H' : Hp} (m : ∀ r xs, H r = some (.tup xs) → H' r = some (.tup xs)) : ∀ {rs : List Addr} {es : List (Str × Str × Int)}, EdG H rs es → EdG H' rs es
  | _, _, .nil => .nil
  | _, _, .cons h t => .cons (m _ _ h) (EdG.imp m t)
theorem rep_strs2 (n : Nat) (a : Str) : (List.replicate n [V.str a]).flatten = (List.replicate n a).map V.str := by
  rw [List.map_replicate]
  induction n with
  | zero => rfl
  | succ n ih => rw [List.replicate_succ, List.flatten_cons, ih, List.replicate_succ] <;> rfl
/-- a change of places by moves along edges -/
def BestOf (ts : List (Str × Str)) (c : Str → Int) (zs zs' : List Str) : Prop := ∃ L' : Str → List Int, MovedP ts c (atU zs) L' ∧ Val ts zs.length L' ∧ zs' = (usr zs.length).map (plOf ts L')
def spBest (K : PySem.W.Frag) (CF CA CS : Addr) : Sp := fun vs H Q E => ∃ (y x : Addr) (sv : V) (ts : List (Str × Str)) (zs : List Str) (so : Option (List (Key × V))), vs = [.ref y, sv] ∧ AAt CA H y x zs ∧ FAt CF H x ts ∧ TreeOk ts ∧ (∀ z ∈ zs, Pl ts z) ∧ 1 ≤ zs.length ∧ zs.length ≤ 60 ∧ SzV K H sv so ∧
  match feE CS ts (zs.length : Int) so with
  | none => ∀ (y' : Addr) (H' : Hp) (zs' : List Str), Same H H' → H y' = none → AAt CA H' y' x zs' → BestOf ts (fun a => szOf (kvsOf so) a - szZ ts zs a) zs zs' → Q (.ref y') H'
  | some e => Out H E e
end FT


/-! Assignment.empty of any value -/
namespace FT
open PySem L2 TL ClX LiI
def spEmpty (K : PySem.W.Frag) (CF CA CU : Addr) : Sp := fun vs H Q E => ∃ (x : Addr) (ts : List (Str × Str)) (v : V), vs = [.ref x, v] ∧ FAt CF H x ts ∧ TreeOk ts ∧ IsDat K H v ∧
  if usersOk v 60 = true then ∀ (n : Nat) (y' : Addr) (H' : Hp), v = .int (n : Int) → Same H H' → H y' = none → AAt CA H' y' x (List.replicate n "") → Q (.ref y') H' else Out H E (.e0 CU)
section
variable {P : Program} {w : World} {K : PySem.W.Frag} {mg : Str → Option Value} {base : Heap}
theorem scEmp : FnScope ["forest", "users"] ["forest", "users"] (defScope s_Assignment_empty) := ⟨rfl, rfl, rfl, by decide +kernel, rfl, by decide +kernel, by decide +kernel⟩
theorem ok_empty {f fU fA CF CA CU : Addr} {mc mcA : Value} {fd fdU fdA : FuncData} (F : Fun K "empty" "Assignment.empty" s_Assignment_empty f fd) (Z : Fc K mg CF mc) (B : Ac K mg CA mcA) (U : Dn P w K mg base (L2.CX P w) 3 "need_users" ["users", "most"] (spUsers K CU) fU fdU)
    (AI : FnOk P w K mg base CX0 1 fA fdA ["self", "forest", "places"] (spAInit CF CA)) (AM : Mk K CA fA) (AB : Binds K fdA ["self", "forest", "places"] []) : FnOk P w K mg base (L2.CX P w) 4 f fd ["forest", "users"] (spEmpty K CF CA CU) := by
  obtain ⟨um, cm⟩ := B.most
  obtain ⟨ur, cr⟩ := Z.root
  refine F.okX scEmp (fun vs H Q E h => ?_) (fun cdv A outer s H vs Q E hr h => ?_)
  · obtain ⟨x, ts, v, rfl, _⟩ := h
    rfl
  · obtain ⟨x, ts, v, rfl, fa, o, dv, k⟩ := h
    have big : 1000 ≤ sizeLine := by decide
    refine ⟨_, pss_cons (ps_expr (pe_call U.ok hr rfl U.mgn U.kp U.bn .nil (passes_call (takes_of rfl rfl rfl rfl) (fun _ _ _ _ h => h)) (pa_cons (pv 1) (pa_cons (pe_cval (pe_glob (v := .ref CA) (by rfl) B.gA rfl)) pa_nil))))
      (pss_one (ps_ret (pe_make AM AI (hr.mono (by decide)) rfl B.gA AB .nil pass0 (pa_cons (pv 0) (pa_cons (pe_op op_rep (pe_lst (pa_cons (pe_cval (pe_glob (v := .ref CF) (by rfl) Z.gF rfl)) pa_nil)) (pv 1)) pa_nil))))), ?_⟩
    refine ⟨_, rfl, CA, mcA, _, um, rfl, B.rd, cm, v, 60, rfl, dv, ?_⟩
    by_cases ok : usersOk v 60 = true
    rotate_left
    · rw [if_neg ok] at k ⊢
      exact k
    rw [if_pos ok] at k ⊢
    obtain ⟨n, rfl, n1, n60⟩ : ∃ n : Nat, v = .int (n : Int) ∧ 1 ≤ n ∧ n ≤ 60 := by
      cases v with
      | int i =>
        have ok : (decide (1 ≤ i) && decide (i ≤ 60)) = true := ok
        rw [Bool.and_eq_true, decide_eq_true_eq, decide_eq_true_eq] at ok
        exact ⟨i.toNat, by congr 1; omega, by omega, by omega⟩
      | _ => cases ok
    intro H1 s1
    refine ⟨_, rfl, CF, mc, _, ur, rfl, Z.rd, cr, by show 1 ≤ sizeLine; omega, fun p np => ?_⟩
    have s2 := same_new (o := .lst [.str ""]) np
    refine ⟨_, rfl, p, (n : Int), [.str ""], rfl, rfl, upd_same, by omega, by omega, by show 1 * _ ≤ sizeLine; omega, fun l nl => ?_⟩
    have s3 := same_new (o := .lst (List.replicate ((n : Int)).toNat [V.str ""]).flatten) nl
    have s13 := s2.trans s3
    refine fun y2 dx2 m1 m2 ne => ?_
    have el : (List.replicate ((n : Int)).toNat [V.str ""]).flatten = (List.replicate n ("" : Str)).map V.str := by
      rw [Int.toNat_natCast]
      exact rep_strs2 n ""
    have sn : ∀ {H3 : Hp}, H3 y2 = none → H3 dx2 = none → Same H3 (upd (upd H3 dx2 (.own y2)) y2 (.ins CA dx2 [])) := fun m1 m2 c u e => by
      rw [upd_ne (ne_of_none e m1), upd_ne (ne_of_none e m2)]
      exact e
    have sn := sn m1 m2
    refine ⟨y2, x, l, dx2, ts, List.replicate n "", rfl, upd_same, ((fa.mono s1).mono s13).mono sn, o, sn _ _ (by rw [upd_same, el]), by rw [List.length_replicate]; exact n1, by rw [List.length_replicate]; exact n60, fun z hz => by rw [(List.mem_replicate.mp hz).2]; exact .inl rfl, fun H4 aa kp => ⟨rfl, ?_⟩⟩
    refine k n y2 H4 rfl (fun c u e => ?_) ((s1.trans s13).free m1) aa
    have e3 := s13 _ _ (s1 _ _ e)
    exact kp c u (ne_of_none e3 m1) (sn _ _ e3)
end
end FT


/-! _law_empty_right of k04 -/
namespace FT
open PySem L2 TL ClX LamX NdefX LiI
structure L4F (P : Program) (w : World) (K : PySem.W.Frag) (mg : Str → Option Value) (base : Heap) (CF CA CU : Addr) (mcA : Value) (f g : Nat → Addr) (fd : Nat → FuncData) : Prop where
  B : Ac K mg CA mcA
  dp : Dn P w K mg base CX0 2 "_law_pick" ["_law_draw", "_law_some"] (spPick K) (f 0) (fd 0)
  em : FnOk P w K mg base (L2.CX P w) 4 (f 1) (fd 1) ["forest", "users"] (spEmpty K CF CA CU)
  emm : SMet K CA mcA "empty" (g 1) (f 1)
  emp : PySem.W.keepIn K (.ref (f 1)) = true
  emk : KBn K (fd 1) ["forest", "users"] 0 ["users", "forest"] (tn2 Value) (tn2 V)
  pP : PrN P w K mg base 1 CA "places" (spAPlaces CA) (g 0) (f 2) (fd 2)
/-- what may be drawn, beside the number of users -/
def oddN (p : Addr) (x : V) : Prop := x = .int 0 ∨ x = .int 61 ∨ x = .int (-1) ∨ x = .non ∨ x = .bl true ∨ x = .str "5" ∨ x = .ref p
theorem shown_no {n : Nat} (h1 : 1 ≤ n) (h2 : n ≤ 60) : ∀ da ∈ ([.int 0, .int 61, .int (-1), .none, .bool true, .str "5", .list [.int 1]] : List PyData), da.shown ≠ (PyData.int (n : Int)).shown := by
  have all : ∀ k : Fin 60, ∀ da ∈ ([.int 0, .int 61, .int (-1), .none, .bool true, .str "5", .list [.int 1]] : List PyData), da.shown ≠ (PyData.int (((k.1 + 1 : Nat) : Int))).shown := by decide +kernel
  have := all ⟨n - 1, by omega⟩
  rw [show n - 1 + 1 = n by omega] at this
  exact this
theorem oddN_data {K : PySem.W.Frag} {H : Hp} {p : Addr} {x : V} {n : Nat} (h1 : 1 ≤ n) (h2 : n ≤ 60) (hp : H p = some (.lst [.int 1])) (h : oddN p x) : usersOk x 60 = false ∧ IsDat K H x ∧ ∃ da, ShD K H x da ∧ da.shown ≠ (PyData.int (n : Int)).shown := by
  have no := shown_no h1 h2
  have flat : ∀ {da : PyData}, Dp K H x da → da.hasDict = false → PyData.leavesShort 8 da = true → da.showable = true → da.depth ≤ 3 → da.bulk ≤ 1000 → ShD K H x da := fun a b c d e f => ⟨.dat a b, c, d, e, f⟩
  rcases h with rfl | rfl | rfl | rfl | rfl | rfl | rfl
  · exact ⟨rfl, ⟨_, .int 0⟩, .int 0, flat (.int 0) rfl (by decide +kernel) (by decide +kernel) (by decide) (by decide), no _ (by simp)⟩
  · exact ⟨rfl, ⟨_, .int 61⟩, .int 61, flat (.int 61) rfl (by decide +kernel) (by decide +kernel) (by decide) (by decide), no _ (by simp)⟩
  · exact ⟨rfl, ⟨_, .int (-1)⟩, .int (-1), flat (.int (-1)) rfl (by decide +kernel) (by decide +kernel) (by decide) (by decide), no _ (by simp)⟩
  · exact ⟨rfl, ⟨_, .non⟩, .none, flat .non rfl rfl rfl (by decide) (by decide), no _ (by simp)⟩
  · exact ⟨rfl, ⟨_, .bl true⟩, .bool true, flat (.bl true) rfl rfl rfl (by decide) (by decide), no _ (by simp)⟩
  · exact ⟨rfl, ⟨_, .str "5"⟩, .str "5", flat (.str "5") rfl (by decide +kernel) rfl (by decide) (by decide +kernel), no _ (by simp)⟩
  · exact ⟨rfl, ⟨_, .lst hp⟩, .list [.int 1], ⟨.list (SqL.of hp) (.cons (.dat (.int 1) rfl) .nil), by decide +kernel, by decide +kernel, by decide, by decide⟩, no _ (by simp)⟩
structure F04 (T : List (Addr × Str)) (CF d c x p1 : Addr) (ts : List (Str × Str)) (H0 H : Hp) : Prop where
  dr : DrawAt H d c
  tb : Tabs T H
  kn : KeepN d c H0 H
  fa : FAt CF H x ts
  h1 : H p1 = some (.lst [.int 1])
theorem F04.ext {T : List (Addr × Str)} {CF d c x p1 : Addr} {ts : List (Str × Str)} {H0 H H' : Hp} (h : F04 T CF d c x p1 ts H0 H) (e : ExtN H H') (tb : Tabs T H') : F04 T CF d c x p1 ts H0 H' :=
  ⟨h.dr.ext e, tb, h.kn.trans (KeepN.of_ext e), (let ⟨dy, p, e1, e2⟩ := h.fa; ⟨dy, p, e _ _ e1 (fun ps z => nomatch z), e _ _ e2 (fun ps z => nomatch z)⟩), e _ _ h.h1 (fun ps z => nomatch z)⟩
theorem F04.same {T : List (Addr × Str)} {CF d c x p1 : Addr} {ts : List (Str × Str)} {H0 H H' : Hp} (h : F04 T CF d c x p1 ts H0 H) (s : Same H H') : F04 T CF d c x p1 ts H0 H' := h.ext (ExtN.of s) (h.tb.ext s)
theorem nx_inF {n : St → Hp → Prop} {r : VK} {b c : St → Hp → Prop} {σ : St} {H : Hp} (h : n σ H) : Ends.nx { nx := n, rt := r, bk := b, ct := c } σ H := h
theorem asg_joinF {te : TE} {i : Nat} {rest : TS} {D : Ends} {σ : St} {H : Hp} (G : V → Hp → Prop) (h : ∀ Q' : VK, (∀ v H', G v H' → Q' v H') → te σ H Q') (k : ∀ v H', G v H' → rest D (σ.set i (some v)) H') : tSeq (tAsg te (gName i)) rest D σ H := h _ fun v H' g => k v H' g
def spEmpR (T : List (Addr × Str)) (CF : Addr) : Sp := fun vs H Q _ => ∃ (d c x : Addr) (n : Nat) (ts : List (Str × Str)), vs = [.ref d, .ref x, .int (n : Int)] ∧ DrawAt H d c ∧ Tabs T H ∧ FAt CF H x ts ∧ TreeOk ts ∧ 1 ≤ n ∧ n ≤ 60 ∧
  ∀ H', DrawAt H' d c → Tabs T H' → KeepN d c H H' → Q (.bl true) H'
abbrev NEm : List Str := ["_law_draw", "_law_grove", "_law_many", "_law_odd", "_law_told_here"]
section
variable {P : Program} {w : World} {K : PySem.W.Frag} {mg : Str → Option Value} {base : Heap}
theorem scEm4 : FnScope NEm ["_law_draw", "_law_grove", "_law_many"] (defScope s__law_empty_right) := ⟨rfl, rfl, rfl, by decide +kernel, rfl, by decide +kernel, by decide +kernel⟩
theorem ok_empR {f0 fEr CF CA CU R co ta : Addr} {mcA : Value} {C : Nat → Addr} {T : List (Addr × Str)} {f g : Nat → Addr} {fd : Nat → FuncData} {fd0 fdEr : FuncData} (F : FunC K "_law_empty_right" "_law_empty_right" s__law_empty_right f0 fd0 co) (N : Nm mg) (L : L4F P w K mg base CF CA CU mcA f g fd)
    (GE : Ge K mg "_law_told" s__law_told fEr fdEr) (CC : Cl5T K mg R C) (eU : C 0 = CU) (TB : TabB base mg co ta) (hmT : (ta, lamQ "_law_empty_right") ∈ T) (hut : ∀ p ∈ T, p.1 = ta → p.2 = lamQ "_law_empty_right") :
    FnG P w K mg base CX0 7 f0 fd0 ["_law_draw", "_law_grove", "_law_many"] (spEmpR T CF) := by
  refine F.okG scEm4 (fun vs H Q E h => ?_) (fun A outer s H vs Q E clr hr h => ?_)
  · obtain ⟨d, c, x, n, ts, rfl, _⟩ := h
    rfl
  · obtain ⟨d, c, x, n, ts, rfl, dr, tb, fa, o, n1, n60, k⟩ := h
    have hr2 : Room 2 _ := hr.mono (by decide)
    have nd := scEm4.nd
    have big : 4000 ≤ sizeLine := by decide
    refine ⟨_, pss_cons (ps_set (i := 3) nd rfl (.inr rfl) (pe_call L.dp.ok hr2 rfl L.dp.mgn L.dp.kp L.dp.bn .nil pass0 (pa_cons (pv 0) (pa_cons (pe_lst (pa_cons pe_int (pa_cons pe_int (pa_cons (pe_un un_neg pe_int) (pa_cons pe_non (pa_cons pe_bl (pa_cons pe_str (pa_cons (pe_lst (pa_cons pe_int pa_nil)) (pa_cons (pv 2) (pa_cons (pv 2) pa_nil)))))))))) pa_nil))))
      (pss_cons (ps_set (i := 4) nd rfl (.inl rfl) (pe_lamS (T := T) (k := 4) (t := fun E => tSMethK CA (["users", "forest"] : List Str).length (spEmpty K CF CA CU) (tn2 V) E (tC (.ref CA)) (tCons (tVar 3) (tCons (tVar 1) tNil))) rfl GE.mgn GE.fn GE.bn scTd rfl (.inl rfl) (fun cdg => told_gives N CC) TB rfl hmT hut hr (lamS_by (sc := defScope s__law_empty_right) (by decide +kernel)) rfl (fun _ _ _ _ _ => rfl)
          (fun A outer s H E f c' hr2 => pe_smethK (pe_glob (v := .ref CA) (by rfl) L.B.gA rfl) L.B.rd L.emm L.em hr2 L.emp L.emk (passes_call (takes_of rfl rfl rfl rfl) (fun _ _ _ _ h => h)) (pk_cons (pv 3) (pk_cons (pv 1) pk_nil)))))
      (pss_cons (ps_if (pt_cmpR op_ne (pe_callB (call_reprR clr hr.units) (by rfl) N.rep (by decide +kernel) (pa_cons (pv 3) pa_nil)) (pe_callB (call_reprR clr hr.units) (by rfl) N.rep (by decide +kernel) (pa_cons (pv 2) pa_nil)) (nomark _)) (pss_one (ps_ret (pe_cmpR (op_eqD hr.units) (pv 4) (pe_tup (pa_cons pe_str (pa_cons pe_non pa_nil))) (nomark _)))) pss_nil)
      (pss_one (ps_ret (pe_cmpR (op_eqD hr.units) (pe_prop (pv 4) L.B.cl L.pP.pr L.pP.fn hr2 L.pP.bn .nil pass0 (by rfl)) (pe_op op_rep (pe_lst (pa_cons pe_str pa_nil)) (pv 2)) (nomark _)))))), ?_⟩
    refine ⟨_, rfl, 1, rfl, by show 1 ≤ sizeLine; omega, fun p1 m1 => ⟨_, rfl, _, rfl, by show 9 ≤ sizeLine; omega, fun p2 m2 => ?_⟩⟩
    obtain ⟨H1, e1⟩ : ∃ X, X = upd (upd H p1 (.lst [.int 1])) p2 (.lst [.int 0, .int 61, .int (-1), .non, .bl true, .str "5", .ref p1, .int (n : Int), .int (n : Int)]) := ⟨_, rfl⟩
    have t1 := same_new (o := .lst [.int 1]) m1
    have t2 := same_new (o := .lst [.int 0, .int 61, .int (-1), .non, .bl true, .str "5", .ref p1, .int (n : Int), .int (n : Int)]) m2
    have s01 : Same H H1 := e1 ▸ (t1.trans t2)
    have h1p : H1 p1 = some (.lst [.int 1]) := by rw [e1]; exact t2 _ _ upd_same
    have h2p : H1 p2 = some (.lst [.int 0, .int 61, .int (-1), .non, .bl true, .str "5", .ref p1, .int (n : Int), .int (n : Int)]) := by rw [e1]; exact upd_same
    obtain ⟨p1d, p1c⟩ := dr.apart m1
    obtain ⟨p2d, p2c⟩ := (dr.mono t1).apart m2
    rw [← e1]
    clear e1
    refine ⟨d, c, .ref p2, 9, (fun _ v => oddN p1 v ∨ v = .int (n : Int)), rfl, dr.mono s01, .inl ⟨p2, _, rfl, p2d, p2c, h2p, rfl, fun i v hv => ?_⟩, by decide, by decide, fun i v H2 px dr2 k2 => ?_⟩
    · have mm := List.mem_of_getElem? hv
      simp only [List.mem_cons, List.not_mem_nil, or_false] at mm
      unfold oddN
      rcases mm with rfl | rfl | rfl | rfl | rfl | rfl | rfl | rfl | rfl <;> simp
    have kn : Keep d c H H2 := (Keep.of_same s01).trans k2
    have F2 : F04 T CF d c x p1 ts H H2 := ⟨dr2, tabs_keep tb dr kn, kn.n, fa.keepN dr kn.n, k2 _ _ p1d p1c h1p⟩
    refine nx_inF ?_
    refine asg_joinF (fun tv H' => F04 T CF d c x p1 ts H H' ∧ ((oddN p1 v ∧ ∃ p, tv = .ref p ∧ H' p = some (.tup [.str "users", .non])) ∨ (v = .int (n : Int) ∧ ∃ y', tv = .ref y' ∧ AAt CA H' y' x (List.replicate n "")))) (fun Q' kq => ?_) (fun tv H5 ⟨F5, h5⟩ => ?_)
    · refine ⟨F2.tb, fun H3 e3 t3 => ?_⟩
      have F3 := F2.ext e3 t3
      refine ⟨rfl, _, rfl, _, rfl, rfl, x, ts, v, rfl, F3.fa, o, ?_, ?_⟩
      · rcases px with px | rfl
        · exact (oddN_data (K := K) n1 n60 F3.h1 px).2.1
        · exact ⟨_, .int _⟩
      rcases px with px | rfl
      · rw [if_neg (by rw [(oddN_data (K := K) n1 n60 F3.h1 px).1]; decide)]
        exact fun H4 s4 => ⟨0, .non, by decide, by rw [eU], ⟨rfl, .inl rfl⟩, fun p H6 s6 np hp => kq _ _ ⟨(F3.same s4).same s6, .inl ⟨px, p, rfl, hp⟩⟩⟩
      · rw [if_pos (show usersOk (.int (n : Int)) 60 = true by show (decide (1 ≤ (n : Int)) && decide ((n : Int) ≤ 60)) = true; rw [decide_eq_true (by omega), decide_eq_true (by omega)] <;> rfl)]
        intro n' y' H4 en s4 ny aa
        obtain rfl : n' = n := by have := V.int.inj en; omega
        exact kq _ _ ⟨F3.same s4, .inr ⟨rfl, y', rfl, aa⟩⟩
    have ni : ShD K H5 (.int (n : Int)) (.int (n : Int)) := ⟨.dat (.int _) rfl, int_short (by omega) (by omega), int_shows (by omega) (by omega), by show 0 ≤ 3; decide, by show 0 ≤ 1000; decide⟩
    rcases h5 with ⟨px, p, rfl, hp⟩ | ⟨rfl, y', rfl, aa⟩
    · obtain ⟨_, _, da, sd, ne⟩ := oddN_data (K := K) n1 n60 F5.h1 px
      refine ⟨_, rfl, v, da, rfl, sd.dr, sd.ok, by have := sd.dep; omega, sd.fits, _, rfl, .int (n : Int), .int (n : Int), rfl, ni.dr, ni.ok, by have := ni.dep; omega, ni.fits, rfl, _, rfl, ?_⟩
      rw [decide_eq_false (show ¬ V.str da.shown = V.str (PyData.int (n : Int)).shown from fun z => ne (V.str.inj z))]
      show if true = true then _ else _
      rw [if_pos rfl]
      refine ⟨_, rfl, by show 2 ≤ sizeLine; omega, fun p' np' => ?_⟩
      have s5 := same_new (o := .tup [.str "users", .non]) np'
      have sh : SeqAt.shaped (.tuple [.str "users", .none]) = true := by decide +kernel
      refine ⟨.tuple [.str "users", .none], .tuple [.str "users", .none], .tup (SqT.of (s5 _ _ hp)) (.cons (.str _) (.cons .non .nil)), .tup (SqT.of upd_same) (.cons (.str _) (.cons .non .nil)), sh, sh, ?_⟩
      rw [SeqAt.eqv_refl _ (SeqAt.canLay_of_shaped sh)]
      have F6 := F5.same s5
      exact k _ F6.dr F6.tb F6.kn
    · refine ⟨_, rfl, .int (n : Int), .int (n : Int), rfl, ni.dr, ni.ok, by have := ni.dep; omega, ni.fits, _, rfl, .int (n : Int), .int (n : Int), rfl, ni.dr, ni.ok, by have := ni.dep; omega, ni.fits, rfl, _, rfl, ?_⟩
      rw [decide_eq_true rfl]
      refine iteF ?_
      obtain ⟨dy, pa, hy, hpa⟩ := id aa
      refine ⟨_, rfl, y', dy, _, rfl, hy, y', x, List.replicate n "", rfl, aa, fun p5 m5 => ?_⟩
      have s5 := same_new (o := .lst ((List.replicate n ("" : Str)).map V.str)) m5
      refine ⟨by show 1 ≤ sizeLine; omega, fun p6 m6 => ?_⟩
      have s6 := same_new (o := .lst [V.str ""]) m6
      refine ⟨_, rfl, p6, (n : Int), [.str ""], rfl, rfl, upd_same, by omega, by omega, by show 1 * _ ≤ sizeLine; omega, fun p7 m7 => ?_⟩
      have s7 := same_new (o := .lst (List.replicate ((n : Int)).toNat [V.str ""]).flatten) m7
      have el : (List.replicate ((n : Int)).toNat [V.str ""]).flatten = (List.replicate n ("" : Str)).map V.str := by
        rw [Int.toNat_natCast]
        exact rep_strs2 n ""
      have sh : SeqAt.shaped (.list ((List.replicate n ("" : Str)).map PyData.str)) = true := strs_shaped fun z hz => by rw [(List.mem_replicate.mp hz).2]; exact strOk_root
      refine ⟨.list ((List.replicate n ("" : Str)).map PyData.str), .list ((List.replicate n ("" : Str)).map PyData.str), .lst (SqL.of (s7 _ _ (s6 _ _ upd_same))) (dps_strs _), .lst (SqL.of (by rw [upd_same, el])) (dps_strs _), sh, sh, ?_⟩
      rw [SeqAt.eqv_refl _ (SeqAt.canLay_of_shaped sh)]
      have F6 := ((F5.same s5).same s6).same s7
      exact k _ F6.dr F6.tb F6.kn
end
end FT


/-! _law_other_parents: a tree with another parent -/
namespace FT
open PySem L2 TL ClX LiI
def setP (t : List (Str × Str)) (a z : Str) : List (Str × Str) := t.map fun p => if p.1 = a then (p.1, z) else p
theorem setP_keys (t : List (Str × Str)) (a z : Str) : (setP t a z).map Prod.fst = t.map Prod.fst := by
  unfold setP
  rw [List.map_map]
  refine List.map_congr_left fun p _ => ?_
  show (if p.1 = a then (p.1, z) else p).1 = p.1
  split <;> rfl
theorem setP_mem {t : List (Str × Str)} {a z : Str} {q : Str × Str} (h : q ∈ setP t a z) : q ∈ t ∨ (q.1 = a ∧ q.2 = z ∧ q.1 ∈ t.map Prod.fst) := by
  obtain ⟨p, hp, rfl⟩ := List.mem_map.mp h
  by_cases e : p.1 = a
  · rw [if_pos e]
    exact .inr ⟨e, rfl, List.mem_map.mpr ⟨p, hp, rfl⟩⟩
  · rw [if_neg e]
    exact .inl hp
theorem put_prs {t : List (Str × Str)} {a z : Str} (h : a ∈ t.map Prod.fst) : putK (prs t) (Sum.inr a) (.str z) = prs (setP t a z) := by
  unfold prs
  rw [kvT_putT]
  unfold putT
  rw [if_pos (by rw [prs_fst]; exact h)]
  unfold setP
  rw [List.map_map, List.map_map]
  congr 1
  refine List.map_congr_left fun p _ => ?_
  show (if p.1 = a then (p.1, V.str z) else (p.1, V.str p.2)) = ((if p.1 = a then (p.1, z) else p).1, V.str (if p.1 = a then (p.1, z) else p).2)
  split <;> rfl
theorem setP_root {t : List (Str × Str)} (o : TreeOk t) (a : Str) : TreeOk (setP t a "") := by
  obtain ⟨rk, r⟩ := o.up
  have l : (setP t a "").length = t.length := List.length_map _
  refine ⟨by rw [l]; exact o.one, by rw [l]; exact o.few, by rw [setP_keys]; exact o.nd, by rw [setP_keys]; exact o.nm, rk, fun q hq => ?_⟩
  rw [l, setP_keys]
  rcases setP_mem hq with h | ⟨_, h2, h3⟩
  · exact r q h
  · obtain ⟨p, hp, e⟩ := List.mem_map.mp h3
    rw [← e]
    exact ⟨(r p hp).1, .inl h2⟩
theorem setP_flat {t : List (Str × Str)} (o : TreeOk t) (flat : ∀ q ∈ t, q.2 = ("" : Str)) {a b : Str} (ha : a ∈ t.map Prod.fst) (ne : a ≠ b) (two : 2 ≤ t.length) : TreeOk (setP t b a) := by
  have l : (setP t b a).length = t.length := List.length_map _
  refine ⟨by rw [l]; exact o.one, by rw [l]; exact o.few, by rw [setP_keys]; exact o.nd, by rw [setP_keys]; exact o.nm, fun x => if x = b then 1 else 0, fun q hq => ?_⟩
  rw [l, setP_keys]
  refine ⟨by show (if q.1 = b then 1 else 0) < t.length; split <;> omega, ?_⟩
  rcases setP_mem hq with h | ⟨h1, h2, h3⟩
  · exact .inl (flat q h)
  · refine .inr ⟨by rw [h2]; exact ha, ?_⟩
    show (if q.2 = b then 1 else 0) < (if q.1 = b then 1 else 0)
    rw [h1, h2, if_neg ne, if_pos rfl]
    decide
def spOtherP : Sp := fun vs H Q _ => ∃ (q : Addr) (t : List (Str × Str)), vs = [.ref q] ∧ H q = some (.dK (prs t)) ∧ TreeOk t ∧ (∀ H', Same H H' → Q .non H') ∧
  ∀ (p : Addr) (t' : List (Str × Str)) (H' : Hp), Same H H' → H p = none → H' p = some (.dK (prs t')) → TreeOk t' → eqDK (prs t') (prs t) = false → t'.map Prod.fst = t.map Prod.fst → Q (.ref p) H'
section
variable {P : Program} {w : World} {K : PySem.W.Frag} {mg : Str → Option Value} {base : Heap}
abbrev NOp : List Str := ["_law_above", "_law_found", "_law_flags", "_law_lower", "_law_flag"]
theorem scOp : FnScope NOp ["_law_above"] (defScope s__law_other_parents) := ⟨rfl, rfl, rfl, by decide +kernel, rfl, by decide +kernel, by decide +kernel⟩
theorem ok_otherP {f : Addr} {fd : FuncData} (F : Fun K "_law_other_parents" "_law_other_parents" s__law_other_parents f fd) (T : Nm mg) : FnOk P w K mg base CX0 1 f fd ["_law_above"] spOtherP := by
  refine F.ok scOp (fun vs H Q E h => ?_) (fun cdv A outer s H vs Q E hr h => ?_)
  · obtain ⟨q, t, rfl, _⟩ := h
    rfl
  · obtain ⟨q, t, rfl, hq, o, kn, kp⟩ := h
    have hu := hu_of hr
    have nd := scOp.nd
    have big : 1000 ≤ sizeLine := by decide
    have few := o.few
    refine ⟨_, pss_cons (ps_par (i := 1) (j := 2) rfl nd rfl rfl (by decide) rfl rfl (pa_cons (pe_callTy call_dictD (by rfl) T.dct (by decide +kernel) (pa_cons (pv 0) pa_nil)) (pa_cons (pe_callB (call_sortedD rfl) (by rfl) T.srt (by decide +kernel) (pa_cons (pv 0) pa_nil)) pa_nil)) (by rfl))
      (pss_cons (ps_setLc (i := 3) (own := [("_law_flag", 4)]) (g := gName 4) (tt := tTest (tOp rNe (tDGet (tVar 0) (tVar 4)) (tC (.str "")))) (te := tVar 4) rfl nd rfl rfl (sw_true rfl rfl rfl (by decide +kernel)) (pi_list (pv 2))
          (blkOk_by (N := NOp) (sc := defScope s__law_other_parents) (by decide +kernel)) (fun _ _ _ _ _ => pg_name (i := 4) nd rfl (Or.inl rfl)) (fun _ _ _ _ _ => pts_one (pt_cmpR op_ne (pe_dget hu (pv 0) (pv 4) (fun _ _ => rfl)) pe_str (nomark _))) (fun _ _ _ _ _ => pv 4))
      (pss_cons (ps_if (pt_cmpR (op_neD hr.units) (pv 3) (pe_lst pa_nil) (nomark _)) (pss_one (ps_dput hu (pv 1) (pe_ix ix_list (pv 3) pe_int (fun _ _ => rfl)) pe_str rfl))
          (pss_one (ps_if (pt_cmpR op_gt (pe_callB call_len_seq (by rfl) T.len PySem.boot_len (pa_cons (pv 2) pa_nil)) pe_int (nomark _)) (pss_one (ps_dput hu (pv 1) (pe_ix ix_list (pv 2) pe_int (fun _ _ => rfl)) (pe_ix ix_list (pv 2) pe_int (fun _ _ => rfl)) rfl)) pss_nil)))
      (pss_one (ps_ret (pe_ifExp (pt_cmpR (op_ne_dictC (Nat.lt_of_succ_lt hu)) (pv 1) (pv 0) (nomark _)) (pv 1) pe_non))))), ?_⟩
    refine ⟨_, rfl, q, _, rfl, .inl hq, fun pf npf => ?_⟩
    have s1 := same_new (o := .dK (prs t)) npf
    refine ⟨_, rfl, q, prs t, t.map Prod.fst, rfl, .inl (s1 _ _ hq), prs_keys t, by rw [List.length_map]; omega, fun ks pn pks srt npn => ⟨_, _, rfl, ?_⟩⟩
    have s2 := same_new (o := .lst (ks.map V.str)) npn
    have lks := pks.length_eq
    rw [List.length_map] at lks
    obtain ⟨H2, e2⟩ : ∃ X, X = upd (upd H pf (.dK (prs t))) pn (.lst (ks.map V.str)) := ⟨_, rfl⟩
    have s02 : Same H H2 := e2 ▸ s1.trans s2
    have hpf2 : H2 pf = some (.dK (prs t)) := by rw [e2]; exact s2 _ _ upd_same
    have hpn2 : H2 pn = some (.lst (ks.map V.str)) := by rw [e2]; exact upd_same
    have hq2 := s02 _ _ hq
    rw [← e2]
    clear e2
    have fin : ∀ (H' : Hp) (t' : List (Str × Str)) (u3 u4 : Option V), Same H H' → H' pf = some (.dK (prs t')) → TreeOk t' → t'.map Prod.fst = t.map Prod.fst → tRet (tIf (tTest (tOp rNeDC (tVar 1) (tVar 0))) (tVar 1) (tC .non)) { nx := fun _ H' => Q .non H', rt := Q } [some (.ref q), some (.ref pf), some (.ref pn), u3, u4] H' := by
      intro H' t' u3 u4 s' hp o' ek
      refine ⟨_, rfl, _, rfl, pf, q, _, _, rfl, rfl, hp, s' _ _ hq, prs_flat _, prs_flat _, _, rfl, ?_⟩
      cases e : eqDK (prs t') (prs t) with
      | false => exact iteT ⟨_, rfl, kp pf t' H' s' npf hp o' e ek⟩
      | true => exact iteF (kn H' s')
    -- the lower ones
    refine ⟨_, rfl, pn, rfl, ⟨_, SqL.of hpn2⟩, fun D nD => ?_⟩
    obtain ⟨lows, elo⟩ : ∃ lows : List Str → List Str, lows = fun l => l.filter fun b => !decide (par t b = some ("" : Str)) := ⟨_, rfl⟩
    have lowl : ∀ l : List Str, l.length ≤ 12 → (lows l).length ≤ 12 := fun l h => by
      rw [elo]
      exact Nat.le_trans (List.length_filter_le _ _) h
    refine lc_it walk_list (fun j H' => Same H2 H' ∧ H' D = some (.lst ((lows (ks.take j)).map V.str))) ⟨same_new nD, by rw [upd_same, List.take_zero, elo] <;> rfl⟩ (fun j H' _ z => SqL.of (z.1 _ _ hpn2)) ?_ ?_
    · intro j yv Hx Hy hj ⟨q1, hD⟩ ⟨eb, ex⟩
      subst eb
      obtain ⟨b, hb, rfl⟩ := map_of (f := V.str) (l := ks) ex
      have mb := pks.mem_iff.mp (List.mem_of_getElem? hb)
      obtain ⟨p, hpar⟩ := par_some o.nd mb
      have nxt := take_more hb
      refine ⟨rfl, ?_⟩
      refine ⟨_, rfl, _, rfl, q, .str p, rfl, dget_prs (.inl (q1 _ _ hq2)) hpar, rfl, _, rfl, ?_⟩
      by_cases e : p = ""
      · rw [decide_eq_true (show V.str p = V.str "" by rw [e])]
        refine iteF ⟨q1, ?_⟩
        rw [hD, nxt, elo]
        show _ = some (HO.lst ((List.filter _ _).map V.str))
        rw [List.filter_append, List.filter_cons, decide_eq_true (by rw [hpar, e]), List.filter_nil, if_neg (by decide), List.append_nil]
      · rw [decide_eq_false (show ¬ V.str p = V.str "" from fun z => e (V.str.inj z))]
        refine iteT ⟨_, rfl, _, hD, ?_, q1.put nD, ?_⟩
        · rw [List.length_map]
          have := lowl (ks.take j) (by rw [List.length_take]; omega)
          omega
        · rw [upd_same, nxt, elo]
          show _ = some (HO.lst ((List.filter _ _).map V.str))
          rw [List.filter_append, List.map_append, List.filter_cons, decide_eq_false (by rw [hpar]; exact fun z => e (Option.some.inj z)), List.filter_nil] <;> rfl
    intro H3 ⟨q1, hD⟩
    rw [List.length_map, List.take_length] at hD
    have hpf3 := q1 _ _ hpf2
    have hpn3 := q1 _ _ hpn2
    have s03 := s02.trans q1
    have okl : ∀ z ∈ lows ks, z ∈ t.map Prod.fst := fun z hz => by
      rw [elo] at hz
      exact pks.mem_iff.mp (List.mem_filter.mp hz).1
    refine ⟨_, rfl, by show 0 ≤ sizeLine; omega, fun z nz => ⟨.list ((lows ks).map PyData.str), .list [], .lst (SqL.of (by rw [upd_ne (ne_of_none hD nz)]; exact hD)) (dps_strs _), .lst (SqL.of upd_same) .nil, strs_shaped (fun z hz => strOk_name (o.nm _ (okl z hz))), rfl, ?_⟩⟩
    have sz := same_new (o := .lst []) nz
    obtain ⟨H4, e4⟩ : ∃ X, X = upd H3 z (.lst []) := ⟨_, rfl⟩
    have s34 : Same H3 H4 := e4 ▸ sz
    have s04 := s03.trans s34
    have hpf4 := s34 _ _ hpf3
    have hpn4 := s34 _ _ hpn3
    have hD4 := s34 _ _ hD
    rw [← e4]
    clear e4
    have putS : ∀ {o : HO}, Same H (upd H4 pf o) := fun {o} => s04.put npf
    refine ⟨_, rfl, ite2 (fun yes => ?_) (fun no => ?_)⟩
    · have ne : lows ks ≠ [] := fun z => by rw [z] at yes; cases yes
      obtain ⟨b, bs, eb⟩ := List.exists_cons_of_ne_nil ne
      have mb := okl b (by rw [eb]; exact List.mem_cons_self ..)
      rw [eb] at hD4
      refine ⟨_, rfl, _, rfl, D, _, _, .str b, rfl, rfl, SqL.of hD4, atI_nat (xs := (b :: bs).map V.str) (j := 0) rfl, pf, _, rfl, DPut.k (k := Sum.inr b) hpf4 (by rw [prs_len]; omega), ?_⟩
      rw [put_prs mb]
      exact fin _ (setP t b "") _ none putS upd_same (setP_root o b) (setP_keys t b "")
    · have nil : lows ks = [] := by
        cases e : lows ks with
        | nil => rfl
        | cons y r =>
          rw [e] at no
          exact absurd rfl no
      have flat : ∀ p ∈ t, p.2 = ("" : Str) := fun p hp => by
        have m : p.1 ∈ ks := pks.mem_iff.mpr (List.mem_map.mpr ⟨p, hp, rfl⟩)
        have hpar := par_of o.nd (a := p.1) (z := p.2) hp
        rw [elo] at nil
        have z := List.filter_eq_nil_iff.mp nil p.1 m
        rw [hpar] at z
        by_cases e : p.2 = ""
        · exact e
        · exact absurd (by rw [decide_eq_false fun y => e (Option.some.inj y)] <;> rfl) z
      refine ⟨_, rfl, pn, _, rfl, .inl (SqL.of hpn4), _, _, rfl, rfl, _, rfl, ite2 (fun two => ?_) (fun one => ?_)⟩
      · have two : 1 < ks.length := by
          have z := of_decide_eq_true two
          rw [List.length_map] at z
          omega
        match ks, two, pks, lks, hpn4 with
        | a :: b :: r, _, pks, lks, hpn4 =>
          have ndk : (a :: b :: r).Nodup := pks.nodup_iff.mpr o.nd
          have ne : a ≠ b := fun z => by
            subst z
            exact (List.nodup_cons.mp ndk).1 (List.mem_cons_self ..)
          have ma := pks.mem_iff.mp (List.mem_cons_self ..)
          have mb := pks.mem_iff.mp (List.mem_cons_of_mem _ (List.mem_cons_self ..))
          have l2 : 2 ≤ t.length := by
            rw [← lks]
            show 2 ≤ r.length + 1 + 1
            omega
          refine ⟨_, rfl, pn, _, _, .str a, rfl, rfl, SqL.of hpn4, atI_nat (xs := (a :: b :: r).map V.str) (j := 0) rfl, _, rfl, _, rfl, pn, _, _, .str b, rfl, rfl, SqL.of hpn4, atI_nat (xs := (a :: b :: r).map V.str) (j := 1) rfl, pf, _, rfl, DPut.k (k := Sum.inr b) hpf4 (by rw [prs_len]; omega), ?_⟩
          rw [put_prs mb]
          exact fin _ (setP t b a) _ none putS upd_same (setP_flat o flat ma ne l2) (setP_keys t b a)
      · exact fin H4 t _ none s04 hpf4 o rfl
end
end FT


/-! plain: trees as dicts, equal or not -/
namespace FT
open PySem L2 TL ClX LiI
theorem perm_sub {α : Type} [DecidableEq α] : ∀ {a b : List α}, a.Nodup → (∀ x ∈ a, x ∈ b) → b.length ≤ a.length → a.Perm b
  | [], b, _, _, l => by
    have : b = [] := List.length_eq_zero_iff.mp (by simpa using l)
    rw [this]
  | x :: a, b, nd, h, l => by
    obtain ⟨n1, n2⟩ := List.nodup_cons.mp nd
    have mx := h x (List.mem_cons_self ..)
    refine List.Perm.trans ?_ (List.perm_cons_erase mx).symm
    refine List.Perm.cons x (perm_sub n2 (fun y hy => ?_) ?_)
    · exact (List.mem_erase_of_ne fun e => n1 (by rw [← e]; exact hy)).mpr (h y (List.mem_cons_of_mem _ hy))
    · rw [List.length_erase_of_mem mx]
      rw [List.length_cons] at l
      omega
theorem nd_pairs {t : List (Str × Str)} (nd : (t.map Prod.fst).Nodup) : t.Nodup := by
  rw [List.nodup_iff_pairwise_ne] at nd ⊢
  exact (List.pairwise_map.mp nd).imp fun h e => h (by rw [e])
theorem rowEq_prs {t : List (Str × Str)} (a z : Str) : rowEq (prs t) (Sum.inr a, V.str z) = decide (par t a = some z) := by
  unfold rowEq
  show (match valV (prs t) (Sum.inr a) with | some u => eqV (.str z) u | none => false) = _
  rw [val_prs]
  cases h : par t a with
  | none => rfl
  | some p =>
    show eqV (.str z) (.str p) = decide (some p = some z)
    by_cases e : p = z
    · rw [e, decide_eq_true rfl]
      simp [eqV]
    · rw [decide_eq_false fun y => e (Option.some.inj y)]
      simp [eqV]
      exact fun y => e y.symm
theorem eqDK_iff {a b : List (Str × Str)} (na : (a.map Prod.fst).Nodup) (nb : (b.map Prod.fst).Nodup) : eqDK (prs a) (prs b) = true ↔ a.Perm b := by
  unfold eqDK
  rw [Bool.and_eq_true, prs_len, prs_len, List.all_eq_true]
  constructor
  · rintro ⟨h1, h2⟩
    refine perm_sub (nd_pairs na) (fun p hp => ?_) (Nat.le_of_eq (by simpa using (of_decide_eq_true h1 : a.length = b.length).symm))
    have m : (Sum.inr p.1, V.str p.2) ∈ prs a := by
      unfold prs kvT
      rw [List.map_map]
      exact List.mem_map.mpr ⟨p, hp, rfl⟩
    have z := h2 _ m
    rw [rowEq_prs, decide_eq_true_eq] at z
    exact par_mem z
  · intro h
    refine ⟨by rw [h.length_eq]; simp, fun p hp => ?_⟩
    unfold prs kvT at hp
    rw [List.map_map] at hp
    obtain ⟨q, hq, rfl⟩ := List.mem_map.mp hp
    show rowEq (prs b) (Sum.inr q.1, V.str q.2) = true
    rw [rowEq_prs, decide_eq_true_eq]
    exact par_of nb (h.mem_iff.mp hq)
theorem eqDK_no {a b a' b' : List (Str × Str)} (oa : TreeOk a) (ob : TreeOk b) (pa : a'.Perm a) (pb : b'.Perm b) (h : eqDK (prs a) (prs b) = false) : eqDK (prs a') (prs b') = false ∧ eqDK (prs b') (prs a') = false := by
  have na' := (oa.perm pa.symm).nd
  have nb' := (ob.perm pb.symm).nd
  have no : ¬ a.Perm b := fun p => by
    rw [(eqDK_iff oa.nd ob.nd).mpr p] at h
    cases h
  constructor
  · cases e : eqDK (prs a') (prs b') with
    | false => rfl
    | true => exact absurd (pa.symm.trans (((eqDK_iff na' nb').mp e).trans pb)) no
  · cases e : eqDK (prs b') (prs a') with
    | false => rfl
    | true => exact absurd (pa.symm.trans (((eqDK_iff nb' na').mp e).symm.trans pb)) no
end FT


namespace FT
open PySem L2 TL ClX LiI
/-- the pair of a text and its number -/
def pairZ (g : Str → Int) (a : Str) : PyData := .tuple [.str a, .int (g a)]
theorem pairZ_lay {g : Str → Int} : ∀ {fl : List Str}, (∀ a ∈ fl, PyData.strOk a = true) → PyData.canLayAll0 (fl.map (pairZ g)) = true ∧ PyData.depthAll (fl.map (pairZ g)) ≤ 1
  | [], _ => ⟨rfl, Nat.zero_le _⟩
  | a :: fl, h => by
    obtain ⟨h1, h2⟩ := pairZ_lay (g := g) (fl := fl) fun b hb => h b (List.mem_cons_of_mem _ hb)
    have ok := h a (List.mem_cons_self ..)
    constructor
    · show ((PyData.strOk a && (true && true)) && PyData.canLayAll0 (fl.map (pairZ g))) = true
      rw [ok, h1] <;> rfl
    · show max (max 0 (max 0 0) + 1) (PyData.depthAll (fl.map (pairZ g))) ≤ 1
      omega
theorem pairZ_shaped {g : Str → Int} {fl : List Str} (h : ∀ a ∈ fl, PyData.strOk a = true) : (PyData.list (fl.map (pairZ g))).canLay0 = true ∧ SeqAt.shaped (.list (fl.map (pairZ g))) = true := by
  obtain ⟨h1, h2⟩ := pairZ_lay (g := g) h
  have c : (PyData.list (fl.map (pairZ g))).canLay0 = true := h1
  refine ⟨c, ?_⟩
  unfold SeqAt.shaped
  rw [c]
  have d : (PyData.list (fl.map (pairZ g))).depth ≤ 64 := by
    show PyData.depthAll (fl.map (pairZ g)) + 1 ≤ 64
    omega
  rw [decide_eq_true d] <;> rfl
theorem tblI_items {K : PySem.W.Frag} {H : Hp} {g : Str → Int} : ∀ {fl : List Str} {rs : List Addr}, Paired (fun (t : Addr) (q : Key × V) => H t = some (.tup [kV q.1, q.2])) rs (tblI fl g) → DpAll K H (rs.map V.ref) (fl.map (pairZ g))
  | [], [], _ => .nil
  | a :: fl, r :: rs, .cons h t => .cons (.tup (.inl (.inl h)) (.cons (.str a) (.cons (.int _) .nil))) (tblI_items t)
end FT


/-! paired lists -/
namespace FT
open PySem L2 TL ClX LiI
theorem pair_impW {α β : Type} {F G : α → β → Prop} (m : ∀ x y, F x y → G x y) : ∀ {xs : List α} {ys : List β}, Paired F xs ys → Paired G xs ys
  | _, _, .nil => .nil
  | _, _, .cons h t => .cons (m _ _ h) (pair_impW m t)
end FT


/-! _law_made_right of k04 -/
namespace FT
open PySem L2 TL ClX LamX NdefX LiI
def rDClear4 : V → List V → Hp → VK → Prop := fun x vs H Q => ∃ (d : Addr) (kvs : List (Key × V)), x = .ref d ∧ vs = [] ∧ H d = some (.dK kvs) ∧ Q .non (upd H d (.dK []))
theorem mt_dclear4 {X : Cx} : MtR X "dict.clear" rDClear4 := by
  intro pins s σ H x vs v us Q I rx rv h
  obtain ⟨d, kvs, rfl, rfl, hd, q⟩ := h
  cases rx
  have hus := rv.zero
  subst hus
  exact d_clear I hd fun s' I' => ⟨.non, _, I', rfl, q⟩
structure L4R (P : Program) (w : World) (K : PySem.W.Frag) (mg : Str → Option Value) (base : Heap) (T : List (Addr × Str)) (CF CA CN CY d c : Addr) (mc mcA : Value) (f g : Nat → Addr) (fd : Nat → FuncData) : Prop where
  Z : Fc K mg CF mc
  B : Ac K mg CA mcA
  dt : Dn P w K mg base CX0 1 "_law_take" ["_law_draw", "_law_size"] spDraw (f 0) (fd 0)
  dp : Dn P w K mg base CX0 2 "_law_pick" ["_law_draw", "_law_some"] (spPick K) (f 1) (fd 1)
  od : Dn P w K mg base CX0 2 "_law_order" ["_law_draw", "_law_some"] (spOrder K) (f 2) (fd 2)
  cd : Dn P w K mg base CX0 2 "_law_counted" ["_law_above", "_law_spots_here"] spCountE (f 3) (fd 3)
  op : Dn P w K mg base CX0 1 "_law_other_parents" ["_law_above"] spOtherP (f 4) (fd 4)
  fi : FnOk P w K mg base CX0 3 (f 5) (fd 5) ["self", "parents"] (spFInit CF)
  fim : Mk K CF (f 5)
  fib : Binds K (fd 5) ["self", "parents"] []
  ai : FnOk P w K mg base CX0 1 (f 6) (fd 6) ["self", "forest", "places"] (spAInit CF CA)
  aim : Mk K CA (f 6)
  aib : Binds K (fd 6) ["self", "forest", "places"] []
  pP : PrN P w K mg base 1 CA "places" (spAPlaces CA) (g 0) (f 7) (fd 7)
  pF : PrN P w K mg base 1 CA "forest" (spAForest CA) (g 1) (f 8) (fd 8)
  pT : PrN P w K mg base 1 CA "total" (spATotal CA) (g 2) (f 9) (fd 9)
  pS : PrN P w K mg base 4 CA "sizes" (spASizes CF CA) (g 3) (f 10) (fd 10)
  feq : FnOk P w K mg base CX0 1 (f 11) (fd 11) ["self", "other"] (spEqOl (RFoL CF))
  feqa : PySem.W.findIn K (.ref CF) "__eq__" = some (some (.ref (f 11)))
  feqf : PySem.W.isFn K (.ref (f 11)) = true
  feqb : Binds K (fd 11) ["self", "other"] []
  eq : FnOk P w K mg base CX0 2 (f 12) (fd 12) ["self", "other"] (spEqOl (RAsL CF CA))
  eqa : PySem.W.findIn K (.ref CA) "__eq__" = some (some (.ref (f 12)))
  eqf : PySem.W.isFn K (.ref (f 12)) = true
  eqb : Binds K (fd 12) ["self", "other"] []
  us : Mt P w K mg base (L2.CX P w) 4 CA "users_of" ["self", "name"] (spAUsersE K CF CA CN) (f 13) (fd 13)
  at_ : Mt P w K mg base (L2.CX P w) 4 CA "at" ["self", "place"] (spAAtE K CF CA CN) (f 14) (fd 14)
  ak : FnG P w K mg base CX0 7 (f 15) (fd 15) ["_law_sample", "_law_above", "_law_spots_here", "_law_who", "_law_word"] (spAsk T CF CA d c)
  akm : mg "_law_asked_right" = some (.ref (f 15))
  akk : PySem.W.keepIn K (.ref (f 15)) = true
  akb : Binds K (fd 15) ["_law_sample", "_law_above", "_law_spots_here", "_law_who", "_law_word"] []
  mv : FnG P w K mg base CX0 7 (f 16) (fd 16) ["_law_sample", "_law_above", "_law_spots_here", "_law_who", "_law_word", "_law_more"] (spMvR T CF CA d c)
  mvm : mg "_law_moved_right" = some (.ref (f 16))
  mvk : PySem.W.keepIn K (.ref (f 16)) = true
  mvb : Binds K (fd 16) ["_law_sample", "_law_above", "_law_spots_here", "_law_who", "_law_word", "_law_more"] []
theorem szZ_szL4 (ts : List (Str × Str)) : ∀ zs : List Str, szZ ts zs = szL ts zs
  | [] => rfl
  | z :: zs => by
    funext a
    rw [szL_cons, ← szZ_szL4 ts zs]
    unfold szZ bz inB
    rw [List.filter_cons]
    by_cases m : a ∈ pathOf ts z
    · rw [decide_eq_true m, if_pos rfl, if_pos rfl, List.length_cons]
      omega
    · rw [decide_eq_false m, if_neg (by decide), if_neg (by decide)]
      omega
theorem szL_perm4 {t ts : List (Str × Str)} (o : TreeOk ts) (p : ts.Perm t) (zs : List Str) : szL t zs = szL ts zs := by
  rw [← szZ_szL4, ← szZ_szL4]
  funext a
  unfold szZ
  simp only [path_perm o.nd p]
theorem mk_asg {CF CA : Addr} {σ : St} {H : Hp} {Q : VK} {q ls : Addr} {t : List (Str × Str)} {zs : List Str} {i j : Nat} (hi : σ[i]? = some (some (.ref q))) (hj : σ[j]? = some (some (.ref ls))) (hq : H q = some (.dK (prs t))) (o : TreeOk t) (hl : H ls = some (.lst (zs.map V.str))) (n1 : 1 ≤ zs.length) (n60 : zs.length ≤ 60) (pl : ∀ z ∈ zs, Pl t z)
    (k : ∀ (y' x' : Addr) (us : List (Str × Str)) (H' : Hp), Same H H' → us.Perm t → AAt CA H' y' x' zs → FAt CF H' x' us → Q (.ref y') H') :
    tMake CA (spAInit CF CA) [] E0 (tCons (tMake CF (spFInit CF) [] E0 (tCons (tVar i) tNil)) (tCons (tVar j) tNil)) σ H Q := by
  refine ⟨_, hi, fun x dx nx ndx nxd => ?_⟩
  have sN : Same H (upd (upd H dx (.own x)) x (.ins CF dx [])) := fun b u e => by
    rw [upd_ne (ne_of_none e nx), upd_ne (ne_of_none e ndx)]
    exact e
  refine ⟨x, q, dx, t, rfl, upd_same, sN _ _ hq, o, fun H5 us pts asc fa5 oth => ⟨rfl, _, hj, fun y dy ny ndy nyd => ?_⟩⟩
  have s45 : Same H H5 := fun b u e => oth b u (ne_of_none e nx) (sN _ _ e)
  have ot : TreeOk us := o.perm pts.symm
  have pk : (us.map Prod.fst).Perm (t.map Prod.fst) := pts.map _
  have sN1 : Same H5 (upd (upd H5 dy (.own y)) y (.ins CA dy [])) := fun b u e => by
    rw [upd_ne (ne_of_none e ny), upd_ne (ne_of_none e ndy)]
    exact e
  refine ⟨y, x, ls, dy, us, zs, rfl, upd_same, fa5.mono sN1, ot, sN1 _ _ (s45 _ _ hl), n1, n60, fun z hz => (pl z hz).imp id fun m => pk.mem_iff.mpr m, fun H6 aa6 oth2 => ⟨rfl, ?_⟩⟩
  have s56 : Same H5 H6 := fun b u e => oth2 b u (ne_of_none e ny) (sN1 _ _ e)
  exact k y x us H6 (s45.trans s56) pts aa6 (fa5.mono s56)
theorem seq_join {t rest : TS} {D : Ends} {σ : St} {H : Hp} (R : St → Hp → Prop) (h : ∀ D' : Ends, (∀ σ' H', R σ' H' → D'.nx σ' H') → t D' σ H) (k : ∀ σ' H', R σ' H' → rest D σ' H') : tSeq t rest D σ H := h _ fun σ' H' r => k σ' H' r
structure R04 (T : List (Addr × Str)) (CF CA d c y x q ls : Addr) (t ts : List (Str × Str)) (zs : List Str) (H : Hp) : Prop where
  dr : DrawAt H d c
  tb : Tabs T H
  aa : AAt CA H y x zs
  fa : FAt CF H x ts
  hq : H q = some (.dK (prs t))
  hl : H ls = some (.lst (zs.map V.str))
section
variable {T : List (Addr × Str)} {CF CA d c y x q ls : Addr} {t ts : List (Str × Str)} {zs : List Str} {H H' : Hp}
theorem R04.same (h : R04 T CF CA d c y x q ls t ts zs H) (s : Same H H') : R04 T CF CA d c y x q ls t ts zs H' := ⟨h.dr.mono s, h.tb.ext s, h.aa.mono s, h.fa.mono s, s _ _ h.hq, s _ _ h.hl⟩
theorem R04.keep (h : R04 T CF CA d c y x q ls t ts zs H) (l1 : ls ≠ d) (l2 : ls ≠ c) (dr : DrawAt H' d c) (k : Keep d c H H') : R04 T CF CA d c y x q ls t ts zs H' :=
  ⟨dr, tabs_keep h.tb h.dr k, h.aa.keepN h.dr k.n, h.fa.keepN h.dr k.n, k.n.dk h.dr h.hq, k _ _ l1 l2 h.hl⟩
theorem R04.extN (h : R04 T CF CA d c y x q ls t ts zs H) (e : ExtN H H') (tb : Tabs T H') : R04 T CF CA d c y x q ls t ts zs H' :=
  ⟨h.dr.ext e, tb, h.aa.extN e, h.fa.extN e, e _ _ h.hq (fun ps z => nomatch z), e _ _ h.hl (fun ps z => nomatch z)⟩
end
def spMade (T : List (Addr × Str)) (CF CA d c : Addr) : Sp := fun vs H Q _ => ∃ (y x q a dy p : Addr) (m : Nat) (t ts : List (Str × Str)) (zs : List Str), vs = [.ref d, .ref y, .ref x, .ref q, .ref a, .int (m : Int)] ∧ DrawAt H d c ∧ Tabs T H ∧ H y = some (.ins CA dy [("own_forest", .ref x), ("own_places", .ref p)]) ∧ H p = some (.lst (zs.map V.str)) ∧ p ≠ a ∧ FAt CF H x ts ∧ H q = some (.dK (prs t)) ∧ TreeOk t ∧ TreeOk ts ∧ ts.Perm t ∧ Asc ts ∧
  SeqAt H a (zs.map V.str) ∧ a ≠ d ∧ a ≠ c ∧ (∀ z ∈ zs, Pl ts z) ∧ 1 ≤ zs.length ∧ zs.length ≤ 60 ∧ m ≤ 60 ∧ ∀ H', DrawAt H' d c → Tabs T H' → FAt CF H' x ts → Q (.bl true) H'
abbrev NMd : List Str := ["_law_draw", "_law_told_here", "_law_grove", "_law_above", "_law_item", "_law_at", "_law_spots_here", "_law_first", "_law_once", "_law_moved", "_law_who", "_law_word", "_law_more"]
section
variable {P : Program} {w : World} {K : PySem.W.Frag} {mg : Str → Option Value} {base : Heap}
theorem scMd : FnScope NMd ["_law_draw", "_law_told_here", "_law_grove", "_law_above", "_law_item", "_law_at"] (defScope s__law_made_right) := ⟨rfl, rfl, rfl, by decide +kernel, rfl, by decide +kernel, by decide +kernel⟩
theorem ok_made {f0 CF CA CN CY d c : Addr} {mc mcA : Value} {T : List (Addr × Str)} {f g : Nat → Addr} {fd : Nat → FuncData} {fd0 : FuncData} (F : Fun K "_law_made_right" "_law_made_right" s__law_made_right f0 fd0) (N : Nm mg) (L : L4R P w K mg base T CF CA CN CY d c mc mcA f g fd) :
    FnG P w K mg base CX0 8 f0 fd0 ["_law_draw", "_law_told_here", "_law_grove", "_law_above", "_law_item", "_law_at"] (spMade T CF CA d c) := by
  refine F.okG scMd (fun vs H Q E h => ?_) (fun cdv A outer s H vs Q E clr hr h => ?_)
  · obtain ⟨y, x, q, a, dy, p, m, t, ts, zs, rfl, _⟩ := h
    rfl
  · obtain ⟨y, x, q, a, dy, p, m, t, ts, zs, rfl, dr, tb, hy, hp, pa, fa, hq, o, ots, pt, asc, hs, ad, ac, pl, n1, n60, ml, k⟩ := h
    have hr1 : Room 1 _ := hr.mono (by decide)
    have hr2 : Room 2 _ := hr.mono (by decide)
    have hr4 : Room 4 _ := hr.mono (by decide)
    have hr5 : Room 5 _ := hr.mono (by decide)
    have nd := scMd.nd
    have big : 4000 ≤ sizeLine := by decide
    refine ⟨_, pss_cons (ps_par (i := 6) (j := 7) rfl nd rfl rfl (by decide) rfl rfl (pa_cons (pe_callTy call_list_of (by rfl) N.lst (by decide +kernel) (pa_cons (pv 4) pa_nil)) (pa_cons (pe_call L.cd.ok hr2 rfl L.cd.mgn L.cd.kp L.cd.bn .nil pass0 (pa_cons (pv 3) (pa_cons (pv 4) pa_nil))) pa_nil)) (by rfl))
      (pss_cons (ps_if (pt_val (pe_callB call_isi (by rfl) N.isi (by decide +kernel) (pa_cons (pv 4) (pa_cons (pe_bltn (v := .ty "list") (u := .type "list") (by rfl) N.lst (by decide +kernel) rfl) pa_nil)))) (pss_one (ps_expr (pe_bm PySem.F.plainAttrs_list PySem.F.slot_list_append PySem.F.type_list_append mt_append (pv 4) (pa_cons pe_str pa_nil)))) pss_nil)
      (pss_cons (ps_expr (pe_bm PySem.F.plainAttrs_list PySem.F.slot_list_append PySem.F.type_list_append mt_append (pe_prop (pv 1) L.B.cl L.pP.pr L.pP.fn hr2 L.pP.bn .nil pass0 (by rfl)) (pa_cons pe_str pa_nil)))
      (pss_cons (ps_if (PW.pt (pw_or (pt_cmpR op_ne (pe_callB (call_reprR clr.deeper hr.units) (by rfl) N.rep (by decide +kernel) (pa_cons (pe_prop (pv 1) L.B.cl L.pP.pr L.pP.fn hr2 L.pP.bn .nil pass0 (by rfl)) pa_nil)) (pe_callB (call_reprR clr.deeper hr.units) (by rfl) N.rep (by decide +kernel) (pa_cons (pv 6) pa_nil)) (nomark _))
          (pw_or (pt_cmpR op_ne (pe_prop (pv 1) L.B.cl L.pT.pr L.pT.fn hr2 L.pT.bn .nil pass0 (by rfl)) (pe_callB call_len_seq (by rfl) N.len PySem.boot_len (pa_cons (pv 6) pa_nil)) (nomark _))
          (pw_or1 (pt_not (pt_cmpR (op_eqOl (E := E0) L.feq L.feqa L.feqf L.feqb pass0 hr1) (pe_prop (pv 1) L.B.cl L.pF.pr L.pF.fn hr2 L.pF.bn .nil pass0 (by rfl)) (pv 2) (nomark _))))))) (pss_one (ps_ret pe_bl)) pss_nil)
      (pss_cons (ps_par (i := 8) (j := 9) rfl nd rfl rfl (by decide) rfl rfl (pa_cons (pe_prop (pv 1) L.B.cl L.pS.pr L.pS.fn hr5 L.pS.bn .nil pass0 (by rfl)) (pa_cons (pe_call L.op.ok hr1 rfl L.op.mgn L.op.kp L.op.bn .nil pass0 (pa_cons (pv 3) pa_nil)) pa_nil)) (by rfl))
      (pss_cons (ps_expr (pe_bm0 PySem.F.plainAttrs_dict PySem.F.slot_dict_clear PySem.F.type_dict_clear mt_dclear4 (pv 8)))
      (pss_cons (ps_if (PW.pt (pw_or (pt_cmpR (op_neD hr.units) (pe_listItems rfl (pe_prop (pv 1) L.B.cl L.pS.pr L.pS.fn hr5 L.pS.bn .nil pass0 (by rfl)) (by rfl) N.lst (by decide +kernel)) (pe_listItems rfl (pv 7) (by rfl) N.lst (by decide +kernel)) (nomark _))
          (pw_or1 (pt_cmpR (op_eqOl (E := E0) L.eq L.eqa L.eqf L.eqb pass0 hr2) (pv 1) (pv 6) (nomark _))))) (pss_one (ps_ret pe_bl)) pss_nil)
      (pss_cons (ps_if (pt_not (pt_cmpR (op_eqOl (E := E0) L.eq L.eqa L.eqf L.eqb pass0 hr2) (pv 1) (pe_make L.aim L.ai hr2 (by rfl) L.B.gA L.aib .nil pass0 (pa_cons (pe_make L.fim L.fi hr4 (by rfl) L.Z.gF L.fib .nil pass0 (pa_cons (pv 3) pa_nil)) (pa_cons (pv 6) pa_nil))) (nomark _))) (pss_one (ps_ret pe_bl)) pss_nil)
      (pss_cons (ps_expr (pe_bm PySem.F.plainAttrs_list PySem.F.slot_list_append PySem.F.type_list_append mt_append (pe_meth (E := E0) (pv 1) L.B.cl L.us.mt L.us.fn hr4 L.us.bn .nil L2.passL (pa_cons (pe_ix ix_list (pe_callB (call_sortedD rfl) (by rfl) N.srt (by decide +kernel) (pa_cons (pv 3) pa_nil)) pe_int (fun _ _ => rfl)) pa_nil)) (pa_cons pe_int pa_nil)))
      (pss_cons (ps_expr (pe_bm PySem.F.plainAttrs_list PySem.F.slot_list_append PySem.F.type_list_append mt_append (pe_meth (E := E0) (pv 1) L.B.cl L.at_.mt L.at_.fn hr4 L.at_.bn .nil L2.passL (pa_cons pe_str pa_nil)) (pa_cons pe_int pa_nil)))
      (pss_cons (ps_if (PW.pt (pw_and (pt_cmpR op_notN (pv 9) pe_non (nomark _)) (pw_and1 (pt_cmpR (op_eqOl (E := E0) L.eq L.eqa L.eqf L.eqb pass0 hr2) (pv 1) (pe_make L.aim L.ai hr2 (by rfl) L.B.gA L.aib .nil pass0 (pa_cons (pe_make L.fim L.fi hr4 (by rfl) L.Z.gF L.fib .nil pass0 (pa_cons (pv 9) pa_nil)) (pa_cons (pv 6) pa_nil))) (nomark _))))) (pss_one (ps_ret pe_bl)) pss_nil)
      (pss_cons (ps_set (i := 10) nd rfl (.inl rfl) (pe_call L.dp.ok hr2 rfl L.dp.mgn L.dp.kp L.dp.bn .nil pass0 (pa_cons (pv 0) (pa_cons (pe_lst (pa_cons (pv 5) (pa_cons (pv 5) (pa_cons (pv 5) (pa_cons (pe_un un_neg pe_int) (pa_cons (pe_callB call_len_seq (by rfl) N.len PySem.boot_len (pa_cons (pv 6) pa_nil)) (pa_cons pe_bl (pa_cons pe_non (pa_cons pe_str (pa_cons (pe_lst (pa_cons pe_int pa_nil)) (pa_cons pe_dnewK pa_nil))))))))))) pa_nil))))
      (pss_cons (ps_set (i := 11) nd rfl (.inl rfl) (pe_call L.dp.ok hr2 rfl L.dp.mgn L.dp.kp L.dp.bn .nil pass0 (pa_cons (pv 0) (pa_cons (pe_op op_cat (pe_call L.od.ok hr2 rfl L.od.mgn L.od.kp L.od.bn .nil pass0 (pa_cons (pv 0) (pa_cons (pv 3) pa_nil))) (pe_lst (pa_cons pe_str (pa_cons pe_str (pa_cons pe_non (pa_cons pe_int (pa_cons (pe_lst (pa_cons pe_str pa_nil)) (pa_cons pe_dnewK (pa_cons pe_bl pa_nil))))))))) pa_nil))))
      (pss_cons (ps_if (pt_not (pt_val (pe_callG L.ak clr.deeper hr rfl L.akm L.akk L.akb .nil pass0 (pa_cons (pv 1) (pa_cons (pv 3) (pa_cons (pv 6) (pa_cons (pv 10) (pa_cons (pv 11) pa_nil)))))))) (pss_one (ps_ret pe_bl)) pss_nil)
      (pss_cons (ps_set (i := 12) nd rfl (.inl rfl) (pe_lst (pa_cons (pe_call L.dt.ok hr1 rfl L.dt.mgn L.dt.kp L.dt.bn .nil pass0 (pa_cons (pv 0) (pa_cons (pe_callB call_len_seq (by rfl) N.len PySem.boot_len (pa_cons (pv 6) pa_nil)) pa_nil))) (pa_cons (pe_call L.dp.ok hr2 rfl L.dp.mgn L.dp.kp L.dp.bn .nil pass0 (pa_cons (pv 0) (pa_cons (pe_lst (pa_cons pe_int (pa_cons pe_int (pa_cons (pe_callB call_len_seq (by rfl) N.len PySem.boot_len (pa_cons (pv 6) pa_nil)) (pa_cons pe_non pa_nil))))) pa_nil))) pa_nil))))
      (pss_one (ps_ret (pe_callG L.mv clr.deeper hr rfl L.mvm L.mvk L.mvb .nil pass0 (pa_cons (pv 1) (pa_cons (pv 3) (pa_cons (pv 6) (pa_cons (pv 10) (pa_cons (pv 11) (pa_cons (pv 12) pa_nil))))))))))))))))))))))), ?_⟩
    have plt : ∀ z ∈ zs, Pl t z := fun z hz => (pl z hz).imp id fun m => (pt.map Prod.fst).mem_iff.mp m
    have okz : ∀ z ∈ zs, PyData.strOk z = true := fun z hz => pl_strOk ots (pl z hz)
    have few := o.few
    -- the list and the sizes
    refine ⟨_, rfl, a, _, rfl, hs.imp SqL.of SqT.of, fun ls nls => ?_⟩
    have s1 := same_new (o := .lst (zs.map V.str)) nls
    have lsa : ls ≠ a := fun z => by rw [z] at nls; rcases hs with h | h <;> rw [h] at nls <;> cases nls
    obtain ⟨lsd, lsc⟩ := dr.apart nls
    refine ⟨_, rfl, _, rfl, q, a, t, zs, rfl, s1 _ _ hq, o, hs.mono s1, plt, fun pf ks H2 s2 npf perm srt hpf => ?_⟩
    have s12 : Same H H2 := s1.trans s2
    have hl2 : H2 ls = some (.lst (zs.map V.str)) := s2 _ _ upd_same
    have hs2 := hs.mono s12
    have hp2 := s12 _ _ hp
    have hy2 := s12 _ _ hy
    have fa2 := fa.mono s12
    have hq2 := s12 _ _ hq
    refine ⟨_, _, rfl, ?_⟩
    refine nx_in ?_
    refine seq_join (fun σ' H' => σ' = [some (.ref d), some (.ref y), some (.ref x), some (.ref q), some (.ref a), some (.int (m : Int)), some (.ref ls), some (.ref pf), none, none, none, none, none] ∧ R04 T CF CA d c y x q ls t ts zs H' ∧ H' pf = some (.dK (tblI ks (szL t zs)))) (fun D' nxD => ?_) (fun σ3 H3 ⟨e3, R3, hf3⟩ => ?_)
    · rcases hs2 with h2 | h2
      · refine ⟨_, rfl, .ref a, .ty "list", .type "list", .type "list", true, rfl, .ty _, .base (.lst h2), kit_ty (by decide +kernel), true, rfl, iteT ?_⟩
        refine ⟨_, rfl, .inl ⟨rfl, _, SqL.of h2⟩, a, _, _, rfl, rfl, h2, by rw [List.length_map]; omega, ?_⟩
        have off : ∀ {b : Addr} {u : HO}, H2 b = some u → b ≠ a → (upd H2 a (.lst (zs.map V.str ++ [V.str ""]))) b = some u := fun e n => by rw [upd_ne n]; exact e
        obtain ⟨dx, dq, hx, hd⟩ := fa2
        refine nxD _ _ ⟨rfl, ⟨(dr.mono s12).off ad ac, tabs_put (tb.ext s12) h2 NTab.lst, ⟨dy, p, off hy2 (ne_of hy2 h2 (by intro z; cases z)), off hp2 pa⟩, ⟨dx, dq, off hx (ne_of hx h2 (by intro z; cases z)), off hd (ne_of hd h2 (by intro z; cases z))⟩, off hq2 (ne_of hq2 h2 (by intro z; cases z)), off hl2 lsa⟩, off hpf (ne_of hpf h2 (by intro z; cases z))⟩
      · refine ⟨_, rfl, .ref a, .ty "list", .type "tuple", .type "list", false, rfl, .ty _, .base (.tup h2), kit_ty (by decide +kernel), false, rfl, iteF ?_⟩
        exact nxD _ _ ⟨rfl, ⟨dr.mono s12, tb.ext s12, ⟨dy, p, hy2, hp2⟩, fa2, hq2, hl2⟩, hpf⟩
    subst e3
    clear s1 s2 s12 hl2 hs2 hp2 hy2 fa2 hq2 hpf
    -- places are new
    obtain ⟨dy3, pa3, hy3, hpa3⟩ := id R3.aa
    refine ⟨_, rfl, y, dy3, _, rfl, hy3, y, x, zs, rfl, R3.aa, fun p3 m3 => ⟨.inl ⟨rfl, _, SqL.of upd_same⟩, p3, _, _, rfl, rfl, upd_same, by rw [List.length_map]; omega, ?_⟩⟩
    have s34 : Same H3 (upd (upd H3 p3 (.lst (zs.map V.str))) p3 (.lst (zs.map V.str ++ [V.str ""]))) := by
      rw [upd_upd]
      exact same_new m3
    obtain ⟨H4, e4⟩ : ∃ X, X = upd (upd H3 p3 (.lst (zs.map V.str))) p3 (.lst (zs.map V.str ++ [V.str ""])) := ⟨_, rfl⟩
    rw [← e4] at s34 ⊢
    clear e4
    have R4 := R3.same s34
    have hf4 := s34 _ _ hf3
    -- places, total, forest
    obtain ⟨h1s, h2s, h3s, h4s⟩ := strs_short zs fun z hz => (pl z hz).elim (fun e => by rw [e]; exact sm_word (by decide) (by decide +kernel) (by decide +kernel)) fun mm => sm_name (ots.nm _ mm)
    have shL : ∀ {Hx : Hp} {b : Addr}, Hx b = some (.lst (zs.map V.str)) → ShD K Hx (.ref b) (.list (zs.map PyData.str)) := fun h => ⟨.list (SqL.of h) (dpsA_strs zs), h1s, h2s, by show PyData.depthAll _ + 1 ≤ 3; omega, by show PyData.bulkAll _ ≤ 1000; omega⟩
    obtain ⟨dy4, pa4, hy4, hpa4⟩ := id R4.aa
    refine ⟨_, rfl, y, dy4, _, rfl, hy4, y, x, zs, rfl, R4.aa, fun p4 m4 => ?_⟩
    have s45 := same_new (o := .lst (zs.map V.str)) m4
    have R5 := R4.same s45
    have g1 := shL (Hx := upd H4 p4 (.lst (zs.map V.str))) (b := p4) upd_same
    have g2 := shL R5.hl
    refine ⟨.ref p4, _, rfl, g1.dr, g1.ok, by have := g1.dep; omega, g1.fits, _, rfl, .ref ls, _, rfl, g2.dr, g2.ok, by have := g2.dep; omega, g2.fits, rfl, _, rfl, ?_⟩
    rw [decide_eq_true rfl]
    refine iteF ?_
    obtain ⟨H5, e5⟩ : ∃ X, X = upd H4 p4 (.lst (zs.map V.str)) := ⟨_, rfl⟩
    rw [← e5] at R5 s45 ⊢
    clear e5
    have hf5 := s45 _ _ hf4
    obtain ⟨dy5, pa5, hy5, hpa5⟩ := id R5.aa
    refine ⟨_, rfl, y, dy5, _, rfl, hy5, y, x, zs, rfl, R5.aa, _, rfl, ls, _, rfl, .inl (SqL.of R5.hl), rfl, _, rfl, ?_⟩
    rw [List.length_map, decide_eq_true rfl]
    refine iteF ?_
    obtain ⟨dx5, dq5, hx5, hdq5⟩ := id R5.fa
    refine ⟨_, rfl, y, dy5, _, rfl, hy5, y, x, zs, rfl, R5.aa, _, rfl, x, dx5, _, _, rfl, hx5, ⟨x, rfl, .inl ⟨dx5, _, hx5⟩⟩, ⟨x, rfl, ts, ts, R5.fa, R5.fa, rfl⟩, fun H6 e6 => ⟨_, rfl, ?_⟩⟩
    rw [eqDK_self ots.nd]
    refine iteF ?_
    have s56 : Same H5 H6 := fun b u e => e6 b u e
    have R6 := R5.same s56
    have hf6 := s56 _ _ hf5
    clear g1 g2 s45 s34 R4 R3 R5 hf3 hf4 hf5
    -- the sizes, other parents
    have ndT : ∀ {us : List (Str × Str)}, us.Perm t → (us.map Prod.fst).Nodup := fun p => (p.map Prod.fst).nodup_iff.mpr o.nd
    refine nx_in ?_
    refine seq_join (fun σ' H' => ∃ p5 dvm, σ' = [some (.ref d), some (.ref y), some (.ref x), some (.ref q), some (.ref a), some (.int (m : Int)), some (.ref ls), some (.ref pf), some (.ref p5), some dvm, none, none, none] ∧ Same H6 H' ∧ H6 p5 = none ∧ H' p5 = some (.dK (tblI (ts.map Prod.fst) (szZ ts zs))) ∧
      (dvm = .non ∨ ∃ (pm : Addr) (t' : List (Str × Str)), dvm = .ref pm ∧ pm ≠ p5 ∧ H' pm = some (.dK (prs t')) ∧ TreeOk t' ∧ eqDK (prs t') (prs t) = false ∧ t'.map Prod.fst = t.map Prod.fst)) (fun D' nxD => ?_) (fun σ7 H7 ⟨p5, dvm, e7, s67, np5, hp5, hm⟩ => ?_)
    · obtain ⟨dy6, pa6, hy6, hpa6⟩ := id R6.aa
      refine ⟨_, rfl, y, dy6, _, rfl, hy6, y, x, ts, zs, rfl, R6.aa, R6.fa, ots, pl, fun p5 H7 s7 np5 hp5 => ⟨_, rfl, q, t, rfl, s7 _ _ R6.hq, o, fun H8 s8 => ⟨_, _, rfl, ?_⟩, fun pm t' H8 s8 npm hpm o' ek kk => ⟨_, _, rfl, ?_⟩⟩⟩
      · exact nxD _ _ ⟨p5, .non, rfl, s7.trans s8, np5, s8 _ _ hp5, .inl rfl⟩
      · exact nxD _ _ ⟨p5, .ref pm, rfl, s7.trans s8, np5, s8 _ _ hp5, .inr ⟨pm, t', rfl, (ne_of_none hp5 npm).symm, hpm, o', ek, kk⟩⟩
    subst e7
    -- one dict cleared
    refine ⟨_, rfl, .inr (.inr (.inl ⟨rfl, .inl ⟨_, hp5⟩⟩)), p5, _, rfl, rfl, hp5, ?_⟩
    obtain ⟨H8, e8⟩ : ∃ X, X = upd H7 p5 (.dK ([] : List (Key × V))) := ⟨_, rfl⟩
    have s68 : Same H6 H8 := e8 ▸ s67.put np5
    have hm8 : dvm = .non ∨ ∃ (pm : Addr) (t' : List (Str × Str)), dvm = .ref pm ∧ H8 pm = some (.dK (prs t')) ∧ TreeOk t' ∧ eqDK (prs t') (prs t) = false ∧ t'.map Prod.fst = t.map Prod.fst := by
      rcases hm with h | ⟨pm, t', e, ne, hpm, r⟩
      · exact .inl h
      · exact .inr ⟨pm, t', e, by rw [e8, upd_ne ne]; exact hpm, r⟩
    rw [← e8]
    clear e8 hm hp5 s67 np5
    have R8 := R6.same s68
    have hf8 := s68 _ _ hf6
    clear R6 hf6 s68
    have eks : ks = ts.map Prod.fst := sorted_one (perm.trans (pt.map Prod.fst).symm) srt asc
    subst eks
    have esz : szL t zs = szZ ts zs := by rw [szL_perm4 ots pt, szZ_szL4]
    rw [esz] at hf8
    obtain ⟨dy8, pa8, hy8, hpa8⟩ := id R8.aa
    refine ⟨_, rfl, y, dy8, _, rfl, hy8, y, x, ts, zs, rfl, R8.aa, R8.fa, ots, pl, fun p6 H9 s9 np6 hp6 => ⟨p6, _, rfl, hp6, fun H10 l1 rs1 s10 nl1 nts1 pts1 hl1 prd1 => ⟨_, rfl, pf, _, rfl, s10 _ _ (s9 _ _ hf8), fun H11 l2 rs2 s11 nl2 nts2 pts2 hl2 prd2 => ?_⟩⟩⟩
    have t910 : Same H9 H10 := fun b u e => s10 b u e
    have t1011 : Same H10 H11 := fun b u e => s11 b u e
    have shp := (pairZ_shaped (g := szZ ts zs) (fl := ts.map Prod.fst) fun b hb => strOk_name (ots.nm b hb)).2
    refine ⟨.list ((ts.map Prod.fst).map (pairZ (szZ ts zs))), .list ((ts.map Prod.fst).map (pairZ (szZ ts zs))), .lst (SqL.of (t1011 _ _ hl1)) (tblI_items (pair_impW (fun _ _ e => t1011 _ _ e) prd1)), .lst (SqL.of hl2) (tblI_items prd2), shp, shp, _, rfl, ?_⟩
    rw [SeqAt.eqv_refl _ (SeqAt.canLay_of_shaped shp)]
    refine iteF ?_
    have R11 := R8.same ((s9.trans t910).trans t1011)
    have hm11 : dvm = .non ∨ ∃ (pm : Addr) (t' : List (Str × Str)), dvm = .ref pm ∧ H11 pm = some (.dK (prs t')) ∧ TreeOk t' ∧ eqDK (prs t') (prs t) = false ∧ t'.map Prod.fst = t.map Prod.fst := by
      rcases hm8 with h | ⟨pm, t', e, hpm, r⟩
      · exact .inl h
      · exact .inr ⟨pm, t', e, ((s9.trans t910).trans t1011) _ _ hpm, r⟩
    obtain ⟨dy11, pa11, hy11, hpa11⟩ := id R11.aa
    refine ⟨_, rfl, _, rfl, y, dy11, _, _, rfl, hy11, ⟨ls, rfl, .inr ⟨_, R11.hl⟩⟩, ⟨x, ts, zs, R11.aa, R11.fa, okz, .inl ⟨ls, _, rfl, R11.hl, rfl⟩⟩, fun H12 e12 => ⟨_, rfl, iteF ?_⟩⟩
    have s12' : Same H11 H12 := fun b u e => e12 b u e
    have R12 := R11.same s12'
    clear R8 R11 hf8 hm8 t910 t1011 prd1 prd2
    -- the same places anew
    refine ⟨_, rfl, mk_asg (t := t) rfl rfl R12.hq o R12.hl n1 n60 plt (fun y1 x1 us H13 s13 pus aa1 fa1 => ?_)⟩
    have R13 := R12.same s13
    obtain ⟨dy13, pa13, hy13, hpa13⟩ := id R13.aa
    obtain ⟨dz13, pz13, hz13, hpz13⟩ := id aa1
    refine ⟨y, dy13, _, _, rfl, hy13, ⟨y1, rfl, .inl ⟨_, _, hz13⟩⟩, ⟨x, ts, zs, R13.aa, R13.fa, okz, .inr ⟨y1, x1, us, zs, rfl, aa1, fa1, okz, rfl⟩⟩, fun H14 e14 => ⟨_, rfl, ?_⟩⟩
    have s14 : Same H13 H14 := fun b u e => e14 b u e
    rw [(eqDK_iff ots.nd (ndT pus)).mpr (pt.trans pus.symm), decide_eq_true (rfl : zs = zs)]
    refine iteF ?_
    have R14 := R13.same s14
    have hm14 : dvm = .non ∨ ∃ (pm : Addr) (t' : List (Str × Str)), dvm = .ref pm ∧ H14 pm = some (.dK (prs t')) ∧ TreeOk t' ∧ eqDK (prs t') (prs t) = false ∧ t'.map Prod.fst = t.map Prod.fst := by
      rcases hm11 with h | ⟨pm, t', e, hpm, r⟩
      · exact .inl h
      · exact .inr ⟨pm, t', e, ((s12'.trans s13).trans s14) _ _ hpm, r⟩
    clear R12 R13 hm11
    -- users_of, at: changed without effect
    have fine : ∀ {Hx : Hp} {P2 : Hp → Prop} {pr : Addr} {ns : List Int}, Hx pr = some (.lst (ns.map V.int)) → ns.length ≤ 100 → (∀ Hy, Hy = upd Hx pr (.lst (ns.map V.int ++ [V.int 99])) → P2 Hy) → P2 (upd Hx pr (.lst (ns.map V.int ++ [V.int 99]))) := fun _ _ k => k _ rfl
    obtain ⟨dy14, pa14, hy14, hpa14⟩ := id R14.aa
    refine ⟨_, rfl, y, dy14, _, rfl, hy14, rfl, _, rfl, q, prs t, t.map Prod.fst, rfl, .inl R14.hq, prs_keys t, by rw [List.length_map]; omega, fun ks2 pk perm2 srt2 npk => ?_⟩
    have sK := same_new (o := .lst (ks2.map V.str)) npk
    have l2 := perm2.length_eq
    rw [List.length_map] at l2
    have one := o.one
    obtain ⟨f0', hf0⟩ : ∃ z, ks2[0]? = some z := ⟨_, List.getElem?_eq_getElem (by omega)⟩
    have mf0 : f0' ∈ t.map Prod.fst := perm2.mem_iff.mp (List.mem_of_getElem? hf0)
    have RK := R14.same sK
    refine ⟨pk, _, 0, .str f0', rfl, rfl, SqL.of upd_same, atI_nat (j := 0) (map_at hf0), y, x, ts, zs, .str f0', rfl, RK.aa, RK.fa, ots, pl, by omega, ⟨_, .str _⟩, ?_⟩
    rw [nmE_t (show flagV ts (.str f0') = true from decide_eq_true ((pt.map Prod.fst).mem_iff.mpr mf0))]
    intro p15 H15 s15 np15 hp15
    have lU : (hasU ts zs (strV (.str f0'))).length ≤ 60 := by have := selU_len zs.length (hasC ts zs f0'); exact Nat.le_trans this n60
    refine ⟨.inl ⟨rfl, _, SqL.of hp15⟩, p15, _, _, rfl, rfl, hp15, by rw [List.length_map]; omega, ?_⟩
    have t15 := s15.put (o := .lst ((hasU ts zs (strV (.str f0'))).map V.int ++ [V.int 99])) np15
    obtain ⟨H16, e16⟩ : ∃ X, X = upd H15 p15 (.lst ((hasU ts zs (strV (.str f0'))).map V.int ++ [V.int 99])) := ⟨_, rfl⟩
    rw [← e16] at t15 ⊢
    clear e16
    have R16 := RK.same t15
    have s1416 : Same H14 H16 := sK.trans t15
    obtain ⟨dy16, pa16, hy16, hpa16⟩ := id R16.aa
    refine ⟨_, rfl, y, dy16, _, rfl, hy16, rfl, y, x, ts, zs, .str "", rfl, R16.aa, R16.fa, ots, by omega, ⟨_, .str _⟩, ?_⟩
    rw [nmE_t (show placeV ts (.str "") = true by show decide (("" : Str) = "" ∨ ("" : Str) ∈ ts.map Prod.fst) = true; exact decide_eq_true (.inl rfl))]
    intro p17 H17 s17 np17 hp17
    have lA : (atU zs (strV (.str ""))).length ≤ 60 := by have := selU_len zs.length (atC zs ""); exact Nat.le_trans this n60
    refine ⟨.inl ⟨rfl, _, SqL.of hp17⟩, p17, _, _, rfl, rfl, hp17, by rw [List.length_map]; omega, ?_⟩
    have t17 := s17.put (o := .lst ((atU zs (strV (.str ""))).map V.int ++ [V.int 99])) np17
    obtain ⟨H18, e18⟩ : ∃ X, X = upd H17 p17 (.lst ((atU zs (strV (.str ""))).map V.int ++ [V.int 99])) := ⟨_, rfl⟩
    rw [← e18] at t17 ⊢
    clear e18
    have R18 := R16.same t17
    have hm18 : dvm = .non ∨ ∃ (pm : Addr) (t' : List (Str × Str)), dvm = .ref pm ∧ H18 pm = some (.dK (prs t')) ∧ TreeOk t' ∧ eqDK (prs t') (prs t) = false ∧ t'.map Prod.fst = t.map Prod.fst := by
      rcases hm14 with h | ⟨pm, t', e, hpm, r⟩
      · exact .inl h
      · exact .inr ⟨pm, t', e, (s1416.trans t17) _ _ hpm, r⟩
    clear hm14 R14 RK R16 s15 s17 t15 hp15 hp17 fine
    -- other parents
    refine nx_in ?_
    refine seq_join (fun σ' H' => σ' = [some (.ref d), some (.ref y), some (.ref x), some (.ref q), some (.ref a), some (.int (m : Int)), some (.ref ls), some (.ref pf), some (.ref p5), some dvm, none, none, none] ∧ R04 T CF CA d c y x q ls t ts zs H') (fun D' nxD => ?_) (fun σ7 H19 ⟨e7, R19⟩ => ?_)
    · refine ⟨_, rfl, rfl, _, rfl, ?_⟩
      rcases hm18 with rfl | ⟨pm, t', rfl, hpm, o', ek, kk⟩
      · rw [decide_eq_true rfl]
        exact iteF (iteF (nxD _ _ ⟨rfl, R18⟩))
      · rw [decide_eq_false (show ¬ V.ref pm = V.non from fun z => nomatch z)]
        show if true = true then _ else _
        rw [if_pos rfl]
        refine ⟨_, rfl, mk_asg (t := t') rfl rfl hpm o' R18.hl n1 n60 (fun z hz => (plt z hz).imp id fun mm => by rw [kk]; exact mm) (fun y1 x1 us' H20 s20 pus' aa2 fa2 => ?_)⟩
        have R20 := R18.same s20
        obtain ⟨dy20, pa20, hy20, hpa20⟩ := id R20.aa
        obtain ⟨dz20, pz20, hz20, hpz20⟩ := id aa2
        refine ⟨y, dy20, _, _, rfl, hy20, ⟨y1, rfl, .inl ⟨_, _, hz20⟩⟩, ⟨x, ts, zs, R20.aa, R20.fa, okz, .inr ⟨y1, x1, us', zs, rfl, aa2, fa2, okz, rfl⟩⟩, fun H21 e21 => ⟨_, rfl, ?_⟩⟩
        rw [(eqDK_no o' o pus' pt ek).2, Bool.false_and]
        exact iteF (nxD _ _ ⟨rfl, R20.same fun b u e => e21 b u e⟩)
    subst e7
    -- who
    have ozs : (zs.map V.str).length = zs.length := List.length_map ..
    refine asg_join (fun v H' => R04 T CF CA d c y x q ls t ts zs H' ∧ OdV d c H' v) (fun Q' kq => ?_) (fun v H22 ⟨R22, ov22⟩ => ?_)
    · refine ⟨_, rfl, _, rfl, _, rfl, _, rfl, 1, rfl, _, rfl, ls, _, rfl, .inl (SqL.of R19.hl), by show 1 ≤ sizeLine; omega, fun p1 m1 => fun D nD => ⟨by show 10 ≤ sizeLine; omega, fun p2 m2 => ?_⟩⟩
      have t1 := same_new (o := .lst [.int 0]) m1
      have t2 := same_new (o := .dK ([] : List (Key × V))) nD
      obtain ⟨p1d, p1c⟩ := R19.dr.apart m1
      obtain ⟨Dd, Dc⟩ := (R19.dr.mono t1).apart nD
      obtain ⟨p2d, p2c⟩ := ((R19.dr.mono t1).mono t2).apart m2
      refine ⟨d, c, .ref p2, 10, (fun _ v => Sm v ∨ v = .ref p1 ∨ v = .ref D), rfl, (((R19.dr.mono t1).mono t2).off p2d p2c), .inl ⟨p2, _, rfl, p2d, p2c, upd_same, rfl, fun i v hv => ?_⟩, by decide, by decide, fun i v H3 px dr3 k3 => ?_⟩
      · have mm := List.mem_of_getElem? hv
        simp only [List.mem_cons, List.not_mem_nil, or_false] at mm
        have smi : ∀ {z : Int}, -1 ≤ z → z ≤ 61 → Sm (.int z) := fun h0 h1 => .inr (.inr (.inl ⟨_, rfl, h0, h1⟩))
        rcases mm with rfl | rfl | rfl | rfl | rfl | rfl | rfl | rfl | rfl | rfl
        · exact .inl (smi (by omega) (by omega))
        · exact .inl (smi (by omega) (by omega))
        · exact .inl (smi (by omega) (by omega))
        · exact .inl (smi (by omega) (by omega))
        · exact .inl (smi (by rw [ozs]; omega) (by rw [ozs]; omega))
        · exact .inl (.inr (.inl ⟨_, rfl⟩))
        · exact .inl (.inl rfl)
        · exact .inl (sm_word (by decide) (by decide +kernel) (by decide +kernel))
        · exact .inr (.inl rfl)
        · exact .inr (.inr rfl)
      have t3 := same_new (o := .lst [.int (m : Int), .int (m : Int), .int (m : Int), .int (-1), .int ((zs.map V.str).length : Int), .bl true, .non, .str "0", .ref p1, .ref D]) m2
      have kk : Keep d c H19 H3 := ((Keep.of_same ((t1.trans t2).trans t3))).trans k3
      have h1 := k3 _ _ p1d p1c (t3 _ _ (t2 _ _ upd_same))
      have h2 := k3 _ _ Dd Dc (t3 _ _ upd_same)
      refine kq _ _ ⟨R19.keep lsd lsc dr3 kk, ?_⟩
      rcases px with h | rfl | rfl
      · exact .inl h
      · exact .inr ⟨p1, rfl, p1d, p1c, .inl ⟨.int 0, .inr (.inr (.inl ⟨0, rfl, by decide, by decide⟩)), h1⟩⟩
      · exact .inr ⟨D, rfl, Dd, Dc, .inr h2⟩
    -- a name
    refine asg_join (fun u H' => R04 T CF CA d c y x q ls t ts zs H' ∧ OdV d c H' v ∧ OdV d c H' u) (fun Q' kq => ?_) (fun u H23 ⟨R23, ov23, ou23⟩ => ?_)
    · have few2 := o.few
      refine ⟨_, rfl, _, rfl, _, rfl, d, c, q, t.map Prod.fst, rfl, R22.dr, .inr ⟨prs t, .inl R22.hq, prs_keys t⟩, by rw [List.length_map]; omega, fun z hz => strOk_name (o.nm _ hz), fun p ys H2 py np hp dr2 k2 => ?_⟩
      have ly := py.length_eq
      rw [List.length_map] at ly
      obtain ⟨pd_, pc_⟩ := R22.dr.apart np
      have R2' := R22.keep lsd lsc dr2 k2
      refine ⟨by show 1 ≤ sizeLine; omega, fun p1 m1 => fun D nD => ⟨by show 7 ≤ sizeLine; omega, fun p2 m2 => ?_⟩⟩
      have t1 := same_new (o := .lst [.str "a"]) m1
      have t2 := same_new (o := .dK ([] : List (Key × V))) nD
      have t3 := same_new (o := .lst [.str "", .str "nobody", .non, .int 5, .ref p1, .ref D, .bl true]) m2
      obtain ⟨p1d, p1c⟩ := dr2.apart m1
      obtain ⟨Dd, Dc⟩ := (dr2.mono t1).apart nD
      obtain ⟨p2d, p2c⟩ := ((dr2.mono t1).mono t2).apart m2
      refine ⟨p, p2, _, _, rfl, rfl, t3 _ _ (t2 _ _ (t1 _ _ hp)), upd_same, by rw [List.length_map]; show _ + 7 ≤ sizeLine; omega, fun p3 m3 => ?_⟩
      obtain ⟨p3d, p3c⟩ := (((dr2.mono t1).mono t2).off p2d p2c).apart m3
      refine ⟨d, c, .ref p3, ys.length + 7, (fun _ v => Sm v ∨ v = .ref p1 ∨ v = .ref D), rfl, ((((dr2.mono t1).mono t2).off p2d p2c).off p3d p3c), .inl ⟨p3, _, rfl, p3d, p3c, upd_same, by rw [List.length_append, List.length_map] <;> rfl, fun i v hv => ?_⟩, by omega, by omega, fun i u H3 px dr3 k3 => ?_⟩
      · have mm := List.mem_of_getElem? hv
        rcases List.mem_append.mp mm with mm | mm
        · obtain ⟨z, hz, rfl⟩ := List.mem_map.mp mm
          exact .inl (sm_name (o.nm _ (py.mem_iff.mp hz)))
        simp only [List.mem_cons, List.not_mem_nil, or_false] at mm
        rcases mm with rfl | rfl | rfl | rfl | rfl | rfl | rfl
        · exact .inl (sm_word (by decide) (by decide +kernel) (by decide +kernel))
        · exact .inl (sm_word (by decide) (by decide +kernel) (by decide +kernel))
        · exact .inl (.inl rfl)
        · exact .inl (.inr (.inr (.inl ⟨5, rfl, by decide, by decide⟩)))
        · exact .inr (.inl rfl)
        · exact .inr (.inr rfl)
        · exact .inl (.inr (.inl ⟨_, rfl⟩))
      have t4 := same_new (o := .lst (ys.map V.str ++ [.str "", .str "nobody", .non, .int 5, .ref p1, .ref D, .bl true])) m3
      have k23 : Keep d c H2 H3 := (Keep.of_same (((t1.trans t2).trans t3).trans t4)).trans k3
      have kk : Keep d c H22 H3 := k2.trans k23
      have h1 := k3 _ _ p1d p1c (t4 _ _ (t3 _ _ (t2 _ _ upd_same)))
      have h2 := k3 _ _ Dd Dc (t4 _ _ (t3 _ _ upd_same))
      refine kq _ _ ⟨R22.keep lsd lsc dr3 kk, ov22.keepN kk.n, ?_⟩
      rcases px with h | rfl | rfl
      · exact .inl h
      · exact .inr ⟨p1, rfl, p1d, p1c, .inl ⟨.str "a", sm_word (by decide) (by decide +kernel) (by decide +kernel), h1⟩⟩
      · exact .inr ⟨D, rfl, Dd, Dc, .inr h2⟩
    -- asked
    refine ⟨_, rfl, _, rfl, _, rfl, _, rfl, _, rfl, y, x, q, ls, t, ts, zs, v, u, rfl, ⟨R23.tb, ExtN.of Same.refl, R23.aa, R23.fa, R23.hq, R23.hl, ov23, ou23⟩, o, ots, pt, pl, n60, fun H24 tb24 ex24 => ⟨_, rfl, ?_⟩⟩
    refine iteF ?_
    have R24 := R23.extN ex24 tb24
    have ov24 := ov23.ext ex24
    have ou24 := ou23.ext ex24
    -- more users
    refine nx_in ?_
    refine asg_join (fun mv H' => R04 T CF CA d c y x q ls t ts zs H' ∧ OdV d c H' v ∧ OdV d c H' u ∧ ∃ lm w0 w1, mv = .ref lm ∧ H' lm = some (.lst [w0, w1]) ∧ Sm w0 ∧ Sm w1) (fun Q' kq => ?_) (fun mv H25 ⟨R25, ov25, ou25, lm, w0, w1, emv, hlm, sw0, sw1⟩ => ?_)
    · refine ⟨_, rfl, _, rfl, ls, _, rfl, .inl (SqL.of R24.hl), d, c, ((zs.map V.str).length : Int), rfl, R24.dr, by rw [ozs]; omega, by rw [ozs]; omega, fun i0 H2 i00 i01 dr2 k2 => ?_⟩
      have R2' := R24.keep lsd lsc dr2 k2
      refine ⟨_, rfl, _, rfl, ls, _, rfl, .inl (SqL.of R2'.hl), by show 4 ≤ sizeLine; omega, fun p1 m1 => ?_⟩
      obtain ⟨p1d, p1c⟩ := dr2.apart m1
      refine ⟨d, c, .ref p1, 4, (fun _ v => Sm v), rfl, dr2.off p1d p1c, .inl ⟨p1, _, rfl, p1d, p1c, upd_same, rfl, fun i v hv => ?_⟩, by decide, by decide, fun i w1 H3 px dr3 k3 => ?_⟩
      · have mm := List.mem_of_getElem? hv
        simp only [List.mem_cons, List.not_mem_nil, or_false] at mm
        rcases mm with rfl | rfl | rfl | rfl
        · exact .inr (.inr (.inl ⟨0, rfl, by decide, by decide⟩))
        · exact .inr (.inr (.inl ⟨0, rfl, by decide, by decide⟩))
        · exact .inr (.inr (.inl ⟨_, rfl, by rw [ozs]; omega, by rw [ozs]; omega⟩))
        · exact .inl rfl
      have kk : Keep d c H24 H3 := k2.trans ((Keep.of_same (same_new m1)).trans k3)
      have R3' := R24.keep lsd lsc dr3 kk
      refine ⟨by show 2 ≤ sizeLine; omega, fun lm nlm => ?_⟩
      have t4 := same_new (o := .lst [.int i0, w1]) nlm
      exact kq _ _ ⟨R3'.same t4, (ov24.keepN kk.n).ext (ExtN.of t4), (ou24.keepN kk.n).ext (ExtN.of t4), lm, .int i0, w1, rfl, upd_same, .inr (.inr (.inl ⟨i0, rfl, by omega, by rw [ozs] at i01; omega⟩)), px⟩
    subst emv
    refine ⟨_, rfl, _, rfl, _, rfl, _, rfl, _, rfl, _, rfl, y, x, q, ls, lm, t, ts, zs, v, u, w0, w1, rfl, ⟨⟨R25.tb, ExtN.of Same.refl, R25.aa, R25.fa, R25.hq, R25.hl, ov25, ou25⟩, hlm⟩, sw0, sw1, o, ots, pt, pl, n1, n60, fun H26 tb26 ex26 => ?_⟩
    have R26 := R25.extN ex26 tb26
    exact k H26 R26.dr R26.tb R26.fa
end
end FT


/-! _law_residents -/
namespace FT
open PySem L2 TL ClX LiI
def spLawRes : Sp := fun vs H Q _ => ∃ (q qh : Addr) (n : Int) (t : List (Str × Str)) (l : List Str) (s : Str → Int), vs = [.ref q, .int n, .ref qh] ∧ H q = some (.dK (prs t)) ∧ TreeOk t ∧ H qh = some (.dK (tblI l s)) ∧ l.Perm (t.map Prod.fst) ∧
  ∀ (p : Addr) (H' : Hp) (ks : List Str), Same H H' → H p = none → ks.Perm (t.map Prod.fst) → PyProof.Rows.sortedS ks = true → H' p = some (.dK (tblI (("" : Str) :: ks) (resid t n s))) → Q (.ref p) H'
abbrev NLr : List Str := ["_law_above", "_law_many", "_law_how", "_law_found", "_law_flag"]
theorem resid_nil (n : Int) (s : Str → Int) (a : Str) : resid [] n s a = if a = "" then n else s a := by
  unfold resid
  show (if a = "" then n else s a) - 0 = _
  omega
section
variable {P : Program} {w : World} {K : PySem.W.Frag} {mg : Str → Option Value} {base : Heap}
theorem scLr : FnScope NLr ["_law_above", "_law_many", "_law_how"] (defScope s__law_residents) := ⟨rfl, rfl, rfl, by decide +kernel, rfl, by decide +kernel, by decide +kernel⟩
theorem ok_lawRes {f : Addr} {fd : FuncData} (F : Fun K "_law_residents" "_law_residents" s__law_residents f fd) (N : Nm mg) : FnOk P w K mg base CX0 1 f fd ["_law_above", "_law_many", "_law_how"] spLawRes := by
  refine F.ok scLr (fun vs H Q E h => ?_) (fun cdv A outer s H vs Q E hr h => ?_)
  · obtain ⟨q, qh, n, t, l, s, rfl, _⟩ := h
    rfl
  · obtain ⟨q, qh, n, t, l, s, rfl, hq, o, hh, pl, k⟩ := h
    have hu := hu_of hr
    have nd := scLr.nd
    have big : 1000 ≤ sizeLine := by decide
    have few := o.few
    refine ⟨_, pss_cons (ps_set (i := 3) nd rfl (.inl rfl) (pe_disp (pps_cons pe_str (pv 1) pps_nil) (by rfl) (by rfl) (fun z => by cases z) (by decide)))
      (pss_cons (ps_for PassesOwn.never rfl (pi_list (pe_callB (call_sortedD rfl) (by rfl) N.srt (by decide +kernel) (pa_cons (pv 0) pa_nil))) (pg_name (i := 4) nd rfl (.inl rfl))
        (pss_one (ps_dput hu (pv 3) (pv 4) (pe_dget hu (pv 2) (pv 4) (fun _ _ => rfl)) rfl)))
      (pss_cons (ps_lock (ps_for PassesOwn.never rfl (pi_keys (pv 0)) (pg_name (i := 4) nd rfl (.inl rfl))
        (pss_one (ps_dput hu (pv 3) (pe_dget hu (pv 0) (pv 4) (fun _ _ => rfl)) (pe_op op_sub (pe_dget hu (pv 3) (pe_dget hu (pv 0) (pv 4) (fun _ _ => rfl)) (fun _ _ => rfl)) (pe_dget hu (pv 2) (pv 4) (fun _ _ => rfl))) rfl))))
      (pss_one (ps_ret (pv 3))))), ?_⟩
    refine fun D nD => ⟨_, rfl, upd_same, [(Sum.inr "", V.int n)], rfl, by show 1 ≤ 15; omega, ?_⟩
    obtain ⟨H1, e1⟩ : ∃ X, X = upd (upd H D (.dK [])) D (.dK (mergeK [] [(Sum.inr "", V.int n)])) := ⟨_, rfl⟩
    have s1 : Same H H1 := e1 ▸ (same_new nD).put nD
    have a1 : H1 D = some (.dK (tblI [""] (resid [] n s))) := by
      rw [e1, upd_same]
      show some (HO.dK [(Sum.inr "", V.int n)]) = some (HO.dK [(Sum.inr "", V.int (resid [] n s ""))])
      rw [resid_nil, if_pos rfl]
    rw [← e1]
    have Dq : D ≠ q := (ne_of_none hq nD).symm
    refine ⟨_, rfl, q, prs t, t.map Prod.fst, rfl, .inl (s1 _ _ hq), prs_keys t, by rw [List.length_map]; omega, fun ks p perm srt np => ⟨p, rfl, ⟨_, SqL.of upd_same⟩, ?_⟩⟩
    have lk := perm.length_eq
    rw [List.length_map] at lk
    have ndk : ks.Nodup := perm.nodup_iff.mpr o.nd
    have rk0 : ("" : Str) ∉ ks := fun z => o.root (perm.mem_iff.mp z)
    have pD : p ≠ D := (ne_of_none a1 np).symm
    obtain ⟨H2, e2⟩ : ∃ X, X = upd H1 p (.lst (ks.map V.str)) := ⟨_, rfl⟩
    have s12 : Same H1 H2 := e2 ▸ same_new np
    have a2 : H2 p = some (.lst (ks.map V.str)) := by rw [e2]; exact upd_same
    rw [← e2]
    refine for_it walk_list (fun j σ' H' => (∃ u4, σ' = [some (.ref q), some (.int n), some (.ref qh), some (.ref D), u4]) ∧ Same H H' ∧ H' p = some (.lst (ks.map V.str)) ∧ H' D = some (.dK (tblI ("" :: ks.take j) (resid [] n s))))
      ⟨⟨_, rfl⟩, s1.trans s12, a2, s12 _ _ a1⟩ (fun j σ' H' _ z => SqL.of z.2.2.1) ?_ ?_
    · intro j y σ' Ha Hb hj ⟨⟨u4, e⟩, sa, ap, aD⟩ ⟨eb, ex⟩
      subst e
      subst eb
      obtain ⟨a, ha, rfl⟩ := map_of ex
      have ma := List.mem_of_getElem? ha
      have mt := perm.mem_iff.mp ma
      have an : a ≠ "" := fun z => rk0 (by rw [← z]; exact ma)
      have dg : DGet Hb qh (.str a) (some (.int (s a))) := by
        have z := DGet.k (k := Sum.inr a) (sa _ _ hh)
        rw [tblI_val (pl.mem_iff.mpr mt)] at z
        exact z
      have fresh : a ∉ ("" : Str) :: ks.take j := fun m => (List.mem_cons.mp m).elim an (fresh_at ndk ha rfl)
      refine ⟨_, rfl, _, rfl, qh, .int (s a), rfl, dg, _, rfl, _, rfl, D, _, rfl, DPut.k (k := Sum.inr a) aD (by rw [tblI_len, List.length_cons, List.length_take]; omega), ⟨_, rfl⟩, Same.put sa nD, by rw [upd_ne pD]; exact ap, ?_⟩
      rw [upd_same, tblI_snoc fresh (by rw [resid_nil, if_neg an]), take_more ha] <;> rfl
    intro σ' H3 ⟨⟨u4, e⟩, sa, ap, aD⟩
    subst e
    rw [List.length_map, List.take_length] at aD
    have hq3 := sa _ _ hq
    refine ⟨q, _, hq3, trivial, fun od => ⟨_, rfl, q, od, rfl, .inl ⟨_, upd_same, ?_⟩⟩⟩
    have Dq' : D ≠ q := Dq
    have qhq : qh ≠ D := ne_of_none hh nD
    refine for_it walk_keys (fun j σ' H' => (∃ u4, σ' = [some (.ref q), some (.int n), some (.ref qh), some (.ref D), u4]) ∧ H' q = some (.frz od (.dK (prs t))) ∧ (∀ b u, b ≠ q → H b = some u → H' b = some u) ∧ H' D = some (.dK (tblI ("" :: ks) (resid (t.take j) n s))))
      ⟨⟨_, rfl⟩, upd_same, fun b u nb e => by rw [upd_ne nb]; exact sa _ _ e, by rw [upd_ne Dq]; exact aD⟩ (fun j σ' H' _ z => z.2.1) ?_ ?_
    · intro j y σ' Ha Hb hj ⟨⟨u4, e⟩, aq, sb, aD⟩ ⟨eb, kk, vv, hk, ey⟩
      subst e
      subst eb
      subst ey
      obtain ⟨⟨a, pa⟩, hp, ee⟩ : ∃ x : Str × Str, t[j]? = some x ∧ (kk, vv) = (Sum.inr x.1, V.str x.2) := by
        unfold prs kvT at hk
        rw [List.map_map, List.getElem?_map] at hk
        obtain ⟨x, hx, z⟩ := Option.map_eq_some_iff.mp hk
        exact ⟨x, hx, z.symm⟩
      cases ee
      rw [show kV (Sum.inr a) = V.str a from rfl]
      have mp := List.mem_of_getElem? hp
      have mk : a ∈ t.map Prod.fst := List.mem_map.mpr ⟨_, mp, rfl⟩
      have ep := par_of o.nd mp
      obtain ⟨rk, r⟩ := o.up
      have mpa : pa ∈ ("" : Str) :: ks := List.mem_cons.mpr ((r _ mp).2.imp id fun z => perm.mem_iff.mpr z.1)
      have dg : DGet Hb q (.str a) (some (.str pa)) := .inl ⟨_, Sum.inr a, .inr ⟨od, aq⟩, rfl, by rw [val_prs, ep] <;> rfl⟩
      have nqh : qh ≠ q := ne_of hh hq (by
        intro z
        have := HO.dK.inj z
        have l1 := congrArg List.length this
        cases t with
        | nil => cases mp
        | cons x t =>
          cases l with
          | nil => cases l1
          | cons y l => cases this)
      refine ⟨_, rfl, _, rfl, _, rfl, q, _, rfl, dg, D, .int (resid (t.take j) n s pa), rfl, ?_, ?_⟩
      · have z := DGet.k (k := Sum.inr pa) aD
        rw [tblI_val mpa] at z
        exact z
      · refine ⟨_, rfl, _, rfl, qh, .int (s a), rfl, ?_, _, _, rfl, rfl, ?_⟩
        · have z := DGet.k (k := Sum.inr a) (sb _ _ nqh hh)
          rw [tblI_val (pl.mem_iff.mpr mk)] at z
          exact z
        · refine ⟨_, rfl, _, rfl, _, rfl, q, _, rfl, dg, D, _, rfl, DPut.k (k := Sum.inr pa) aD (by rw [tblI_len, List.length_cons]; omega), ⟨_, rfl⟩, by rw [upd_ne Dq.symm]; exact aq, fun b u nb e => ?_, ?_⟩
          · rw [upd_ne (ne_of_none e nD)]
            exact sb b u nb e
          · rw [upd_same, tblI_put mpa, take_more hp]
            congr 2
            refine tblI_congr fun b hb => ?_
            rw [resid_snoc]
            show (if b = pa then _ else _) = if pa = b then _ else _
            by_cases e : b = pa
            · rw [if_pos e, if_pos e.symm, e]
            · rw [if_neg e, if_neg fun z => e z.symm]
    · intro σ' H4 ⟨⟨u4, e⟩, aq, sb, aD⟩
      subst e
      rw [show (prs t).length = t.length from prs_len t, List.take_length] at aD
      refine ⟨aq, _, rfl, k D _ ks (fun b u e => ?_) nD perm srt (by rw [upd_ne Dq]; exact aD)⟩
      by_cases z : b = q
      · subst z
        rw [hq] at e
        rw [upd_same]
        exact e
      · rw [upd_ne z]
        exact sb b u z e
end
end FT


namespace FT
open PySem L2 TL ClX LamX NdefX
/-- the name of the lambdas of a def -/
def keyP (t : List (Str × Str)) (a : Str) : Int × Str := (((pathOf t a).length : Int), a)
/-- a parent stands ahead of its children -/
theorem par_ahead {t : List (Str × Str)} (o : TreeOk t) {ys : List Str} (pm : ys.Perm (t.map Prod.fst)) (pw : ys.Pairwise (fun x y => SrtKy.isLt (keyP t y) (keyP t x) = false)) {j : Nat} {a pa : Str} (hj : ys[j]? = some a) (hp : par t a = some pa) : pa = "" ∨ pa ∈ ys.take j := by
  obtain ⟨rk, r⟩ := o.up
  have ma := pm.mem_iff.mp (List.mem_of_getElem? hj)
  obtain ⟨p', e', hpa, _⟩ := o.step r ma
  cases hp.symm.trans e'
  rcases hpa with z | ⟨mp, _⟩
  · exact .inl z
  · refine .inr ?_
    obtain ⟨i, hi⟩ := List.mem_iff_getElem?.mp (pm.mem_iff.mpr mp)
    have il := (List.getElem?_eq_some_iff.mp hi).1
    have jl := (List.getElem?_eq_some_iff.mp hj).1
    have st := congrArg List.length (path_step o ma hp)
    rw [List.length_append] at st
    have st' : (pathOf t a).length = (pathOf t pa).length + 1 := st
    have lt : SrtKy.isLt (keyP t pa) (keyP t a) = true := SrtKy.isLt_iff.mpr (.inl (by show ((pathOf t pa).length : Int) < ((pathOf t a).length : Int); omega))
    have ij : i < j := by
      refine Decidable.byContradiction fun n => ?_
      by_cases e : i = j
      · subst e
        rw [hi] at hj
        cases hj
        omega
      · have g := List.pairwise_iff_getElem.mp pw j i jl il (by omega)
        rw [(List.getElem?_eq_some_iff.mp hi).2, (List.getElem?_eq_some_iff.mp hj).2, lt] at g
        cases g
    rw [List.mem_take_iff_getElem]
    exact ⟨i, by omega, (List.getElem?_eq_some_iff.mp hi).2⟩
section
variable {P : Program} {w : World} {K : PySem.W.Frag} {mg : Str → Option Value} {base : Heap}
abbrev NSz : List Str := ["_law_draw", "_law_above", "_law_many", "_law_found", "_law_left", "_law_flag", "_law_most", "_law_size"]
theorem scSz : FnScope NSz ["_law_draw", "_law_above", "_law_many"] (defScope s__law_sizes) := ⟨rfl, rfl, rfl, by decide +kernel, rfl, by decide +kernel, by decide +kernel⟩
theorem ok_sizes {f fT fP fO fH co ta : Addr} {T : List (Addr × Str)} {fd fdT fdP fdO fdH : FuncData} (F : FunC K "_law_sizes" "_law_sizes" s__law_sizes f fd co) (N : Nm mg) (DT : Dn P w K mg base CX0 1 "_law_take" ["_law_draw", "_law_size"] spDraw fT fdT) (DP : Dn P w K mg base CX0 2 "_law_pick" ["_law_draw", "_law_some"] (spPick K) fP fdP)
    (DO : Dn P w K mg base CX0 2 "_law_order" ["_law_draw", "_law_some"] (spOrder K) fO fdO) (DH : Dn P w K mg base CX0 1 "_law_path" ["_law_above", "_law_spot"] spPath fH fdH) (TB : TabB base mg co ta) (hmT : (ta, lamQ "_law_sizes") ∈ T) (hut : ∀ p ∈ T, p.1 = ta → p.2 = lamQ "_law_sizes") :
    FnOk P w K mg base CX0 5 f fd ["_law_draw", "_law_above", "_law_many"] (spSizes T) := by
  refine F.ok scSz (fun vs H Q E h => ?_) (fun A outer s H vs Q E hr h => ?_)
  · obtain ⟨d, c, q, n, t, rfl, _⟩ := h
    rfl
  · obtain ⟨d, c, q, n, t, rfl, dr, hq, o, n0, n1, tT, k⟩ := h
    have hu := hu_of hr
    have hr1 : Room 1 _ := hr.mono (by decide)
    have hr2 : Room 2 _ := hr.mono (by decide)
    have big : 1000 ≤ sizeLine := by decide
    have few := o.few
    refine ⟨_, pss_cons (ps_asg (pe_tup (pa_cons pe_dnewK (pa_cons (pe_disp (pps_cons pe_str (pv 2) pps_nil) (by rfl) (by rfl) (fun z => by cases z) (by decide)) pa_nil)))
        (pg_tup rfl (pgs_cons (pg_name (i := 3) scSz.nd rfl (.inr rfl)) (pgs_cons (pg_name (i := 4) scSz.nd rfl (.inl rfl)) pgs_nil))))
      (pss_cons (ps_for PassesOwn.never rfl (pi_list (pe_sortedLam (T := T) (N := ["_law_each", "_law_above"]) (fr := ["_law_above"]) (js := [1]) (each := "_law_each") (k := 1) rfl N.srt rfl (pa_cons (pv 1) pa_nil) TB rfl hmT hut rfl
          (capt_by (sc := defScope s__law_sizes) (by decide +kernel)) (by decide +kernel) rfl (nscope_by (by decide +kernel)) (fun _ _ _ _ _ _ => rfl) hr
          (tb := tTup (tCons (tCB (rLenS K) (tCons (tCall spPath [] E0 (tCons (tVar 1) (tCons (tVar 0) tNil))) tNil)) (tCons (tVar 0) tNil)))
          (fun A outer s H f c' hr2 => pe_tup (pa_cons (pe_callB call_len_seq (by rfl) N.len PySem.boot_len (pa_cons (pe_call DH.ok hr2 rfl DH.mgn DH.kp DH.bn .nil pass0 (pa_cons (pv 1) (pa_cons (pv 0) pa_nil))) pa_nil)) (pa_cons (pv 0) pa_nil))))) (pg_name (i := 5) scSz.nd rfl (.inl rfl))
        (pss_cons (ps_set (i := 6) scSz.nd rfl (.inl rfl) (pe_dget hu (pv 4) (pe_dget hu (pv 1) (pv 5) (fun _ _ => rfl)) (fun _ _ => rfl)))
        (pss_cons (ps_set (i := 7) scSz.nd rfl (.inl rfl) (pe_call DP.ok hr2 rfl DP.mgn DP.kp DP.bn .nil pass0 (pa_cons (pv 0) (pa_cons (pe_lst (pa_cons pe_int (pa_cons (pv 6) (pa_cons (pe_call DT.ok hr1 rfl DT.mgn DT.kp DT.bn .nil pass0 (pa_cons (pv 0) (pa_cons (pe_op op_add (pv 6) pe_int) pa_nil)))
          (pa_cons (pe_call DT.ok hr1 rfl DT.mgn DT.kp DT.bn .nil pass0 (pa_cons (pv 0) (pa_cons (pe_op op_add (pv 6) pe_int) pa_nil))) (pa_cons (pe_op op_fdiv (pv 6) pe_int) pa_nil)))))) pa_nil))))
        (pss_cons (ps_asg (pe_tup (pa_cons (pv 7) (pa_cons (pv 7) pa_nil))) (pg_tup rfl (pgs_cons (pg_sub (pv 3) (pv 5) (set_dict hu)) (pgs_cons (pg_sub (pv 4) (pv 5) (set_dict hu)) pgs_nil))))
        (pss_one (ps_dput hu (pv 4) (pe_dget hu (pv 1) (pv 5) (fun _ _ => rfl)) (pe_op op_sub (pv 6) (pv 7)) rfl))))))
      (pss_one (ps_ret (pe_callTy (call_dictP rfl) (by rfl) N.dct (by decide +kernel) (pa_cons (pe_lc (own := [("_law_flag", 5)]) (g := gName 5) (tt := tYes) (te := tTup (tCons (tVar 5) (tCons (tDGet (tVar 3) (tVar 5)) tNil))) rfl scSz.nd (pi_list (pe_call DO.ok hr2 rfl DO.mgn DO.kp DO.bn .nil pass0 (pa_cons (pv 0) (pa_cons (pv 1) pa_nil))))
        (blkOk_by (N := NSz) (sc := defScope s__law_sizes) (by decide +kernel))
        (fun _ _ _ _ _ => pg_name (i := 5) scSz.nd rfl (Or.inl rfl)) (fun _ _ _ _ _ => pts_nil) (fun _ _ _ _ _ => pe_tup (pa_cons (pv 5) (pa_cons (pe_dget hu (pv 3) (pv 5) (fun _ _ => rfl)) pa_nil)))) pa_nil))))), ?_⟩
    -- the two tables
    refine fun qf nqf ql nql => ⟨_, rfl, upd_same, [(Sum.inr "", V.int n)], rfl, by show 1 ≤ 15; omega, ?_⟩
    refine ⟨by show 2 ≤ sizeLine; omega, fun tp ntp => ⟨tp, _, rfl, .inl (.inl upd_same), rfl, _, _, rfl, _, _, rfl, rfl, ?_⟩⟩
    have qfl : qf ≠ ql := ne_of_none upd_same nql
    obtain ⟨H3, e3⟩ : ∃ X, X = upd (upd (upd (upd H qf (.dK [])) ql (.dK [])) ql (.dK (mergeK [] [(Sum.inr "", V.int n)]))) tp (.tup [.ref qf, .ref ql]) := ⟨_, rfl⟩
    have nql0 : H ql = none := by rw [upd_ne qfl.symm] at nql; exact nql
    have s0l : Same H (upd (upd (upd H qf (.dK [])) ql (.dK [])) ql (.dK (mergeK [] [(Sum.inr "", V.int n)]))) := ((same_new nqf).put nql0).put nql0
    have s03 : Same H H3 := e3 ▸ s0l.trans (same_new ntp)
    have hf3 : H3 qf = some (.dK (tblI [] fun _ => 0)) := by
      rw [e3, upd_ne (ne_of_none (by rw [upd_ne qfl, upd_ne qfl, upd_same]) ntp), upd_ne qfl, upd_ne qfl, upd_same] <;> rfl
    have hl3 : H3 ql = some (.dK (tblI [""] (resid [] n fun _ => 0))) := by
      rw [e3, upd_ne (ne_of_none upd_same ntp), upd_same]
      show some (HO.dK [(Sum.inr "", V.int n)]) = some (HO.dK [(Sum.inr "", V.int (n - 0))])
      rw [Int.sub_zero]
    have dr3 := dr.mono s03
    have qfd := dr.apart nqf
    have qld := dr.apart nql0
    have qqf : q ≠ qf := ne_of_none hq nqf
    have qql : q ≠ ql := ne_of_none hq nql0
    rw [← e3]
    -- in the order of their paths
    refine ⟨_, rfl, .ref q, rfl, tT.ext s03, fun c' H4 x34 t4 hc4 => ⟨q, prs t, t.map Prod.fst, keyP t, rfl, .inl (x34 _ _ (s03 _ _ hq) (fun ps z => nomatch z)), prs_keys t, by rw [List.length_map]; omega, ?_, fun ys H5 p pm pw k45 np => ⟨p, rfl, ⟨_, SqL.of upd_same⟩, ?_⟩⟩⟩
    · intro a ha H' k'
      refine ⟨_, rfl, _, rfl, q, a, t, rfl, .inl (k' _ _ (x34 _ _ (s03 _ _ hq) (fun ps z => nomatch z))), o, .inr ha, fun p2 H2 s2 n2 a2 => ⟨p2, _, rfl, .inr (.inl (.inl a2)), _, rfl, by show 2 ≤ sizeLine; omega, fun t2 nt2 => ⟨fun b u e => ?_, t2, rfl, ?_⟩⟩⟩
      · rw [upd_ne (ne_of_none (s2 _ _ e) nt2)]
        exact s2 _ _ e
      · rw [upd_same]
        show some (HO.tup [V.int (((pathOf t a).map V.str).length : Int), V.str a]) = some (HO.tup [V.int ((pathOf t a).length : Int), V.str a])
        rw [List.length_map]
    obtain ⟨H6, e6⟩ : ∃ X, X = upd H5 p (.lst (ys.map V.str)) := ⟨_, rfl⟩
    have x36 : ExtN H3 H6 := x34.trans (ExtN.of fun b u e => by rw [e6, upd_ne (ne_of_none (k45 b u e) np)]; exact k45 b u e)
    have t6 : Tabs T H6 := t4.ext fun b u e => by rw [e6, upd_ne (ne_of_none (k45 b u e) np)]; exact k45 b u e
    have a6 : H6 p = some (.lst (ys.map V.str)) := by rw [e6]; exact upd_same
    have dr6 := dr3.ext x36
    have pd : p ≠ d ∧ p ≠ c := ((dr3.ext x34).mono k45).apart np
    have hq6 := x36 _ _ (s03 _ _ hq) (fun ps z => nomatch z)
    have hf6 := x36 _ _ hf3 (fun ps z => nomatch z)
    have hl6 := x36 _ _ hl3 (fun ps z => nomatch z)
    have kn6 : KeepN d c H H6 := (Keep.of_same s03).n.trans (KeepN.of_ext x36)
    rw [← e6]
    have qd : q ≠ d ∧ q ≠ c := by
      obtain ⟨nx, mx, ct, cells, z1, z2, _⟩ := dr
      exact ⟨ne_of hq z1 (by intro z; cases z), ne_of hq z2 (by intro z; cases z)⟩
    have ppf : p ≠ qf := ne_of a6 hf6 (by intro z; cases z)
    have ppl : p ≠ ql := ne_of a6 hl6 (by intro z; cases z)
    have ly := pm.length_eq
    rw [List.length_map] at ly
    have ndy : ys.Nodup := pm.nodup_iff.mpr o.nd
    -- the loop's state
    refine for_it walk_list (fun j σ' H' => (∃ u5 u6 u7, σ' = [some (.ref d), some (.ref q), some (.int n), some (.ref qf), some (.ref ql), u5, u6, u7]) ∧ DrawAt H' d c ∧ Tabs T H' ∧ KeepN d c H H' ∧ H' p = some (.lst (ys.map V.str)) ∧ H' q = some (.dK (prs t)) ∧
      ∃ (t' : List (Str × Str)) (sz : Str → Int), Dealt t n (ys.take j) t' sz ∧ H' qf = some (.dK (tblI (ys.take j) sz)) ∧ H' ql = some (.dK (tblI ("" :: ys.take j) (resid t' n sz))))
      ⟨⟨_, _, _, rfl⟩, dr6, t6, kn6, a6, hq6, [], (fun _ => 0), Dealt.nil n0, hf6, hl6⟩ (fun j σ' H' _ z => SqL.of z.2.2.2.2.1) ?_ ?_
    · intro j y σ' Ha Hb hj ⟨⟨u5, u6, u7, e⟩, da, ta', ka, apa, aqa, t', sz, dl, hfa, hla⟩ ⟨eb, ex⟩
      subst e
      subst eb
      obtain ⟨a, hja, rfl⟩ := map_of ex
      have ma : a ∈ t.map Prod.fst := pm.mem_iff.mp (List.mem_of_getElem? hja)
      have anr : a ≠ "" := fun z => o.root (by rw [← z]; exact ma)
      have fresh : a ∉ ys.take j := fresh_at ndy hja rfl
      have jl := (List.getElem?_eq_some_iff.mp hja).1
      obtain ⟨pa, hpa⟩ := par_some o.nd ma
      have mpa := par_ahead o pm pw hja hpa
      have mpl : pa ∈ (("" : Str) :: ys.take j) := List.mem_cons.mpr mpa
      obtain ⟨m, em⟩ : ∃ m, m = resid t' n sz pa := ⟨_, rfl⟩
      have m0 : 0 ≤ m := by rw [em]; exact dl.res pa mpl
      have mn : m ≤ 10 ^ 30 := by
        have := dl.top_ pa mpl
        omega
      have dgp : ∀ {H'}, H' q = some (.dK (prs t)) → DGet H' q (.str a) (some (.str pa)) := fun {H'} hq' => by
        have z := DGet.k (k := Sum.inr a) hq'
        rw [val_prs, hpa] at z
        exact z
      refine ⟨_, rfl, _, rfl, _, rfl, q, .str pa, rfl, dgp aqa, ql, .int m, rfl, ?_, ?_⟩
      · have z := DGet.k (k := Sum.inr pa) hla
        rw [tblI_val mpl, ← em] at z
        exact z
      have bnd : (m + 1).natAbs < 2 ^ 300 := by omega
      refine ⟨_, rfl, _, rfl, _, rfl, _, rfl, _, _, rfl, rfl, d, c, m + 1, rfl, da, by omega, bnd, fun k1 H7 k10 k11 d7 kp7 => ?_⟩
      refine ⟨_, rfl, _, rfl, _, _, rfl, rfl, d, c, m + 1, rfl, d7, by omega, bnd, fun k2 H8 k20 k21 d8 kp8 => ?_⟩
      refine ⟨_, rfl, _, _, rfl, rfl, ⟨by decide, by decide⟩, by show 5 ≤ sizeLine; omega, fun pl npl => ?_⟩
      have pld := d8.apart npl
      refine ⟨d, c, _, 5, (fun _ x => ∃ z, x = .int z ∧ 0 ≤ z ∧ z ≤ m), rfl, d8.off pld.1 pld.2, .inl ⟨pl, ([0, m, k1, k2, m / 2] : List Int).map V.int, rfl, pld.1, pld.2, upd_same, rfl, items_ints fun z hz => ?_⟩, by decide, by decide, fun i x H9 px d9 k9 => ?_⟩
      · simp only [List.mem_cons, List.not_mem_nil, or_false] at hz
        rcases hz with rfl | rfl | rfl | rfl | rfl <;> omega
      obtain ⟨z, rfl, z0, z1⟩ := px
      have kpa9 : Keep d c Hb H9 := ((kp7.trans kp8).trans (Keep.of_same (same_new npl))).trans k9
      have hf9 := kpa9 _ _ qfd.1 qfd.2 hfa
      have hl9 := kpa9 _ _ qld.1 qld.2 hla
      have hq9 := kpa9 _ _ qd.1 qd.2 aqa
      have hp9 := kpa9 _ _ pd.1 pd.2 apa
      have t9 : Tabs T H9 := tabs_keep ta' da kpa9
      have kn9 : KeepN d c H H9 := ka.trans kpa9.n
      obtain ⟨dl', req⟩ := dl.step fresh anr (par_mem hpa) mpa z0 (by rw [← em]; exact z1)
      refine ⟨_, rfl, _, rfl, by show 2 ≤ sizeLine; omega, fun t2 nt2 => ⟨t2, _, rfl, .inl (.inl upd_same), rfl, ?_⟩⟩
      obtain ⟨H10, e10⟩ : ∃ X, X = upd H9 t2 (.tup [.int z, .int z]) := ⟨_, rfl⟩
      have s10 : Same H9 H10 := e10 ▸ same_new nt2
      rw [← e10]
      refine ⟨_, _, rfl, _, rfl, _, rfl, qf, _, rfl, DPut.k (k := Sum.inr a) (s10 _ _ hf9) (by rw [tblI_len, List.length_take]; omega), ?_⟩
      rw [tblI_congr (g' := fun x => if x = a then z else sz x) (fun b hb => (if_neg fun e => fresh (by rw [← e]; exact hb)).symm), tblI_snoc (g := fun x => if x = a then z else sz x) fresh (if_pos rfl).symm, ← take_more hja]
      refine ⟨_, _, rfl, _, rfl, _, rfl, ql, _, rfl, DPut.k (k := Sum.inr a) (by rw [upd_ne qfl.symm]; exact s10 _ _ hl9) (by rw [tblI_len, List.length_cons, List.length_take]; omega), rfl, ?_⟩
      have lkeep : (ys.take j).length = j := by rw [List.length_take]; omega
      have nin : a ∉ (("" : Str) :: ys.take j) := fun h => (List.mem_cons.mp h).elim anr fresh
      obtain ⟨g, eg⟩ : ∃ g : Str → Int, g = fun p => if p = a then z else resid t' n sz p := ⟨_, rfl⟩
      rw [tblI_congr (l := "" :: ys.take j) (g' := g) (fun b hb => by rw [eg]; exact (if_neg fun e => nin (by rw [← e]; exact hb)).symm), tblI_snoc (g := g) nin (by rw [eg]; exact (if_pos rfl).symm), List.cons_append, ← take_more hja]
      obtain ⟨H11, e11⟩ : ∃ X, X = upd (upd H10 qf (.dK (tblI (ys.take (j + 1)) fun x => if x = a then z else sz x))) ql (.dK (tblI ("" :: ys.take (j + 1)) g)) := ⟨_, rfl⟩
      have hq11 : H11 q = some (.dK (prs t)) := by rw [e11, upd_ne qql, upd_ne qqf]; exact s10 _ _ hq9
      have hl11 : H11 ql = some (.dK (tblI ("" :: ys.take (j + 1)) g)) := by rw [e11]; exact upd_same
      have mpl' : pa ∈ (("" : Str) :: ys.take (j + 1)) := by rw [take_more hja]; exact (List.mem_cons.mp mpl).elim (fun e => e ▸ List.mem_cons_self ..) fun m => List.mem_cons_of_mem _ (List.mem_append_left _ m)
      rw [← e11]
      refine ⟨_, rfl, _, rfl, _, _, rfl, rfl, _, rfl, _, rfl, _, rfl, q, .str pa, rfl, dgp hq11, ql, _, rfl, DPut.k (k := Sum.inr pa) hl11 (by rw [tblI_len, List.length_cons, List.length_take]; omega), ?_⟩
      rw [tblI_put mpl']
      refine ⟨⟨_, _, _, rfl⟩, ?_, ?_, fun b u b1 b2 eb nt => ?_, ?_, ?_, t' ++ [(a, pa)], (fun x => if x = a then z else sz x), by rw [take_more hja]; exact dl', ?_, ?_⟩
      · rw [e11]
        exact (((d9.mono s10).off qfd.1 qfd.2).off qld.1 qld.2).off qld.1 qld.2
      · refine tabs_put (u := .dK (tblI ("" :: ys.take (j + 1)) g)) ?_ hl11 NTab.dK
        rw [e11]
        exact tabs_put (tabs_put (t9.ext s10) (s10 _ _ hf9) NTab.dK) (by rw [upd_ne qfl.symm]; exact s10 _ _ hl9) NTab.dK
      · have n1 : b ≠ qf := ne_of_none eb nqf
        have n2 : b ≠ ql := ne_of_none eb nql0
        rw [upd_ne n2, e11, upd_ne n2, upd_ne n1]
        exact s10 _ _ (kn9 b u b1 b2 eb nt)
      · rw [upd_ne ppl, e11, upd_ne ppl, upd_ne ppf]
        exact s10 _ _ hp9
      · rw [upd_ne qql]
        exact hq11
      · rw [upd_ne qfl, e11, upd_ne qfl, upd_same]
      · rw [upd_same]
        congr 2
        refine tblI_congr fun b hb => ?_
        rw [take_more hja] at hb
        rw [req b hb, eg, em]
    · intro σ' H7 ⟨⟨u5, u6, u7, e⟩, da, ta', ka, apa, aqa, t', sz, dl, hfa, hla⟩
      subst e
      rw [List.length_map, List.take_length] at dl hfa
      have fe : Fea t n sz := by
        have pt : t'.Perm t := perm_pairs o.nd (by rw [dl.keys]; exact pm) dl.sub
        exact Fea.perm pt ⟨fun a ha => dl.nn a (by rw [← dl.keys]; exact ha), fun p hp => dl.res p (by rw [← dl.keys]; exact hp)⟩
      refine ⟨_, rfl, _, rfl, d, c, q, t.map Prod.fst, rfl, da, .inr ⟨prs t, .inl aqa, prs_keys t⟩, by rw [List.length_map]; omega, fun z hz => strOk_name (o.nm z hz), fun r zs H8 pz nr er d8 k8 => ⟨r, rfl, ⟨_, SqL.of er⟩, fun D nD => ?_⟩⟩
      have hf8 := k8 _ _ qfd.1 qfd.2 hfa
      have lz := pz.length_eq
      rw [List.length_map] at lz
      refine lc_it walk_list (fun i H' => Same H8 H' ∧ ∃ rs : List Addr, H' D = some (.lst (rs.map V.ref)) ∧ PrG (fun a => .int (sz a)) H' rs (zs.take i)) ⟨same_new nD, [], upd_same, .nil⟩ (fun i H' _ z => SqL.of (z.1 _ _ er)) ?_ ?_
      · intro i y Ha Hb hi ⟨q1, rs, hD, pr⟩ ⟨eb, ex⟩
        subst eb
        obtain ⟨a, ha, rfl⟩ := map_of ex
        have ma : a ∈ ys := pm.mem_iff.mpr (pz.mem_iff.mp (List.mem_of_getElem? ha))
        have lr := pr.len
        rw [List.length_take] at lr
        refine ⟨rfl, ?_⟩
        refine ⟨_, rfl, _, rfl, _, rfl, qf, .int (sz a), rfl, ?_, by show 2 ≤ sizeLine; omega, fun tq ntq => ?_⟩
        · have z := DGet.k (k := Sum.inr a) (q1 _ _ hf8)
          rw [tblI_val ma] at z
          exact z
        · have sq : Same Hb (upd Hb tq (.tup [.str a, .int (sz a)])) := same_new ntq
          refine ⟨_, sq _ _ hD, by rw [List.length_map]; omega, (q1.trans sq).put nD, rs ++ [tq], by rw [upd_same, List.map_append] <;> rfl, ?_⟩
          rw [take_more ha]
          exact PrG.push (sq _ _ hD) (PrG.snoc upd_same (pr.mono sq))
      · intro H9 ⟨q1, rs, hD, pr⟩
        rw [List.length_map, List.take_length] at pr
        refine ⟨D, rs, _, rfl, SqL.of hD, pr.kvs, fun p np => ?_⟩
        have ndz : zs.Nodup := pz.nodup_iff.mpr o.nd
        rw [merge_nd (by rw [map_fst]; exact ndz)]
        have K9 : Keep d c H7 H9 := k8.trans (Keep.of_same q1)
        have d9 := d8.mono q1
        have pd := d9.apart np
        have t9 : Tabs T H9 := tabs_keep ta' da K9
        have np7 := K9.free np pd.1 pd.2
        have npH : ∀ b o, H b = some o → (∀ ps, o ≠ .tbl ps) → b ≠ p := fun b u e nt z => by
          subst z
          rw [ka b u pd.1 pd.2 e nt] at np7
          cases np7
        exact k p zs sz _ pz fe npH upd_same (d9.mono (same_new np)) (tabs_new t9 np) (ka.trans (K9.trans (Keep.of_same (same_new np))).n)
end
end FT


/-! _law_spots of k04: a list of places with these sizes, in a drawn order -/
namespace FT
open PySem L2 TL ClX LiI
/-- so many of each place -/
def repL (ls : List Str) (m : Str → Nat) : List Str := (ls.map fun p => List.replicate (m p) p).flatten
theorem repL_more (m : Str → Nat) {ls : List Str} {j : Nat} {p : Str} (h : ls[j]? = some p) : repL (ls.take (j + 1)) m = repL (ls.take j) m ++ List.replicate (m p) p := by
  unfold repL
  rw [List.take_add_one, h]
  simp
theorem repL_mem {m : Str → Nat} {ls : List Str} {z : Str} (h : z ∈ repL ls m) : z ∈ ls := by
  unfold repL at h
  rw [List.mem_flatten] at h
  obtain ⟨l, hl, hz⟩ := h
  obtain ⟨p, hp, rfl⟩ := List.mem_map.mp hl
  rw [(List.mem_replicate.mp hz).2]
  exact hp
theorem repL_len (ls : List Str) (m : Str → Nat) : (repL ls m).length = (ls.map m).sum := by
  unfold repL
  induction ls with
  | nil => rfl
  | cons p ls ih => rw [List.map_cons, List.flatten_cons, List.length_append, ih, List.length_replicate, List.map_cons, List.sum_cons]
theorem repL_take (ls : List Str) (m : Str → Nat) (j : Nat) : (repL (ls.take j) m).length ≤ (repL ls m).length := by
  have e : repL ls m = repL (ls.take j) m ++ repL (ls.drop j) m := by
    unfold repL
    rw [← List.flatten_append, ← List.map_append, List.take_append_drop]
  rw [e, List.length_append]
  omega
theorem sum_nat {ls : List Str} {f : Str → Int} (h : ∀ p ∈ ls, 0 ≤ f p) : ((ls.map fun p => (f p).toNat).sum : Int) = (ls.map f).sum := by
  induction ls with
  | nil => rfl
  | cons p ls ih =>
    rw [List.map_cons, List.sum_cons, List.map_cons, List.sum_cons, Int.natCast_add, ih fun q hq => h q (List.mem_cons_of_mem _ hq), Int.toNat_of_nonneg (h p List.mem_cons_self)]
def spSpots : Sp := fun vs H Q _ => ∃ (d c q qh : Addr) (n : Nat) (t : List (Str × Str)) (l : List Str) (s : Str → Int), vs = [.ref d, .ref q, .ref qh, .int (n : Int)] ∧ DrawAt H d c ∧ H q = some (.dK (prs t)) ∧ TreeOk t ∧ H qh = some (.dK (tblI l s)) ∧ l.Perm (t.map Prod.fst) ∧ Fea t (n : Int) s ∧ n ≤ 60 ∧
  ∀ (p : Addr) (zs : List Str) (H' : Hp), zs.length = n → (∀ z ∈ zs, Pl t z) → H p = none → H' p = some (.lst (zs.map V.str)) → DrawAt H' d c → Keep d c H H' → Q (.ref p) H'
abbrev NSp4 : List Str := ["_law_draw", "_law_above", "_law_how", "_law_many", "_law_left", "_law_found", "_law_spot"]
section
variable {P : Program} {w : World} {K : PySem.W.Frag} {mg : Str → Option Value} {base : Heap}
theorem scSp4 : FnScope NSp4 ["_law_draw", "_law_above", "_law_how", "_law_many"] (defScope s__law_spots) := ⟨rfl, rfl, rfl, by decide +kernel, rfl, by decide +kernel, by decide +kernel⟩
theorem ok_spots {f fR fO : Addr} {fd fdR fdO : FuncData} (F : Fun K "_law_spots" "_law_spots" s__law_spots f fd) (DR : Dn P w K mg base CX0 1 "_law_residents" ["_law_above", "_law_many", "_law_how"] spLawRes fR fdR) (DO : Dn P w K mg base CX0 2 "_law_order" ["_law_draw", "_law_some"] (spOrder K) fO fdO) :
    FnOk P w K mg base CX0 3 f fd ["_law_draw", "_law_above", "_law_how", "_law_many"] spSpots := by
  refine F.ok scSp4 (fun vs H Q E h => ?_) (fun cdv A outer s H vs Q E hr h => ?_)
  · obtain ⟨d, c, q, qh, n, t, l, s, rfl, _⟩ := h
    rfl
  · obtain ⟨d, c, q, qh, n, t, l, sz, rfl, dr, hq, o, hh, pl, fe, n60, k⟩ := h
    have hu := hu_of hr
    have hr1 : Room 1 _ := hr.mono (by decide)
    have hr2 : Room 2 _ := hr.mono (by decide)
    have nd := scSp4.nd
    have big : 1000 ≤ sizeLine := by decide
    have few := o.few
    refine ⟨_, pss_cons (ps_par (i := 4) (j := 5) rfl nd rfl rfl (by decide) rfl rfl (pa_cons (pe_call DR.ok hr1 rfl DR.mgn DR.kp DR.bn .nil pass0 (pa_cons (pv 1) (pa_cons (pv 3) (pa_cons (pv 2) pa_nil)))) (pa_cons (pe_lst pa_nil) pa_nil)) (by rfl))
      (pss_cons (ps_lock (ps_for PassesOwn.never rfl (pi_keys (pv 4)) (pg_name (i := 6) nd rfl (.inl rfl))
        (pss_one (ps_set (i := 5) nd rfl (.inl rfl) (pe_op op_cat (pv 5) (pe_op op_rep (pe_lst (pa_cons (pv 6) pa_nil)) (pe_dget hu (pv 4) (pv 6) (fun _ _ => rfl))))))))
      (pss_one (ps_ret (pe_call DO.ok hr2 rfl DO.mgn DO.kp DO.bn .nil pass0 (pa_cons (pv 0) (pa_cons (pv 5) pa_nil)))))), ?_⟩
    refine ⟨_, rfl, _, rfl, _, rfl, q, qh, (n : Int), t, l, sz, rfl, hq, o, hh, pl, fun r H1 ks s1 nr perm srt hr1' => ?_⟩
    obtain ⟨pls4, epls⟩ : ∃ x, x = ("" : Str) :: ks := ⟨_, rfl⟩
    rw [← epls] at hr1'
    have ppl : pls4.Perm (plc t) := by rw [epls]; exact perm.cons ("" : Str)
    obtain ⟨m, em⟩ : ∃ m : Str → Nat, m = fun p => (resid t (n : Int) sz p).toNat := ⟨_, rfl⟩
    have nn : ∀ p ∈ pls4, 0 ≤ resid t (n : Int) sz p := fun p hp => fe.res p (ppl.mem_iff.mp hp)
    have tot : (repL pls4 m).length = n := by
      have e := sum_nat nn
      have e2 : (pls4.map (resid t (n : Int) sz)).sum = ((plc t).map (resid t (n : Int) sz)).sum := by
        exact sum_perm (ppl.map _)
      rw [e2, resid_sum o] at e
      rw [repL_len, em]
      omega
    refine ⟨by show 0 ≤ sizeLine; omega, fun e0 ne0 => ?_⟩
    obtain ⟨H2, e2⟩ : ∃ X, X = upd H1 e0 (.lst ([] : List V)) := ⟨_, rfl⟩
    have s2 : Same H1 H2 := e2 ▸ same_new ne0
    have he2 : H2 e0 = some (.lst ([] : List V)) := by rw [e2]; exact upd_same
    have er : e0 ≠ r := (ne_of_none hr1' ne0).symm
    have hr2' := s2 _ _ hr1'
    rw [← e2]
    clear e2
    refine ⟨_, _, rfl, r, _, hr2', trivial, fun od => ⟨_, rfl, r, od, rfl, .inl ⟨_, upd_same, ?_⟩⟩⟩
    refine for_it walk_keys (fun j σ' H' => (∃ p5 u6, σ' = [some (.ref d), some (.ref q), some (.ref qh), some (.int (n : Int)), some (.ref r), some (.ref p5), u6] ∧ H' p5 = some (.lst ((repL (pls4.take j) m).map V.str)) ∧ p5 ≠ r ∧ H p5 = none) ∧ H' r = some (.frz od (.dK (tblI pls4 (resid t (n : Int) sz)))) ∧ (∀ b u, b ≠ r → H2 b = some u → H' b = some u))
      ⟨⟨e0, none, rfl, by rw [upd_ne er]; exact he2, er, s1.free ne0⟩, upd_same, fun b u nb e => by rw [upd_ne nb]; exact e⟩ (fun j σ' H' _ z => z.2.1) ?_ ?_
    · intro j y σ' Ha Hb hj ⟨⟨p5, u6, e, hp5, p5r, np5⟩, ar, sb⟩ ⟨eb, kk, vv, hk, ey⟩
      subst e
      subst eb
      subst ey
      obtain ⟨a, ha, rfl, rfl⟩ := tblI_at hk
      rw [show kV (Sum.inr a) = V.str a from rfl]
      have ma := List.mem_of_getElem? ha
      have dg : ∀ {H5 : Hp}, H5 r = some (.frz od (.dK (tblI pls4 (resid t (n : Int) sz)))) → DGet H5 r (.str a) (some (.int (resid t (n : Int) sz a))) := fun h => .inl ⟨_, Sum.inr a, .inr ⟨od, h⟩, rfl, (tblI_val ma).symm⟩
      have more := repL_more m ha
      have tk := repL_take pls4 m (j + 1)
      rw [more, List.length_append, List.length_replicate, tot] at tk
      have ea : m a = (resid t (n : Int) sz a).toNat := by rw [em]
      refine ⟨_, rfl, _, rfl, by show 1 ≤ sizeLine; omega, fun p1 n1 => ?_⟩
      have t1 := same_new (o := .lst ([.str a] : List V)) n1
      refine ⟨_, rfl, _, rfl, r, _, rfl, dg (t1 _ _ ar), p1, _, [.str a], rfl, rfl, upd_same, by have := nn a ma; omega, by rw [← Int.toNat_of_nonneg (nn a ma)]; omega, by rw [← ea]; show 1 * _ ≤ sizeLine; omega, fun p2 n2 => ?_⟩
      have t2 := same_new (o := .lst (List.replicate (resid t (n : Int) sz a).toNat [V.str a]).flatten) n2
      have t12 := t1.trans t2
      have el : (List.replicate (resid t (n : Int) sz a).toNat [V.str a]).flatten = (List.replicate (m a) a).map V.str := by rw [← ea]; exact rep_strs2 _ _
      refine ⟨p5, p2, _, _, rfl, rfl, t12 _ _ hp5, upd_same, by rw [el, List.length_map, List.length_map, List.length_replicate]; omega, fun p3 n3 => ?_⟩
      have t3 := t12.trans (same_new (o := .lst ((repL (pls4.take j) m).map V.str ++ (List.replicate (resid t (n : Int) sz a).toNat [V.str a]).flatten)) n3)
      refine ⟨⟨p3, _, rfl, by rw [upd_same, el, more, List.map_append] <;> rfl, (ne_of_none (t12 _ _ ar) n3).symm, ?_⟩, t3 _ _ ar, fun b u nb e => t3 _ _ (sb b u nb e)⟩
      have n3' := t12.free n3
      cases e : H p3 with
      | none => rfl
      | some u =>
        have e1 := s2 _ _ (s1 _ _ e)
        have p3r : p3 ≠ r := fun z => by rw [z, nr] at e; cases e
        rw [sb p3 u p3r e1] at n3'
        cases n3'
    · intro σ' H4 ⟨⟨p5, u6, e, hp5, p5r, np5⟩, ar, sb⟩
      subst e
      rw [tblI_len, List.take_length] at hp5
      refine ⟨ar, ?_⟩
      have sU : Same H (upd H4 r (.dK (tblI pls4 (resid t (n : Int) sz)))) := fun b u e => by
        have br : b ≠ r := ne_of_none e nr
        rw [upd_ne br]
        exact sb b u br (s2 _ _ (s1 _ _ e))
      have strsS : ∀ z ∈ repL pls4 m, Pl t z := fun z hz => List.mem_cons.mp (ppl.mem_iff.mp (repL_mem hz))
      refine ⟨_, rfl, _, rfl, d, c, p5, repL pls4 m, rfl, dr.mono sU, .inl (SqL.of (by rw [upd_ne p5r]; exact hp5)), by rw [tot]; omega, fun z hz => (strsS z hz).elim (fun e => by rw [e]; exact strOk_root) fun mm => strOk_name (o.nm _ mm), fun p ys H5 py np hp5' dr5 k5 => ?_⟩
      exact k p ys H5 (by rw [py.length_eq, tot]) (fun z hz => strsS z (py.mem_iff.mp hz)) (sU.free np) hp5' dr5 ((Keep.of_same sU).trans k5)
end
end FT


/-! the law of k04 -/
namespace FT
open PySem L2 TL ClX LamX NdefX LiI 
def spMadeX (T : List (Addr × Str)) (CF CA : Addr) : Sp := fun vs H Q E => ∃ d c, spMade T CF CA d c vs H Q E
theorem fnG_ex {P : Program} {w : World} {K : PySem.W.Frag} {mg : Str → Option Value} {base : Heap} {CX : CXT} {k : Nat} {f : Addr} {fd : FuncData} {ps : List Str} {sp : Addr → Addr → Sp} (h : ∀ d c, FnG P w K mg base CX k f fd ps (sp d c)) : FnG P w K mg base CX k f fd ps (fun vs H Q E => ∃ d c, sp d c vs H Q E) :=
  ⟨fun vs H Q E ⟨d, c, q⟩ => (h d c).len vs H Q E q, fun A outer s H args us vs Q E clr hr e0 b r ⟨d, c, q⟩ => (h d c).run A outer s H args us vs Q E clr hr e0 b r q⟩
structure W04 (P : Program) (w : World) (K : PySem.W.Frag) (mg : Str → Option Value) (base : Heap) (CF CA CU CP : Addr) (mc mcA : Value) (T : List (Addr × Str)) (f : Nat → Addr) (fd : Nat → FuncData) : Prop where
  Z : Fc K mg CF mc
  B : Ac K mg CA mcA
  bg : Dn P w K mg base CX0 1 "_law_begin" ["_law_script"] (spBegin K) (f 0) (fd 0)
  dt : Dn P w K mg base CX0 1 "_law_take" ["_law_draw", "_law_size"] spDraw (f 1) (fd 1)
  dp : Dn P w K mg base CX0 2 "_law_pick" ["_law_draw", "_law_some"] (spPick K) (f 2) (fd 2)
  pa : Dn P w K mg base CX0 4 "_law_parents" ["_law_draw", "_law_many"] spParents (f 3) (fd 3)
  fi : FnOk P w K mg base CX0 3 (f 4) (fd 4) ["self", "parents"] (spFInit CF)
  fim : Mk K CF (f 4)
  fib : Binds K (fd 4) ["self", "parents"] []
  sz : Dn P w K mg base CX0 5 "_law_sizes" ["_law_draw", "_law_above", "_law_many"] (spSizes T) (f 5) (fd 5)
  so : Dn P w K mg base CX0 3 "_law_spots" ["_law_draw", "_law_above", "_law_how", "_law_many"] spSpots (f 6) (fd 6)
  du : Dn P w K mg base CX0 2 "_law_due" ["_law_above", "_law_item"] (spDueW K) (f 7) (fd 7)
  ai : FnOk P w K mg base (L2.CX P w) 3 (f 8) (fd 8) ["self", "forest", "places"] (spAInitE K CF CA CU CP)
  aim : Mk K CA (f 8)
  aik : KBn K (fd 8) ["self", "forest", "places"] 1 ["places", "forest"] (ctn2 Value) (ctn2 V)
  md : FnG P w K mg base CX0 8 (f 9) (fd 9) ["_law_draw", "_law_told_here", "_law_grove", "_law_above", "_law_item", "_law_at"] (spMadeX T CF CA)
  mdm : mg "_law_made_right" = some (.ref (f 9))
  mdk : PySem.W.keepIn K (.ref (f 9)) = true
  mdb : Binds K (fd 9) ["_law_draw", "_law_told_here", "_law_grove", "_law_above", "_law_item", "_law_at"] []
  er : FnG P w K mg base CX0 7 (f 10) (fd 10) ["_law_draw", "_law_grove", "_law_many"] (spEmpR T CF)
  erm : mg "_law_empty_right" = some (.ref (f 10))
  erk : PySem.W.keepIn K (.ref (f 10)) = true
  erb : Binds K (fd 10) ["_law_draw", "_law_grove", "_law_many"] []
theorem isDat_put {K : PySem.W.Frag} {H : Hp} {l : Addr} {xs ys : List V} {v : V} (hl : H l = some (.lst xs)) (h : IsDat K H v) : IsDat K (upd H l (.lst ys)) v := by
  obtain ⟨T0, h⟩ := h
  cases h with
  | non => exact ⟨_, .non⟩
  | bl b => exact ⟨_, .bl b⟩
  | int i => exact ⟨_, .int i⟩
  | str z => exact ⟨_, .str z⟩
  | @lst a zs h =>
    by_cases e : a = l
    · rw [e]; exact ⟨_, .lst upd_same⟩
    · exact ⟨_, .lst (by rw [upd_ne e]; exact h)⟩
  | @tup a zs h => exact ⟨_, .tup (by rw [upd_ne (ne_of h hl (by intro z; cases z))]; exact h)⟩
  | @dct a zs h => exact ⟨_, .dct (by rw [upd_ne (ne_of h hl (by intro z; cases z))]; exact h)⟩
theorem isDat_keep {K : PySem.W.Frag} {H H' : Hp} {d c : Addr} {v : V} (dr : DrawAt H d c) (dr' : DrawAt H' d c) (k : KeepN d c H H') (h : IsDat K H v) : IsDat K H' v := let ⟨T0, x⟩ := h; ⟨T0, x.keepN dr dr' k⟩
/-- what stands in a turn -/
structure G4 (T : List (Addr × Str)) (CF d c x q : Addr) (t ts : List (Str × Str)) (H : Hp) : Prop where
  dr : DrawAt H d c
  tb : Tabs T H
  fa : FAt CF H x ts
  hq : H q = some (.dK (prs t))
theorem G4.keep {T : List (Addr × Str)} {CF d c x q : Addr} {t ts : List (Str × Str)} {H H' : Hp} (g : G4 T CF d c x q t ts H) (dr : DrawAt H' d c) (k : Keep d c H H') : G4 T CF d c x q t ts H' := ⟨dr, tabs_keep g.tb g.dr k, g.fa.keepN g.dr k.n, k.n.dk g.dr g.hq⟩
theorem G4.same {T : List (Addr × Str)} {CF d c x q : Addr} {t ts : List (Str × Str)} {H H' : Hp} (g : G4 T CF d c x q t ts H) (s : Same H H') : G4 T CF d c x q t ts H' := g.keep (g.dr.mono s) (Keep.of_same s)
theorem G4.put {T : List (Addr × Str)} {CF d c x q l : Addr} {t ts : List (Str × Str)} {H : Hp} {xs ys : List V} (g : G4 T CF d c x q t ts H) (hl : H l = some (.lst xs)) (ld : l ≠ d) (lc : l ≠ c) : G4 T CF d c x q t ts (upd H l (.lst ys)) := by
  obtain ⟨dx, dq, hx, hd⟩ := g.fa
  refine ⟨g.dr.off ld lc, tabs_put g.tb hl NTab.lst, ⟨dx, dq, by rw [upd_ne (ne_of hx hl (by intro z; cases z))]; exact hx, by rw [upd_ne (ne_of hd hl (by intro z; cases z))]; exact hd⟩, by rw [upd_ne (ne_of g.hq hl (by intro z; cases z))]; exact g.hq⟩
theorem G4.extN {T : List (Addr × Str)} {CF d c x q : Addr} {t ts : List (Str × Str)} {H H' : Hp} (g : G4 T CF d c x q t ts H) (e : ExtN H H') (tb : Tabs T H') : G4 T CF d c x q t ts H' := ⟨g.dr.ext e, tb, g.fa.extN e, e _ _ g.hq (fun ps z => nomatch z)⟩
/-- a list of so many items -/
def It1 (K : PySem.W.Frag) (d c : Addr) (n : Nat) (H : Hp) (iv : V) : Prop := ∃ l0 xs, iv = .ref l0 ∧ H l0 = some (.lst xs) ∧ l0 ≠ d ∧ l0 ≠ c ∧ (∀ x ∈ xs, IsDat K H x) ∧ xs.length = n
/-- an argument that stands off the drawing state -/
def PlA (K : PySem.W.Frag) (d c : Addr) (H : Hp) (iv : V) (o : Option (List V)) : Prop := PlV K H iv o ∧ ∀ xs, o = some xs → ∃ a, iv = .ref a ∧ a ≠ d ∧ a ≠ c
theorem PlA.keep {K : PySem.W.Frag} {d c : Addr} {H H' : Hp} {iv : V} {o : Option (List V)} (dr : DrawAt H d c) (dr' : DrawAt H' d c) (k : KeepN d c H H') (h : PlA K d c H iv o) : PlA K d c H' iv o := by
  refine ⟨?_, h.2⟩
  cases o with
  | none => exact let ⟨T0, x, n⟩ := h.1; ⟨T0, x.keepN dr dr' k, n⟩
  | some xs =>
    obtain ⟨a, e, q, dat, l⟩ := h.1
    obtain ⟨a', e', ad, ac⟩ := h.2 xs rfl
    have ea : a' = a := by rw [e] at e'; exact (V.ref.inj e').symm
    subst ea
    exact ⟨a', e, q.imp (fun h => k _ _ ad ac h fun ps z => nomatch z) (fun h => k _ _ ad ac h fun ps z => nomatch z), fun x hx => isDat_keep dr dr' k (dat x hx), l⟩
theorem It1.pl {K : PySem.W.Frag} {d c : Addr} {n : Nat} {H : Hp} {iv : V} (n60 : n ≤ 60) (h : It1 K d c n H iv) : ∃ o, PlA K d c H iv o := by
  obtain ⟨l0, xs, e, hl, ld, lc, dat, l⟩ := h
  exact ⟨some xs, ⟨l0, e, .inl hl, dat, by omega⟩, fun ys _ => ⟨l0, e, ld, lc⟩⟩
def spLaw04 (K : PySem.W.Frag) (T : List (Addr × Str)) : Sp := fun vs H Q _ => ∃ (a : Addr) (ns : List Int), vs = [.ref a] ∧ SqL K H a (ns.map V.int) ∧ ns.length ≤ 63 ∧ Tabs T H ∧ ∀ H', Q (.bl true) H'
abbrev N04 : List Str := ["_law_script", "_law_draw", "_law_turn", "_law_above", "_law_many", "_law_grove", "_law_item", "_law_at", "_law_way", "_law_due_here", "_law_told_here"]
section
variable {P : Program} {w : World} {K : PySem.W.Frag} {mg : Str → Option Value} {base : Heap}
theorem sc04 : FnScope N04 ["_law_script"] (defScope s_law) := ⟨rfl, rfl, rfl, by decide +kernel, rfl, by decide +kernel, by decide +kernel⟩
theorem ok_law04 {f0 fEr CF CA CU CP R co ta : Addr} {mc mcA : Value} {C : Nat → Addr} {T : List (Addr × Str)} {f : Nat → Addr} {fd : Nat → FuncData} {fd0 fdEr : FuncData} (F : FunC K "law" "law" s_law f0 fd0 co) (N : Nm mg) (L : W04 P w K mg base CF CA CU CP mc mcA T f fd)
    (GE : Ge K mg "_law_told" s__law_told fEr fdEr) (CC : Cl5T K mg R C) (eU : C 0 = CU) (eP : C 1 = CP) (TB : TabB base mg co ta) (hmT : (ta, lamQ "law") ∈ T) (hut : ∀ p ∈ T, p.1 = ta → p.2 = lamQ "law") : FnG P w K mg base CX0 10 f0 fd0 ["_law_script"] (spLaw04 K T) := by
  obtain ⟨um, cm⟩ := L.B.most
  refine F.okG sc04 (fun vs H Q E h => ?_) (fun A outer s H vs Q E clr hr h => ?_)
  · obtain ⟨a, ns, rfl, _⟩ := h
    rfl
  · obtain ⟨a, nums, rfl, hS, hlen, tT, k⟩ := h
    have hu := hu_of hr
    have hr1 : Room 1 _ := hr.mono (by decide)
    have hr2 : Room 2 _ := hr.mono (by decide)
    have hr3 : Room 3 _ := hr.mono (by decide)
    have hr4 : Room 4 _ := hr.mono (by decide)
    have hr5 : Room 5 _ := hr.mono (by decide)
    have hr6 : Room 6 _ := hr.mono (by decide)
    have hr7 : Room 7 _ := hr.mono (by decide)
    have hr8 : Room 8 _ := hr.mono (by decide)
    have nd := sc04.nd
    have big : 4000 ≤ sizeLine := by decide
    refine ⟨_, pss_cons (ps_set (i := 1) nd rfl (.inl rfl) (pe_call L.bg.ok hr1 rfl L.bg.mgn L.bg.kp L.bg.bn .nil pass0 (pa_cons (pv 0) pa_nil)))
      (pss_cons (ps_for PassesOwn.never rfl (pi_range1 rfl N.rng (pa_cons (pe_op op_add pe_int (pe_callB (call_min2 rfl) (by rfl) N.min (by decide +kernel) (pa_cons (pe_callB call_len_seq (by rfl) N.len PySem.boot_len (pa_cons (pv 0) pa_nil)) (pa_cons pe_int pa_nil)))) pa_nil)) (pg_name (i := 2) nd rfl (.inl rfl))
        (pss_cons (ps_par (i := 3) (j := 4) rfl nd rfl rfl (by decide) rfl rfl (pa_cons (pe_call L.pa.ok hr4 rfl L.pa.mgn L.pa.kp L.pa.bn .nil pass0 (pa_cons (pv 1) (pa_cons (pe_op op_add pe_int (pe_call L.dt.ok hr1 rfl L.dt.mgn L.dt.kp L.dt.bn .nil pass0 (pa_cons (pv 1) (pa_cons pe_int pa_nil)))) pa_nil)))
              (pa_cons (pe_op op_add pe_int (pe_call L.dt.ok hr1 rfl L.dt.mgn L.dt.kp L.dt.bn .nil pass0 (pa_cons (pv 1) (pa_cons pe_int pa_nil)))) pa_nil)) (by rfl))
        (pss_cons (ps_asg (pe_tup (pa_cons (pe_make L.fim L.fi hr4 (by rfl) L.Z.gF L.fib .nil pass0 (pa_cons (pv 3) pa_nil)) (pa_cons (pe_call L.so.ok hr3 rfl L.so.mgn L.so.kp L.so.bn .nil pass0 (pa_cons (pv 1) (pa_cons (pv 3) (pa_cons (pe_call L.sz.ok hr5 rfl L.sz.mgn L.sz.kp L.sz.bn .nil pass0 (pa_cons (pv 1) (pa_cons (pv 3) (pa_cons (pv 4) pa_nil)))) (pa_cons (pv 4) pa_nil))))) pa_nil)))
              (pg_tup rfl (pgs_cons (pg_name (i := 5) nd rfl (.inr rfl)) (pgs_cons (pg_name (i := 6) nd rfl (.inr rfl)) pgs_nil))))
        (pss_cons (ps_par (i := 7) (j := 8) rfl nd rfl rfl (by decide) rfl rfl (pa_cons (pe_call L.dt.ok hr1 rfl L.dt.mgn L.dt.kp L.dt.bn .nil pass0 (pa_cons (pv 1) (pa_cons (pv 4) pa_nil))) (pa_cons (pe_call L.dt.ok hr1 rfl L.dt.mgn L.dt.kp L.dt.bn .nil pass0 (pa_cons (pv 1) (pa_cons pe_int pa_nil))) pa_nil)) (by rfl))
        (pss_cons (ps_if (pt_cmpR op_eq (pv 8) pe_int (nomark _))
            (pss_cons (ps_asg (pe_call L.dp.ok hr2 rfl L.dp.mgn L.dp.kp L.dp.bn .nil pass0 (pa_cons (pv 1) (pa_cons (pe_lst (pa_cons pe_non (pa_cons pe_str (pa_cons pe_int (pa_cons (pe_tup (pa_cons pe_str pa_nil)) (pa_cons (pe_lst (pa_cons pe_str pa_nil)) (pa_cons pe_dnewK (pa_cons pe_bl (pa_cons pe_str pa_nil))))))))) pa_nil))) (pg_sub (pv 6) (pv 7) set_list))
            (pss_one (ps_asg (pe_call L.dp.ok hr2 rfl L.dp.mgn L.dp.kp L.dp.bn .nil pass0 (pa_cons (pv 1) (pa_cons (pe_lst (pa_cons pe_non (pa_cons pe_str (pa_cons (pe_ix ix_list (pv 6) (pv 7) (fun _ _ => rfl)) (pa_cons (pe_ix ix_list (pv 6) (pv 7) (fun _ _ => rfl)) pa_nil))))) pa_nil))) (pg_sub (pv 6) (pe_call L.dt.ok hr1 rfl L.dt.mgn L.dt.kp L.dt.bn .nil pass0 (pa_cons (pv 1) (pa_cons (pv 4) pa_nil))) set_list)))) pss_nil)
        (pss_cons (ps_if (pt_cmpR op_eq (pv 8) pe_int (nomark _))
            (pss_one (ps_set (i := 6) nd rfl (.inr rfl) (pe_call L.dp.ok hr2 rfl L.dp.mgn L.dp.kp L.dp.bn .nil pass0 (pa_cons (pv 1) (pa_cons (pe_lst (pa_cons pe_non (pa_cons (pe_lst pa_nil) (pa_cons (pe_tup pa_nil) (pa_cons pe_str (pa_cons pe_dnewK (pa_cons pe_int (pa_cons (pe_disp (pps_cons pe_str pe_str pps_nil) (by rfl) (by rfl) (fun z => by cases z) (by decide)) (pa_cons (pe_op op_rep (pe_lst (pa_cons pe_str pa_nil)) pe_int) (pa_cons (pe_op op_repT (pe_tup (pa_cons pe_str pa_nil)) pe_int) pa_nil)))))))))) pa_nil))))) pss_nil)
        (pss_cons (ps_if (pt_cmpR op_eq (pv 8) pe_int (nomark _)) (pss_one (ps_set (i := 6) nd rfl (.inr rfl) (pe_callTy call_tuple_of (by rfl) N.tup (by decide +kernel) (pa_cons (pv 6) pa_nil)))) pss_nil)
        (pss_cons (ps_par (i := 9) (j := 10) rfl nd rfl rfl (by decide) rfl rfl (pa_cons (pe_call L.du.ok hr2 rfl L.du.mgn L.du.kp L.du.bn .nil pass0 (pa_cons (pv 3) (pa_cons (pv 6) pa_nil)))
              (pa_cons (pe_lamS (T := T) (k := 4) (t := fun E => tMakeK CA 0 (["places", "forest"] : List Str).length (spAInitE K CF CA CU CP) (ctn2 V) E tNil (tCons (tVar 6) (tCons (tVar 5) tNil))) rfl GE.mgn GE.fn GE.bn scTd rfl (.inl rfl) (fun cdg => told_gives N CC) TB rfl hmT hut hr6 (lamS_by (sc := defScope s_law) (by decide +kernel)) rfl (fun _ _ _ _ _ => rfl)
                (fun A outer s H E f c' hr2 => pe_makeK0 L.aim L.ai hr2 (by rfl) L.B.gA L.aik (passes_call (takes_of rfl rfl rfl rfl) (fun _ _ _ _ h => h)) (pk_cons (pv 6) (pk_cons (pv 5) pk_nil)))) pa_nil)) (by rfl))
        (pss_cons (ps_if (PW.pt (pw_and (pt_cmpR op_notN (pv 9) pe_non (nomark _)) (pw_and1 (pt_cmpR op_ne (pe_callB (call_reprR clr.deeper hr.units) (by rfl) N.rep (by decide +kernel) (pa_cons (pv 10) pa_nil)) (pe_callB (call_reprR clr.deeper hr.units) (by rfl) N.rep (by decide +kernel) (pa_cons (pv 9) pa_nil)) (nomark _))))) (pss_one (ps_ret pe_bl)) pss_nil)
        (pss_cons (ps_if (PW.pt (pw_and (pt_cmpR op_isN (pv 9) pe_non (nomark _)) (pw_and1 (pt_not (pt_val (pe_callG L.md clr.deeper hr8 rfl L.mdm L.mdk L.mdb .nil pass0 (pa_cons (pv 1) (pa_cons (pv 10) (pa_cons (pv 5) (pa_cons (pv 3) (pa_cons (pv 6) (pa_cons (pv 7) pa_nil)))))))))))) (pss_one (ps_ret pe_bl)) pss_nil)
        (pss_one (ps_if (pt_not (pt_val (pe_callG L.er clr.deeper hr7 rfl L.erm L.erk L.erb .nil pass0 (pa_cons (pv 1) (pa_cons (pv 5) (pa_cons (pv 4) pa_nil)))))) (pss_one (ps_ret pe_bl)) pss_nil))))))))))))
      (pss_one (ps_ret (pe_cmpR op_eq (pe_cval (pe_glob (v := .ref CA) (by rfl) L.B.gA rfl)) pe_int (nomark _))))), ?_⟩
    refine ⟨_, rfl, a, nums, rfl, hS, hlen, fun H0 d c s0 ndd ncc dr0 => ?_⟩
    have tT0 : Tabs T H0 := tT.ext s0
    refine ⟨_, rfl, a, _, rfl, .inl (Same.sql s0 hS), _, _, rfl, _, _, rfl, rfl, ?_⟩
    obtain ⟨m, em⟩ : ∃ m : Int, m = 5 + (if (15 : Int) < ((nums.map V.int).length : Int) then 15 else ((nums.map V.int).length : Int)) := ⟨_, rfl⟩
    have lm : 0 ≤ m ∧ m ≤ 20 := by
      rw [List.length_map] at em
      subst em
      split <;> constructor <;> omega
    refine ⟨m, by rw [em] <;> rfl, by omega, by omega, ?_⟩
    refine for_it (walk_range (lo := 0) (n := m.toNat)) (fun j σ' H' => (∃ u2 u3 u4 u5 u6 u7 u8 u9 u10, σ' = [some (.ref a), some (.ref d), u2, u3, u4, u5, u6, u7, u8, u9, u10]) ∧ DrawAt H' d c ∧ Tabs T H') ⟨⟨_, _, _, _, _, _, _, _, _, rfl⟩, dr0, tT0⟩ (fun _ _ _ _ _ => trivial) ?_ ?_
    rotate_left
    · intro σ' He _
      refine ⟨CA, mcA, _, um, rfl, L.B.rd, cm, rfl, ?_⟩
      rw [decide_eq_true rfl]
      exact k He
    intro jj xj σ' Ha Hb hj ⟨⟨u2, u3, u4, u5, u6, u7, u8, u9, u10, e⟩, dr, tb⟩ ⟨ea, eb⟩
    subst e
    subst ea
    subst eb
    clear em lm hj
    -- the tree, how many users
    refine seq_join (fun σ' H' => ∃ (q : Addr) (t : List (Str × Str)) (n : Nat), σ' = [some (.ref a), some (.ref d), some (.int (0 + ((jj : Nat) : Int))), some (.ref q), some (.int (n : Int)), u5, u6, u7, u8, u9, u10] ∧ TreeOk t ∧ 1 ≤ n ∧ n ≤ 60 ∧ DrawAt H' d c ∧ Tabs T H' ∧ H' q = some (.dK (prs t))) (fun D' nxD => ?_) (fun σ3 H3 ⟨q, t, n, e3, o, n1, n60, dr3, tb3, hq3⟩ => ?_)
    · refine ⟨_, rfl, _, rfl, d, c, 12, rfl, dr, by decide, by decide, fun k1 H1 k10 k11 dr1 kp1 => ⟨_, _, rfl, rfl, d, c, (1 + k1).toNat, by rw [Int.toNat_of_nonneg (by omega)] <;> rfl, dr1, by omega, by omega, fun q t H2 o lt nq hq2 dr2 kp2 => ?_⟩⟩
      refine ⟨_, rfl, d, c, 60, rfl, dr2, by decide, by decide, fun k2 H3 k20 k21 dr3 kp3 => ⟨_, _, rfl, rfl, _, _, rfl, ?_⟩⟩
      have en : (((1 + k2).toNat : Nat) : Int) = 1 + k2 := Int.toNat_of_nonneg (by omega)
      obtain ⟨qd, qc⟩ := dr2.notD hq2 (fun xs z => nomatch z)
      exact nxD _ _ ⟨q, t, (1 + k2).toNat, by rw [en] <;> rfl, o, by omega, by omega, dr3, tabs_keep tb dr ((kp1.trans kp2).trans kp3), kp3 q _ qd qc hq2⟩
    subst e3
    -- the forest, the places
    refine ⟨_, rfl, fun x dx nx ndx nxd => ?_⟩
    have sN : Same H3 (upd (upd H3 dx (.own x)) x (.ins CF dx [])) := fun b u e => by
      rw [upd_ne (ne_of_none e nx), upd_ne (ne_of_none e ndx)]
      exact e
    refine ⟨x, q, dx, t, rfl, upd_same, sN _ _ hq3, o, fun H5 ts pts asc fa5 oth => ⟨rfl, ?_⟩⟩
    have s35 : Same H3 H5 := fun b u e => oth b u (ne_of_none e nx) (sN _ _ e)
    have ots : TreeOk ts := o.perm pts.symm
    refine ⟨_, rfl, _, rfl, _, rfl, _, rfl, _, rfl, d, c, q, (n : Int), t, rfl, dr3.mono s35, s35 _ _ hq3, o, by omega, by omega, tb3.ext s35, fun ps l sz H6 pl fe off hps dr6 tb6 kn6 => ?_⟩
    have fa6 := fa5.keepN (dr3.mono s35) kn6
    have hq6 := kn6.dk (dr3.mono s35) (s35 _ _ hq3)
    refine ⟨_, rfl, d, c, q, ps, n, t, l, sz, rfl, dr6, hq6, o, hps, pl, fe, n60, fun l0 zs H7 lz plz nl0 hl0 dr7 kp7 => ?_⟩
    obtain ⟨l0d, l0c⟩ := dr6.apart nl0
    have g7 : G4 T CF d c x q t ts H7 := G4.keep ⟨dr6, tb6, fa6, hq6⟩ dr7 kp7
    refine ⟨by show 2 ≤ sizeLine; omega, fun tp ntp => ⟨tp, _, rfl, .inl (.inl upd_same), rfl, _, _, rfl, _, _, rfl, rfl, ?_⟩⟩
    have s78 := same_new (o := .tup [.ref x, .ref l0]) ntp
    obtain ⟨H8, e8⟩ : ∃ X, X = upd H7 tp (.tup [.ref x, .ref l0]) := ⟨_, rfl⟩
    rw [← e8] at s78
    have g8 := g7.same s78
    have hl8 := s78 _ _ hl0
    -- a user, a way
    refine ⟨_, rfl, _, rfl, d, c, (n : Int), rfl, by rw [← e8]; exact g8.dr, by omega, by omega, fun at_ H9 a0 a1 dr9 kp9 => ?_⟩
    rw [← e8] at kp9
    clear e8
    refine ⟨_, rfl, d, c, 12, rfl, dr9, by decide, by decide, fun way H10 w0 w1 dr10 kp10 => ⟨_, _, rfl, ?_⟩⟩
    have g10 := (g8.keep dr9 kp9).keep dr10 kp10
    have hl10 := kp10 _ _ l0d l0c (kp9 _ _ l0d l0c hl8)
    have it10 : It1 K d c n H10 (.ref l0) := ⟨l0, _, rfl, hl10, l0d, l0c, fun v hv => by obtain ⟨z, _, rfl⟩ := List.mem_map.mp hv; exact ⟨_, .str z⟩, by rw [List.length_map, lz]⟩
    clear g7 g8 hl8 hl0 kp9 kp10 s78 dr3 tb3 hq3 sN oth s35 fa5 fa6 hq6 kn6 off hps tb6 dr6 dr7 kp7 dr9
    -- an item that is no place
    refine nx_in ?_
    refine seq_join (fun σ' H' => ∃ iv, σ' = [some (.ref a), some (.ref d), some (.int (0 + ((jj : Nat) : Int))), some (.ref q), some (.int (n : Int)), some (.ref x), some iv, some (.int at_), some (.int way), u9, u10] ∧ G4 T CF d c x q t ts H' ∧ It1 K d c n H' iv ∧ (way ≠ 0 → iv = .ref l0 ∧ H' l0 = some (.lst (zs.map V.str)))) (fun D' nxD => ?_) (fun σ4 H11 ⟨iv1, e4, g11, it11, pl11⟩ => ?_)
    · refine ⟨_, rfl, rfl, _, rfl, ?_⟩
      refine ite2 (fun yes => ?_) (fun no => ?_)
      rotate_left
      · exact nxD _ _ ⟨_, rfl, g10, it10, fun _ => ⟨rfl, hl10⟩⟩
      have w00 : way = 0 := by
        have h := of_decide_eq_true yes
        exact V.int.inj h
      refine ⟨_, rfl, by show 1 ≤ sizeLine; omega, fun p1 m1 => ⟨by show 1 ≤ sizeLine; omega, fun p2 m2 => fun D nD => ⟨by show 8 ≤ sizeLine; omega, fun p3 m3 => ?_⟩⟩⟩
      have t1 := same_new (o := .tup [.str "a"]) m1
      have t2 := same_new (o := .lst [.str "a"]) m2
      have t3 := same_new (o := .dK ([] : List (Key × V))) nD
      have t4 := same_new (o := .lst [.non, .str "nobody", .int 5, .ref p1, .ref p2, .ref D, .bl true, .str "A"]) m3
      have t14 := ((t1.trans t2).trans t3).trans t4
      have g14 := g10.same t14
      obtain ⟨p3d, p3c⟩ := (g10.same ((t1.trans t2).trans t3)).dr.apart m3
      refine ⟨d, c, .ref p3, 8, (fun _ v => IsDat K (upd (upd (upd (upd H10 p1 (.tup [.str "a"])) p2 (.lst [.str "a"])) D (.dK [])) p3 (.lst [.non, .str "nobody", .int 5, .ref p1, .ref p2, .ref D, .bl true, .str "A"])) v), rfl, g14.dr, .inl ⟨p3, _, rfl, p3d, p3c, upd_same, rfl, fun i v hv => ?_⟩, by decide, by decide, fun i v H12 px dr12 k12 => ?_⟩
      · have mm := List.mem_of_getElem? hv
        simp only [List.mem_cons, List.not_mem_nil, or_false] at mm
        rcases mm with rfl | rfl | rfl | rfl | rfl | rfl | rfl | rfl
        · exact ⟨_, .non⟩
        · exact ⟨_, .str _⟩
        · exact ⟨_, .int _⟩
        · exact ⟨_, .tup (t4 _ _ (t3 _ _ (t2 _ _ upd_same)))⟩
        · exact ⟨_, .lst (t4 _ _ (t3 _ _ upd_same))⟩
        · exact ⟨_, .dct (t4 _ _ upd_same)⟩
        · exact ⟨_, .bl _⟩
        · exact ⟨_, .str _⟩
      have g12 := g14.keep dr12 k12
      have d12 := isDat_keep g14.dr dr12 k12.n px
      have h12 := k12 _ _ l0d l0c (t14 _ _ hl10)
      obtain ⟨ja, eja, ljA⟩ : ∃ ja : Nat, at_ = (ja : Int) ∧ ja < zs.length := ⟨at_.toNat, by omega, by omega⟩
      refine ⟨_, rfl, _, rfl, l0, _, at_, ja, rfl, rfl, h12, by rw [eja]; exact ixN_nat (by rw [List.length_map]; exact ljA), ?_⟩
      have g13 := g12.put (ys := (zs.map V.str).set ja v) h12 l0d l0c
      have h13 : (upd H12 l0 (.lst ((zs.map V.str).set ja v))) l0 = some (.lst ((zs.map V.str).set ja v)) := upd_same
      have d13 : ∀ z ∈ (zs.map V.str).set ja v, IsDat K (upd H12 l0 (.lst ((zs.map V.str).set ja v))) z := fun z hz => by
        rcases List.mem_or_eq_of_mem_set hz with h | h
        · obtain ⟨z', _, rfl⟩ := List.mem_map.mp h
          exact ⟨_, .str z'⟩
        · rw [h]
          exact isDat_put h12 d12
      have l13 : ((zs.map V.str).set ja v).length = n := by rw [List.length_set, List.length_map, lz]
      obtain ⟨xs13, e13⟩ : ∃ ys, ys = (zs.map V.str).set ja v := ⟨_, rfl⟩
      obtain ⟨H13, eH13⟩ : ∃ X, X = upd H12 l0 (.lst ((zs.map V.str).set ja v)) := ⟨_, rfl⟩
      rw [← eH13, ← e13] at h13 d13
      rw [← eH13] at g13 ⊢
      rw [← e13] at l13
      clear eH13 e13 d12 px g14 t14
      obtain ⟨v0, hv0⟩ : ∃ v0, xs13[ja]? = some v0 := ⟨_, List.getElem?_eq_getElem (by omega)⟩
      refine ⟨_, rfl, _, rfl, _, rfl, l0, _, at_, v0, rfl, rfl, SqL.of h13, by rw [eja]; exact atI_nat hv0, _, rfl, _, rfl, l0, _, at_, v0, rfl, rfl, SqL.of h13, by rw [eja]; exact atI_nat hv0, by show 4 ≤ sizeLine; omega, fun p4 m4 => ?_⟩
      obtain ⟨p4d, p4c⟩ := g13.dr.apart m4
      have t5 := same_new (o := .lst [.non, .str "nobody", v0, v0]) m4
      have g15 := g13.same t5
      refine ⟨d, c, .ref p4, 4, (fun _ v => v = .non ∨ v = .str "nobody" ∨ v = v0), rfl, g15.dr, .inl ⟨p4, _, rfl, p4d, p4c, upd_same, rfl, fun i v hv => ?_⟩, by decide, by decide, fun i v2 H16 px2 dr16 k16 => ?_⟩
      · have mm := List.mem_of_getElem? hv
        simp only [List.mem_cons, List.not_mem_nil, or_false] at mm
        rcases mm with rfl | rfl | rfl | rfl <;> simp
      have g16 := g15.keep dr16 k16
      have h16 := k16 _ _ l0d l0c (t5 _ _ h13)
      refine ⟨_, rfl, _, rfl, _, rfl, d, c, (n : Int), rfl, g16.dr, by omega, by omega, fun kk H17 kk0 kk1 dr17 k17 => ?_⟩
      have g17 := g16.keep dr17 k17
      have h17 := k17 _ _ l0d l0c h16
      obtain ⟨jk, ejk, ljk⟩ : ∃ jk : Nat, kk = (jk : Int) ∧ jk < n := ⟨kk.toNat, by omega, by omega⟩
      refine ⟨l0, _, kk, jk, rfl, rfl, h17, by rw [ejk]; exact ixN_nat (by omega), ?_⟩
      have kn : KeepN d c H13 H17 := (KeepN.of_ext (ExtN.of t5)).trans (k16.trans k17).n
      have d17 : ∀ z, IsDat K H13 z → IsDat K H17 z := fun z hz => isDat_keep g13.dr dr17 kn hz
      refine nxD _ _ ⟨_, rfl, g17.put h17 l0d l0c, ⟨l0, _, rfl, upd_same, l0d, l0c, fun z hz => ?_, by rw [List.length_set]; exact l13⟩, fun h => absurd w00 h⟩
      rcases List.mem_or_eq_of_mem_set hz with h | h
      · exact isDat_put h17 (d17 z (d13 z h))
      · rw [h]
        rcases px2 with rfl | rfl | rfl
        · exact ⟨_, .non⟩
        · exact ⟨_, .str _⟩
        · exact isDat_put h17 (d17 _ (d13 _ (List.mem_of_getElem? hv0)))
    subst e4
    -- another value
    refine seq_join (fun σ' H' => ∃ iv o, σ' = [some (.ref a), some (.ref d), some (.int (0 + ((jj : Nat) : Int))), some (.ref q), some (.int (n : Int)), some (.ref x), some iv, some (.int at_), some (.int way), u9, u10] ∧ G4 T CF d c x q t ts H' ∧ PlA K d c H' iv o ∧ (way ≠ 1 → It1 K d c n H' iv)) (fun D' nxD => ?_) (fun σ5 H18 ⟨iv2, o2, e5, g18, pl18, it18⟩ => ?_)
    · refine ⟨_, rfl, rfl, _, rfl, ?_⟩
      refine ite2 (fun yes => ?_) (fun no => ?_)
      rotate_left
      · obtain ⟨o1, p1⟩ := it11.pl n60
        exact nxD _ _ ⟨_, o1, rfl, g11, p1, fun _ => it11⟩
      have w11 : way = 1 := by
        have h := of_decide_eq_true yes
        exact V.int.inj h
      refine ⟨_, rfl, by show 0 ≤ sizeLine; omega, fun p1 m1 => ?_⟩
      have t1 := same_new (o := .lst ([] : List V)) m1
      refine ⟨by show 0 ≤ sizeLine; omega, fun p2 m2 => ?_⟩
      have t2 := same_new (o := .tup ([] : List V)) m2
      refine fun D nD => ?_
      have t3 := same_new (o := .dK ([] : List (Key × V))) nD
      refine fun D2 nD2 => ⟨upd_same, [(Sum.inr "a", .str "")], rfl, by decide, ?_⟩
      obtain ⟨Hd, ehd⟩ : ∃ X, X = upd (upd (upd H11 p1 (.lst ([] : List V))) p2 (.tup ([] : List V))) D (.dK ([] : List (Key × V))) := ⟨_, rfl⟩
      have tD : Same H11 Hd := ehd ▸ ((t1.trans t2).trans t3)
      have hd1 : Hd p1 = some (.lst []) := by rw [ehd]; exact t3 _ _ (t2 _ _ upd_same)
      have hd2 : Hd p2 = some (.tup []) := by rw [ehd]; exact t3 _ _ upd_same
      have hd3 : Hd D = some (.dK []) := by rw [ehd]; exact upd_same
      obtain ⟨p1d, p1c⟩ := g11.dr.apart m1
      obtain ⟨p2d, p2c⟩ := (g11.same t1).dr.apart m2
      rw [← ehd] at nD2 ⊢
      clear ehd t1 t2 t3 m1 m2 nD
      obtain ⟨H19, e19⟩ : ∃ X, X = upd (upd Hd D2 (.dK [])) D2 (.dK (mergeK [] [(Sum.inr "a", .str "")])) := ⟨_, rfl⟩
      have t4 : Same Hd H19 := e19 ▸ (same_new nD2).put nD2
      have hd4 : H19 D2 = some (.dK (mergeK [] [(Sum.inr "a", .str "")])) := by rw [e19]; exact upd_same
      rw [← e19]
      clear e19 nD2
      refine ⟨by show 1 ≤ sizeLine; omega, fun p4 m4 => ?_⟩
      have t5 := same_new (o := .lst [V.str ""]) m4
      refine ⟨p4, 61, [.str ""], rfl, rfl, upd_same, by decide, by decide, by show 1 * 61 ≤ sizeLine; omega, fun p5 m5 => ?_⟩
      have t6 := same_new (o := .lst (List.replicate ((61 : Int)).toNat [V.str ""]).flatten) m5
      refine ⟨by show 1 ≤ sizeLine; omega, fun p6 m6 => ?_⟩
      have t7 := same_new (o := .tup [V.str ""]) m6
      refine ⟨p6, 61, [.str ""], rfl, rfl, SqT.of upd_same, by simp, by decide, by decide, by decide, fun p7 m7 => ?_⟩
      have t8 := same_new (o := .tup (List.replicate ((61 : Int)).toNat [V.str ""]).flatten) m7
      refine ⟨by show 9 ≤ sizeLine; omega, fun p8 m8 => ?_⟩
      have g19 := (g11.same tD).same t4
      obtain ⟨p5d, p5c⟩ := (g19.same t5).dr.apart m5
      obtain ⟨p7d, p7c⟩ := (((g19.same t5).same t6).same t7).dr.apart m7
      have t58 := ((t5.trans t6).trans t7).trans t8
      obtain ⟨ws, ews⟩ : ∃ ws, ws = (List.replicate ((61 : Int)).toNat [V.str ""]).flatten := ⟨_, rfl⟩
      have lws : ws.length = 61 := by rw [ews] <;> rfl
      have dws : ∀ z ∈ ws, z = .str "" := fun z hz => by
        rw [ews, List.mem_flatten] at hz
        obtain ⟨l, hl, hz⟩ := hz
        rw [(List.mem_replicate.mp hl).2] at hz
        exact List.mem_singleton.mp hz
      obtain ⟨H20, e20⟩ : ∃ X, X = upd (upd (upd (upd H19 p4 (.lst [V.str ""])) p5 (.lst (List.replicate ((61 : Int)).toNat [V.str ""]).flatten)) p6 (.tup [V.str ""])) p7 (.tup (List.replicate ((61 : Int)).toNat [V.str ""]).flatten) := ⟨_, rfl⟩
      have h5 : H20 p5 = some (.lst ws) := by rw [e20, ews]; exact t8 _ _ (t7 _ _ upd_same)
      have h7 : H20 p7 = some (.tup ws) := by rw [e20, ews]; exact upd_same
      rw [← e20] at t58 m8 ⊢
      clear e20 t5 t6 t7 t8 m4 m5 m6 m7
      have t9 := same_new (o := .lst [V.non, .ref p1, .ref p2, .str "a", .ref D, .int 5, .ref D2, .ref p5, .ref p7]) m8
      have g20 := g19.same t58
      obtain ⟨p8d, p8c⟩ := g20.dr.apart m8
      have g21 := g20.same t9
      have tA := (t4.trans t58).trans t9
      refine ⟨d, c, .ref p8, 9, (fun _ v => ∃ o, PlA K d c (upd H20 p8 (.lst [V.non, .ref p1, .ref p2, .str "a", .ref D, .int 5, .ref D2, .ref p5, .ref p7])) v o), rfl, g21.dr, .inl ⟨p8, _, rfl, p8d, p8c, upd_same, rfl, fun i v hv => ?_⟩, by decide, by decide, fun i v H22 px dr22 k22 => ?_⟩
      · have mm := List.mem_of_getElem? hv
        simp only [List.mem_cons, List.not_mem_nil, or_false] at mm
        have dw : ∀ {Hx : Hp}, ∀ z ∈ ws, IsDat K Hx z := fun z hz => (by rw [dws z hz]; exact ⟨_, .str _⟩)
        rcases mm with rfl | rfl | rfl | rfl | rfl | rfl | rfl | rfl | rfl
        · exact ⟨none, ⟨_, .non, by decide, by decide⟩, fun _ h => nomatch h⟩
        · exact ⟨some [], ⟨p1, rfl, .inl (tA _ _ hd1), (fun z hz => nomatch hz), by decide⟩, fun _ _ => ⟨p1, rfl, p1d, p1c⟩⟩
        · exact ⟨some [], ⟨p2, rfl, .inr (tA _ _ hd2), (fun z hz => nomatch hz), by decide⟩, fun _ _ => ⟨p2, rfl, p2d, p2c⟩⟩
        · exact ⟨none, ⟨_, .str _, by decide, by decide⟩, fun _ h => nomatch h⟩
        · exact ⟨none, ⟨_, .dct (tA _ _ hd3), by decide, by decide⟩, fun _ h => nomatch h⟩
        · exact ⟨none, ⟨_, .int _, by decide, by decide⟩, fun _ h => nomatch h⟩
        · exact ⟨none, ⟨_, .dct ((t58.trans t9) _ _ hd4), by decide, by decide⟩, fun _ h => nomatch h⟩
        · exact ⟨some ws, ⟨p5, rfl, .inl (t9 _ _ h5), dw, by omega⟩, fun _ _ => ⟨p5, rfl, p5d, p5c⟩⟩
        · exact ⟨some ws, ⟨p7, rfl, .inr (t9 _ _ h7), dw, by omega⟩, fun _ _ => ⟨p7, rfl, p7d, p7c⟩⟩
      obtain ⟨o2, px⟩ := px
      exact nxD _ _ ⟨_, o2, rfl, g21.keep dr22 k22, px.keep g21.dr dr22 k22.n, fun h => absurd w11 h⟩
    subst e5
    -- a tuple
    refine seq_join (fun σ' H' => ∃ iv o, σ' = [some (.ref a), some (.ref d), some (.int (0 + ((jj : Nat) : Int))), some (.ref q), some (.int (n : Int)), some (.ref x), some iv, some (.int at_), some (.int way), u9, u10] ∧ G4 T CF d c x q t ts H' ∧ PlA K d c H' iv o) (fun D' nxD => ?_) (fun σ6 H23 ⟨iv, po, e6, g23, pl23⟩ => ?_)
    · refine ⟨_, rfl, rfl, _, rfl, ?_⟩
      refine ite2 (fun yes => ?_) (fun no => ?_)
      rotate_left
      · exact nxD _ _ ⟨_, o2, rfl, g18, pl18⟩
      have w22 : way = 2 := by
        have h := of_decide_eq_true yes
        exact V.int.inj h
      obtain ⟨l2, xs2, rfl, hl2, l2d, l2c, dat2, len2⟩ := it18 (by omega)
      refine ⟨_, rfl, l2, xs2, rfl, .inl ⟨SqL.of hl2, fun p np => ?_⟩⟩
      obtain ⟨pd_, pc_⟩ := g18.dr.apart np
      have t1 := same_new (o := .tup xs2) np
      exact nxD _ _ ⟨_, some xs2, rfl, g18.same t1, ⟨p, rfl, .inr upd_same, fun z hz => (dat2 z hz).mono t1, by omega⟩, fun _ _ => ⟨p, rfl, pd_, pc_⟩⟩
    subst e6
    -- what is due, what is told
    refine seq_join (fun σ' H' => ∃ dv tv, σ' = [some (.ref a), some (.ref d), some (.int (0 + ((jj : Nat) : Int))), some (.ref q), some (.int (n : Int)), some (.ref x), some iv, some (.int at_), some (.int way), some dv, some tv] ∧ G4 T CF d c x q t ts H' ∧ PlA K d c H' iv po ∧ DvW H' dv (dueW t po) ∧
      (∀ wd v, dueW t po = some (wd, v) → RsAt H' tv (.err wd v)) ∧ (dueW t po = none → ∃ (zs : List Str) (y dy p b : Addr), po = some (zs.map V.str) ∧ iv = .ref b ∧ tv = .ref y ∧ H' y = some (.ins CA dy [("own_forest", .ref x), ("own_places", .ref p)]) ∧ H' p = some (.lst (zs.map V.str)) ∧ p ≠ b ∧ (∀ z ∈ zs, Pl ts z) ∧ 1 ≤ zs.length ∧ zs.length ≤ 60)) (fun D' nxD => ?_) (fun σ7 H26 ⟨dv, tv, e7, g26, pl26, d26, te26, tn26⟩ => ?_)
    · refine ⟨_, rfl, _, rfl, q, iv, t, po, rfl, g23.hq, o, pl23.1, tellW_of fun dv H24 s24 h24 => ?_⟩
      have g24 := g23.same s24
      have pl24 := pl23.keep g23.dr g24.dr (Keep.of_same s24).n
      refine ⟨g24.tb, fun H25 e25 t25 => ?_⟩
      have g25 := g24.extN e25 t25
      have pl25 := pl24.keep g24.dr g25.dr (KeepN.of_ext e25)
      have h25 := h24.ext e25
      refine ⟨_, rfl, _, rfl, rfl, rfl, fun y dy ny ndy nyd => ?_⟩
      have sN : Same H25 (upd (upd H25 dy (.own y)) y (.ins CA dy [])) := fun b u e => by
        rw [upd_ne (ne_of_none e ny), upd_ne (ne_of_none e ndy)]
        exact e
      refine ⟨y, x, dy, iv, ts, po, rfl, upd_same, g25.fa.mono sN, ots, pl25.1.mono sN, ?_⟩
      rw [dueP_perm pts]
      have step : ∀ {H' : Hp}, Same H25 H' → G4 T CF d c x q t ts H' ∧ PlA K d c H' iv po ∧ DvW H' dv (dueW t po) := fun s => ⟨g25.same s, pl25.keep g25.dr (g25.same s).dr (Keep.of_same s).n, h25.ext (ExtN.of s)⟩
      cases eo : dueP t po with
      | none =>
        intro zs' H' ep plz' z1 z60 ⟨dy', p, hy', hp', np'⟩ kp
        have s5 : Same H25 H' := fun b u e => kp b u (ne_of_none e ny) (sN _ _ e)
        obtain ⟨g', pl', d'⟩ := step s5
        refine ⟨rfl, _, _, rfl, nxD _ _ ⟨dv, _, rfl, g', pl', d', fun wd v h => ?_, fun _ => ?_⟩⟩
        · unfold dueW at h
          rw [eo] at h
          cases h
        · obtain ⟨b, eb, bd, bc⟩ := pl25.2 _ ep
          obtain ⟨b', eb', qb, _⟩ : ∃ b', iv = .ref b' ∧ SeqAt H25 b' (zs'.map V.str) ∧ True := by
            have := pl25.1
            rw [ep] at this
            obtain ⟨b', e', q', _⟩ := this
            exact ⟨b', e', q', trivial⟩
          have ebb : b' = b := by rw [eb] at eb'; exact (V.ref.inj eb').symm
          subst ebb
          refine ⟨zs', y, dy', p, b', ep, eb, rfl, hy', hp', fun z => ?_, plz', z1, z60⟩
          rw [z] at np'
          rcases qb with h | h
          · rw [sN _ _ h] at np'; cases np'
          · rw [sN _ _ h] at np'; cases np'
      | some e =>
        cases e with
        | none =>
          intro H' s'
          refine ⟨0, .non, by decide, by rw [eU], ⟨rfl, .inl rfl⟩, fun p H'' s'' np hp => ⟨_, _, rfl, nxD _ _ ?_⟩⟩
          obtain ⟨g', pl', d'⟩ := step ((sN.trans s').trans s'')
          refine ⟨dv, _, rfl, g', pl', d', fun wd v h => ?_, fun h => ?_⟩
          · unfold dueW at h
            rw [eo] at h
            cases h
            exact ⟨p, rfl, hp⟩
          · unfold dueW at h
            rw [eo] at h
            cases h
        | some i =>
          intro dd H' s' nd' hd'
          refine ⟨1, .int (i : Int), by decide, by rw [eP], ⟨dd, rfl, hd'⟩, fun p H'' s'' np hp => ⟨_, _, rfl, nxD _ _ ?_⟩⟩
          obtain ⟨g', pl', d'⟩ := step ((sN.trans s').trans s'')
          refine ⟨dv, _, rfl, g', pl', d', fun wd v h => ?_, fun h => ?_⟩
          · unfold dueW at h
            rw [eo] at h
            cases h
            exact ⟨p, rfl, hp⟩
          · unfold dueW at h
            rw [eo] at h
            cases h
    subst e7
    -- an error is told as it is due
    refine seq_join (fun σ' H' => σ' = [some (.ref a), some (.ref d), some (.int (0 + ((jj : Nat) : Int))), some (.ref q), some (.int (n : Int)), some (.ref x), some iv, some (.int at_), some (.int way), some dv, some tv] ∧ H' = H26) (fun D' nxD => ?_) (fun σ8 H27 ⟨e8, e9⟩ => ?_)
    · refine ⟨_, rfl, rfl, _, rfl, ?_⟩
      rw [d26.is]
      cases eo : dueW t po with
      | none => exact iteF (iteF (nxD _ _ ⟨rfl, rfl⟩))
      | some wv =>
        obtain ⟨wd, v⟩ := wv
        have d26' := d26
        rw [eo] at d26'
        have te := te26 wd v eo
        have ok : RsOk d c H26 (.err wd v) := by
          unfold dueW at eo
          obtain ⟨e, he, ee⟩ := Option.map_eq_some_iff.mp eo
          cases e with
          | none =>
            cases ee
            exact ⟨sm_word (by decide) (by decide +kernel) (by decide +kernel), .inl (.inl rfl)⟩
          | some i =>
            cases ee
            refine ⟨sm_word (by decide) (by decide +kernel) (by decide +kernel), .inl (.inr (.inr (.inl ⟨_, rfl, by omega, ?_⟩)))⟩
            cases po with
            | none => cases he
            | some xs =>
              by_cases l : 1 ≤ xs.length ∧ xs.length ≤ 60
              · rw [show dueP t (some xs) = (xs.findIdx? fun x => !placeV t x).map some from if_pos l] at he
                obtain ⟨i', hi', e'⟩ := Option.map_eq_some_iff.mp he
                cases e'
                rw [List.findIdx?_eq_some_iff_getElem] at hi'
                obtain ⟨hi, _⟩ := hi'
                omega
              · rw [show dueP t (some xs) = some none from if_neg l] at he
                cases he
        obtain ⟨da, sh⟩ := RsAt.sh (K := K) ok
        have r1 := sh tv te
        have r2 := sh dv d26'
        show if true = true then _ else _
        rw [if_pos rfl]
        refine ⟨_, rfl, tv, da, rfl, r1.dr, r1.ok, by have := r1.dep; omega, r1.fits, _, rfl, dv, da, rfl, r2.dr, r2.ok, by have := r2.dep; omega, r2.fits, rfl, _, rfl, ?_⟩
        rw [decide_eq_true rfl]
        exact iteF (nxD _ _ ⟨rfl, rfl⟩)
    subst e8
    subst e9
    -- an assignment is right
    refine seq_join (fun σ' H' => σ' = [some (.ref a), some (.ref d), some (.int (0 + ((jj : Nat) : Int))), some (.ref q), some (.int (n : Int)), some (.ref x), some iv, some (.int at_), some (.int way), some dv, some tv] ∧ DrawAt H' d c ∧ Tabs T H' ∧ FAt CF H' x ts) (fun D' nxD => ?_) (fun σ9 H28 ⟨e10, dr28, tb28, fa28⟩ => ?_)
    · refine ⟨_, rfl, rfl, _, rfl, ?_⟩
      rw [d26.is]
      cases eo : dueW t po with
      | some wv => exact iteF (iteF (nxD _ _ ⟨rfl, g26.dr, g26.tb, g26.fa⟩))
      | none =>
        obtain ⟨zs', y, dy, p, b, ep, eb, etv, hy, hp, pb, plz', z1, z60⟩ := tn26 eo
        subst eb
        subst etv
        obtain ⟨b', eb', bd, bc⟩ := pl26.2 _ ep
        have ebb : b' = b := (V.ref.inj eb').symm
        subst ebb
        have qb : SeqAt H27 b' (zs'.map V.str) := by
          have h := pl26.1
          rw [ep] at h
          obtain ⟨b2, e2, q2, _⟩ := h
          rw [V.ref.inj e2]
          exact q2
        show if true = true then _ else _
        rw [if_pos rfl]
        obtain ⟨am, eam⟩ : ∃ am : Nat, at_ = (am : Int) := ⟨at_.toNat, by omega⟩
        refine ⟨_, rfl, _, rfl, _, rfl, _, rfl, _, rfl, _, rfl, d, c, y, x, q, b', dy, p, am, t, ts, zs', by rw [eam] <;> rfl, g26.dr, g26.tb, hy, hp, pb, g26.fa, g26.hq, o, ots, pts, asc, qb, bd, bc, plz', z1, z60, by omega, fun H' dr' tb' fa' => ⟨_, rfl, ?_⟩⟩
        exact iteF (nxD _ _ ⟨rfl, dr', tb', fa'⟩)
    subst e10
    refine ⟨_, rfl, _, rfl, _, rfl, d, c, x, n, ts, rfl, dr28, tb28, fa28, ots, n1, n60, fun H' dr' tb' kn' => ⟨_, rfl, ?_⟩⟩
    exact iteF ⟨⟨_, _, _, _, _, _, _, _, _, rfl⟩, dr', tb'⟩
end
end FT


/-! what the module's top says of classes, of defs: the form that the row's end asks for. -/
namespace FT
open PySem L2 TL ClX
abbrev exTail : List Value := [.type "ValueError", .type "Exception", .type "BaseException", .type "object"]
/-- an own class at C, its chain behind it -/
def ClsAt (K : PySem.W.Frag) (C : Addr) (bm : List Value) : Prop := ∃ nm q N bs sn sub ab col dd k0 k1 k2 k3 k5, K.lookup C = some (excClassObj nm q C N bs bm true sn sub ab col dd k0 k1 k2 k3 k5 "ValueError.__new__")
section
variable {K : PySem.W.Frag} {C : Addr} {bm : List Value}
theorem ClsAt.cls (h : ClsAt K C bm) : ∃ cd : ClassData, PySem.W.clsIn K C = some cd ∧ cd.mro = .ref C :: bm ∧ cd.hasDict = true := by
  obtain ⟨nm, q, N, bs, sn, sub, ab, col, dd, k0, k1, k2, k3, k5, e⟩ := h
  refine ⟨{ name := nm, bases := bs, mro := .ref C :: bm, ns := N, qualname := q, hasDict := true, slotNames := sn, subclasses := sub, abstract := ab, collection := col }, ?_, rfl, rfl⟩
  unfold PySem.W.clsIn
  rw [e]
theorem ClsAt.ty (h : ClsAt K C bm) : PySem.W.typeIn K (.ref C) = some (.type "type") := by
  obtain ⟨nm, q, N, bs, sn, sub, ab, col, dd, k0, k1, k2, k3, k5, e⟩ := h
  show (K.lookup C).map (·.cls) = _
  rw [e] <;> rfl
theorem ClsAt.mroIs (h : ClsAt K C bm) (b : Value) : PySem.W.mroIn K C b = some ((Value.ref C :: bm).contains b) := by
  obtain ⟨cd, e1, e2, _⟩ := h.cls
  unfold PySem.W.mroIn
  rw [e1]
  show (if cd.mro.isEmpty then none else some (cd.mro.contains b)) = _
  rw [e2] <;> rfl
theorem ClsAt.sub (h : ClsAt K C bm) (b : Value) : PySem.W.subIn K (.ref C) b = some ((Value.ref C :: bm).contains b) := h.mroIs b
theorem ClsAt.hd (h : ClsAt K C bm) : PySem.W.hasDictIn K C = true := by
  obtain ⟨cd, e1, _, e3⟩ := h.cls
  show (PySem.W.clsIn K C).any (·.hasDict) = true
  rw [e1]
  exact e3
theorem ClsAt.isC (h : ClsAt K C bm) : (PySem.W.clsIn K C).isSome = true := by
  obtain ⟨cd, e1, _⟩ := h.cls
  rw [e1] <;> rfl
/-- isinstance of the class at C against the class at D -/
theorem ClsAt.kit {D : Addr} {bn : List Value} (h : ClsAt K C bm) (g : ClsAt K D bn) : PySem.W.kitOne K (.ref C) (.ref D) = some ((Value.ref C :: bm).contains (.ref D)) := by
  unfold PySem.W.kitOne
  by_cases e : (Value.ref C == Value.ref D) = true
  · rw [if_pos e, beq_iff_eq.mp e, List.contains_cons, beq_self_eq_true] <;> rfl
  · rw [if_neg e]
    have e2 : ((PySem.W.clsIn K D).isSome && PySem.W.typeIn K (.ref D) == some (.type "type")) = true := by rw [g.isC, g.ty] <;> rfl
    show (if _ then PySem.W.subIn K (.ref C) (.ref D) else none) = _
    rw [if_pos e2, h.sub]
theorem ClsAt.exm {D : Addr} {bn : List Value} (h : ClsAt K C bm) (g : ClsAt K D bn) (eD : (Value.ref D :: bn).contains (.type "BaseException") = true) : PySem.W.exmOne K (.ref C) (.ref D) = some ((Value.ref C :: bm).contains (.ref D)) :=
  PySem.W.exm_ref (by rw [g.sub, eD]) g.hd g.ty (h.sub _)
end
/-- what the top says of one error class -/
structure ClsF (K : PySem.W.Frag) (nm f : Str) (C I R : Addr) : Prop where
  nsn : PySem.W.nsIn K mainGlobals nm = some (some (.ref C))
  at_ : ClsAt K C (.ref R :: exTail)
  sa : PySem.W.findIn K (.ref C) "__setattr__" = some (some (.builtin "object.__setattr__"))
  ga : PySem.W.findIn K (.ref C) "__getattribute__" = some (some (.builtin "BaseException.__getattribute__"))
  gg : PySem.W.findIn K (.ref C) "__getattr__" = some none
  ha : PySem.W.findIn K (.ref C) "__class__" = some (some (.builtin "object.__class__"))
  kC : PySem.W.keepIn K (.ref C) = true
  no : PySem.W.findIn K (.ref C) f = some none
  ini : PySem.W.findIn K (.ref C) "__init__" = some (some (.ref I))
  ity : PySem.W.typeIn K (.ref I) = some (.type "function")
/-- and of what they share -/
structure RootF (K : PySem.W.Frag) (R : Addr) : Prop where
  nsn : PySem.W.nsIn K mainGlobals "RolloutError" = some (some (.ref R))
  at_ : ClsAt K R exTail
  rd : PySem.W.readsIn K R (.type "type") = true
  ga : PySem.W.specialIn K (.ref R) "__getattribute__" = some (some (.builtin "type.__getattribute__"))
  ini : PySem.W.findCls K (.ref R) (.type "type") "__init__" = some (.val (.builtin "ValueError.__init__"))
  hn : PySem.W.specialIn K (.builtin "object.__class__") "__get__" = some (some (.builtin "getset_descriptor.__get__"))
  ht : PySem.W.takesIn K (.builtin "object.__class__") = some true
theorem ClsF.x {K : PySem.W.Frag} {nm f : Str} {C I R : Addr} (c : ClsF K nm f C I R) (r : RootF K R) : XCls K C where
  cls := by
    obtain ⟨nm, q, N, bs, sn, sub, ab, col, dd, k0, k1, k2, k3, k5, e⟩ := c.at_
    exact ⟨nm, q, N, bs, _, sn, sub, ab, col, dd, k0, k1, k2, k3, k5, e, rfl⟩
  sa := c.sa
  exC := by rw [c.at_.sub] <;> rfl
  tyC := c.at_.ty
  kC := c.kC
  ga := c.ga
  gg := c.gg
  hdC := c.at_.hd
  ha := c.ha
  hn := r.hn
  ht := r.ht
  hm := by rw [c.at_.mroIs] <;> rfl
theorem has_cls {C R D : Addr} {b : Bool} (h : decide (C = D) = b) (n : R ≠ D) : (Value.ref C :: Value.ref R :: exTail).contains (.ref D) = b := by
  subst h
  by_cases e : C = D
  · subst e
    rw [List.contains_cons, beq_self_eq_true, decide_eq_true rfl] <;> rfl
  · have e1 : (Value.ref D == Value.ref C) = false := beq_eq_false_iff_ne.mpr fun z => e (Value.ref.inj z).symm
    have e2 : (Value.ref D == Value.ref R) = false := beq_eq_false_iff_ne.mpr fun z => n (Value.ref.inj z).symm
    rw [decide_eq_false e, List.contains_cons, e1, List.contains_cons, e2] <;> rfl
theorem has_root {C R : Addr} : (Value.ref C :: Value.ref R :: exTail).contains (.ref R) = true := by
  rw [List.contains_cons, List.contains_cons, beq_self_eq_true, Bool.true_or, Bool.or_true]
theorem kit_bt {K : PySem.W.Frag} {C R : Addr} (c : ClsAt K C (.ref R :: exTail)) : PySem.W.kitOne K (.ref C) (.type "ValueError") = some true := by
  unfold PySem.W.kitOne
  rw [if_neg (show ¬ (Value.ref C == Value.type "ValueError") = true from fun z => nomatch (show false = true from z))]
  have e2 : PySem.W.kitMeta "ValueError" = true := by decide +kernel
  show (if PySem.W.kitMeta "ValueError" = true then PySem.W.subIn K (.ref C) (.type "ValueError") else none) = _
  rw [if_pos e2, c.sub] <;> rfl
/-- what the top says of a class with a constant MOST -/
structure ClsK (K : PySem.W.Frag) (nm : Str) (C : Addr) (n : Int) (t : Nat) : Prop where
  nsn : PySem.W.nsIn K mainGlobals nm = some (some (.ref C))
  rd : PySem.W.readsIn K C (.type "type") = true
  ga : PySem.W.specialIn K (.ref C) "__getattribute__" = some (some (.builtin "type.__getattribute__"))
  most : PySem.W.findCls K (.ref C) (.type "type") "MOST" = some (.val (.int n t))
  pg : PySem.W.plainGet K C Str.empty = true
  hd : PySem.W.hasDictIn K C = true
  po : PySem.W.plainOver K C = true
  sa : PySem.W.findIn K (.ref C) "__setattr__" = some (some (.builtin "object.__setattr__"))
  mks : PySem.W.makesIn K C = true
  kp : PySem.W.keepIn K (.ref C) = true
  ha : PySem.W.findIn K (.ref C) "__class__" = some (some (.builtin "object.__class__"))
  hn : PySem.W.specialIn K (.builtin "object.__class__") "__get__" = some (some (.builtin "getset_descriptor.__get__"))
  ht : PySem.W.takesIn K (.builtin "object.__class__") = some true
  hm : PySem.W.mroIn K C (.type "object") = some true
/-- a method -/
structure MetK (K : PySem.W.Frag) (C : Addr) (m : Str) (f : Addr) : Prop where
  at_ : PySem.W.findIn K (.ref C) m = some (some (.ref f))
  fn : PySem.W.isFn K (.ref f) = true
/-- a property -/
structure PrK (K : PySem.W.Frag) (C : Addr) (m : Str) (p g : Addr) (rest : List Value) : Prop where
  at_ : PySem.W.findIn K (.ref C) m = some (some (.ref p))
  get : PySem.W.specialIn K (.ref p) "__get__" = some (some (.builtin "property.__get__"))
  tak : PySem.W.takesIn K (.ref p) = some true
  rec_ : PySem.W.recIn K p "property" = some (.ref g :: rest)
theorem ClsF.er {K : PySem.W.Frag} {h : Heap} {mg : Str → Option Value} {nm f : Str} {C I R : Addr} (X : K.In h) (G : h.Ns mainGlobals mg) (c : ClsF K nm f C I R) (r : RootF K R) : Er K mg nm f C I :=
  ⟨PySem.W.mg_of X G c.nsn, c.x r, c.ini, c.ity, c.no⟩
theorem RootF.rt {K : PySem.W.Frag} {h : Heap} {mg : Str → Option Value} {R : Addr} (X : K.In h) (G : h.Ns mainGlobals mg) (r : RootF K R) : Rt K mg R := ⟨PySem.W.mg_of X G r.nsn, ⟨r.rd, r.ga, r.ini⟩⟩
theorem ClsK.fc {K : PySem.W.Frag} {h : Heap} {mg : Str → Option Value} {CF : Addr} {t t2 : Nat} (X : K.In h) (G : h.Ns mainGlobals mg) (k : ClsK K "Forest" CF 12 t) (root : PySem.W.findCls K (.ref CF) (.type "type") "ROOT" = some (.val (.str "" t2))) : Fc K mg CF (.type "type") :=
  ⟨PySem.W.mg_of X G k.nsn, ⟨k.rd, k.ga⟩, ⟨_, k.most, ⟨_, rfl⟩⟩, ⟨_, root, ⟨_, rfl⟩⟩⟩
theorem ClsK.cls {K : PySem.W.Frag} {nm : Str} {C : Addr} {n : Int} {t : Nat} (k : ClsK K nm C n t) : Cls K C := ⟨k.pg, k.hd, k.po, k.sa⟩
/-- a def with its code object and the table of that -/
structure TabK (K : PySem.W.Frag) (x : Str) (c P : Addr) : Prop where
  at_ : PySem.W.tabIn K x = some (c, P)
  no : K.lookup P = none
end FT


/-! a list is no instance of an own class, an own instance is no tuple -/
namespace FT
open PySem L2 TL ClX LamX NdefX
theorem mro_list {C : Addr} : ∃ l, PySem.fastBuiltinMro "list" = some l ∧ l.contains (Value.ref C) = false := by
  have e : (PySem.fastBuiltinMro "list").any (fun l => l.all fun v => match v with | .type _ => true | _ => false) = true := by decide +kernel
  cases h : PySem.fastBuiltinMro "list" with
  | none => rw [h] at e; cases e
  | some l =>
    refine ⟨l, rfl, ?_⟩
    rw [h] at e
    cases hc : l.contains (Value.ref C) with
    | false => rfl
    | true =>
      have z := List.all_eq_true.mp e _ (List.contains_iff_mem.mp hc)
      cases z
theorem kit_list {K : PySem.W.Frag} {C : Addr} (hd : PySem.W.hasDictIn K C = true) (ty : PySem.W.typeIn K (.ref C) = some (.type "type")) : PySem.W.kitOne K (.type "list") (.ref C) = some false := by
  obtain ⟨cd, hc, _⟩ := PySem.W.any_some hd
  obtain ⟨l, h1, h2⟩ := mro_list (C := C)
  show (if (Value.type "list" == Value.ref C) = true then some true else if ((PySem.W.clsIn K C).isSome && PySem.W.typeIn K (.ref C) == some (.type "type")) = true then (PySem.fastBuiltinMro "list").map (·.contains (Value.ref C)) else none) = some false
  rw [hc, ty, h1, Option.map_some, h2]
  simp
theorem kit_tup {K : PySem.W.Frag} {C : Addr} (h : PySem.W.mroIn K C (.type "tuple") = some false) : PySem.W.kitOne K (.ref C) (.type "tuple") = some false := by
  unfold PySem.W.kitOne
  rw [if_neg (show ¬ (Value.ref C == Value.type "tuple") = true from fun z => nomatch (show false = true from z))]
  have e2 : PySem.W.kitMeta "tuple" = true := by decide +kernel
  show (if PySem.W.kitMeta "tuple" = true then PySem.W.subIn K (.ref C) (.type "tuple") else none) = _
  rw [if_pos e2] <;> exact h
end FT


/-! what the top says of a class without a constant, of a static method -/
namespace FT
open PySem L2 TL ClX
structure ClsN (K : PySem.W.Frag) (nm : Str) (C : Addr) : Prop where
  nsn : PySem.W.nsIn K mainGlobals nm = some (some (.ref C))
  rd : PySem.W.readsIn K C (.type "type") = true
  ga : PySem.W.specialIn K (.ref C) "__getattribute__" = some (some (.builtin "type.__getattribute__"))
  pg : PySem.W.plainGet K C Str.empty = true
  hd : PySem.W.hasDictIn K C = true
  po : PySem.W.plainOver K C = true
  sa : PySem.W.findIn K (.ref C) "__setattr__" = some (some (.builtin "object.__setattr__"))
  mks : PySem.W.makesIn K C = true
  kp : PySem.W.keepIn K (.ref C) = true
theorem ClsN.cls {K : PySem.W.Frag} {nm : Str} {C : Addr} (k : ClsN K nm C) : Cls K C := ⟨k.pg, k.hd, k.po, k.sa⟩
/-- a static method -/
structure StK (K : PySem.W.Frag) (C : Addr) (m : Str) (p f : Addr) (rest : List Value) : Prop where
  at_ : PySem.W.findCls K (.ref C) (.type "type") m = some (.get (.builtin "staticmethod.__get__") (.ref p) .none (.ref C))
  rec_ : PySem.W.recIn K p "staticmethod" = some (.ref f :: rest)
theorem StK.sm {K : PySem.W.Frag} {C p f : Addr} {m : Str} {rest : List Value} (s : StK K C m p f rest) : SMet K C (.type "type") m p f := ⟨s.at_, _, s.rec_⟩
end FT


namespace FT
open PySem PySem.Spec PyProof.Rows L2 TL ClX LamX NdefX
section
variable {q : Program} {l : PySem.W.OpenLaw} {w : World} {K : PySem.W.Frag} {h : Heap} {mg : Str → Option Value} {fa : Addr}
theorem all_mk {f_bgA f_dtA f_dpA f_doA f_nmA f_paA f_isn f_isa f_nd f_fi f_phA f_szA f_lrA f_spA f_duW f_udW f_nmW f_cdE f_opA f_tl f_ai f_ii f_at f_nusE f_pi f_aflE f_nflE f_ahas f_ausE f_npE f_aatE f_mv f_nu f_em f_feB f_aeL f_ap f_af f_fl f_so f_as f_aqR f_mvR f_mdR f_erR f_law p_at p_ap p_af p_fl p_as p_em C_InvalidUsers C_InvalidPlace C_UnknownUser C_UnknownName C_Mismatch I_InvalidUsers I_InvalidPlace I_UnknownUser I_UnknownName I_Mismatch R c_szA c_aqR c_mvR c_erR c_law t_szA t_aqR t_mvR t_erR t_law CF CA : Addr} {d_bgA d_dtA d_dpA d_doA d_nmA d_paA d_isn d_isa d_nd d_fi d_phA d_szA d_lrA d_spA d_duW d_udW d_nmW d_cdE d_opA d_tl d_ai d_ii d_at d_nusE d_pi d_aflE d_nflE d_ahas d_ausE d_npE d_aatE d_mv d_nu d_em d_feB d_aeL d_ap d_af d_fl d_so d_as d_aqR d_mvR d_mdR d_erR d_law D_InvalidUsers D_InvalidPlace D_UnknownUser D_UnknownName D_Mismatch : FuncData} {tL tT tR tCF tCA : Nat} {r_at r_ap r_af r_fl r_as r_em : List Value} (X : K.In h) (G : h.Ns mainGlobals mg) (hfa : mg "law" = some (.ref fa)) (TO : TabsOf q K h)
    (kCF : ClsK K "Forest" CF 12 tCF)
    (noCF_above : PySem.W.findIn K (.ref CF) "above" = some none)
    (kCA : ClsK K "Assignment" CA 60 tCA)
    (noCA_own_forest : PySem.W.findIn K (.ref CA) "own_forest" = some none)
    (noCA_own_places : PySem.W.findIn K (.ref CA) "own_places" = some none)
    (xA_mt : PySem.W.mroIn K CA (.type "tuple") = some false)
    (xA_ty : PySem.W.typeIn K (.ref CA) = some (.type "type"))
    (root : PySem.W.findCls K (.ref CF) (.type "type") "ROOT" = some (.val (.str "" tR)))
    (cL : PySem.W.nsIn K mainGlobals "LONGEST" = some (some (.int 8 tL)))
    (cT : PySem.W.nsIn K mainGlobals "LETTERS" = some (some (.str letters tT)))
    (n_bgA : PySem.W.nsIn K mainGlobals "_law_begin" = some (some (.ref f_bgA)))
    (u_bgA : L2.Fun K "_law_begin" "_law_begin" s__law_begin f_bgA d_bgA)
    (n_dtA : PySem.W.nsIn K mainGlobals "_law_take" = some (some (.ref f_dtA)))
    (u_dtA : L2.Fun K "_law_take" "_law_take" s__law_take f_dtA d_dtA)
    (n_dpA : PySem.W.nsIn K mainGlobals "_law_pick" = some (some (.ref f_dpA)))
    (u_dpA : L2.Fun K "_law_pick" "_law_pick" s__law_pick f_dpA d_dpA)
    (n_doA : PySem.W.nsIn K mainGlobals "_law_order" = some (some (.ref f_doA)))
    (u_doA : L2.Fun K "_law_order" "_law_order" s__law_order f_doA d_doA)
    (n_nmA : PySem.W.nsIn K mainGlobals "_law_names" = some (some (.ref f_nmA)))
    (u_nmA : L2.Fun K "_law_names" "_law_names" s__law_names f_nmA d_nmA)
    (n_paA : PySem.W.nsIn K mainGlobals "_law_parents" = some (some (.ref f_paA)))
    (u_paA : L2.Fun K "_law_parents" "_law_parents" s__law_parents f_paA d_paA)
    (n_isn : PySem.W.nsIn K mainGlobals "is_name" = some (some (.ref f_isn)))
    (u_isn : L2.Fun K "is_name" "is_name" s_is_name f_isn d_isn)
    (n_isa : PySem.W.nsIn K mainGlobals "is_ancestor" = some (some (.ref f_isa)))
    (u_isa : L2.Fun K "is_ancestor" "is_ancestor" s_is_ancestor f_isa d_isa)
    (n_nd : PySem.W.nsIn K mainGlobals "need_parents" = some (some (.ref f_nd)))
    (u_nd : L2.Fun K "need_parents" "need_parents" s_need_parents f_nd d_nd)
    (n_phA : PySem.W.nsIn K mainGlobals "_law_path" = some (some (.ref f_phA)))
    (u_phA : L2.Fun K "_law_path" "_law_path" s__law_path f_phA d_phA)
    (n_szA : PySem.W.nsIn K mainGlobals "_law_sizes" = some (some (.ref f_szA)))
    (u_szA : FunC K "_law_sizes" "_law_sizes" s__law_sizes f_szA d_szA c_szA)
    (t1_szA : PySem.W.tabIn K "_law_sizes" = some (c_szA, t_szA))
    (t2_szA : K.lookup t_szA = none)
    (t3_szA : ((recsOf q).find? (fun e => e.name == ("_law_sizes" : Str))).isSome = true)
    (n_lrA : PySem.W.nsIn K mainGlobals "_law_residents" = some (some (.ref f_lrA)))
    (u_lrA : L2.Fun K "_law_residents" "_law_residents" s__law_residents f_lrA d_lrA)
    (n_spA : PySem.W.nsIn K mainGlobals "_law_spots" = some (some (.ref f_spA)))
    (u_spA : L2.Fun K "_law_spots" "_law_spots" s__law_spots f_spA d_spA)
    (n_duW : PySem.W.nsIn K mainGlobals "_law_due" = some (some (.ref f_duW)))
    (u_duW : L2.Fun K "_law_due" "_law_due" s__law_due f_duW d_duW)
    (n_udW : PySem.W.nsIn K mainGlobals "_law_user_due" = some (some (.ref f_udW)))
    (u_udW : L2.Fun K "_law_user_due" "_law_user_due" s__law_user_due f_udW d_udW)
    (n_nmW : PySem.W.nsIn K mainGlobals "_law_name_due" = some (some (.ref f_nmW)))
    (u_nmW : L2.Fun K "_law_name_due" "_law_name_due" s__law_name_due f_nmW d_nmW)
    (n_cdE : PySem.W.nsIn K mainGlobals "_law_counted" = some (some (.ref f_cdE)))
    (u_cdE : L2.Fun K "_law_counted" "_law_counted" s__law_counted f_cdE d_cdE)
    (n_opA : PySem.W.nsIn K mainGlobals "_law_other_parents" = some (some (.ref f_opA)))
    (u_opA : L2.Fun K "_law_other_parents" "_law_other_parents" s__law_other_parents f_opA d_opA)
    (n_tl : PySem.W.nsIn K mainGlobals "_law_told" = some (some (.ref f_tl)))
    (u_tl : L2.Fun K "_law_told" "_law_told" s__law_told f_tl d_tl)
    (n_ii : PySem.W.nsIn K mainGlobals "is_integer" = some (some (.ref f_ii)))
    (u_ii : L2.Fun K "is_integer" "is_integer" s_is_integer f_ii d_ii)
    (n_nusE : PySem.W.nsIn K mainGlobals "need_user" = some (some (.ref f_nusE)))
    (u_nusE : L2.Fun K "need_user" "need_user" s_need_user f_nusE d_nusE)
    (n_pi : PySem.W.nsIn K mainGlobals "path_in" = some (some (.ref f_pi)))
    (u_pi : L2.Fun K "path_in" "path_in" s_path_in f_pi d_pi)
    (n_nflE : PySem.W.nsIn K mainGlobals "need_flag" = some (some (.ref f_nflE)))
    (u_nflE : L2.Fun K "need_flag" "need_flag" s_need_flag f_nflE d_nflE)
    (n_npE : PySem.W.nsIn K mainGlobals "need_place" = some (some (.ref f_npE)))
    (u_npE : L2.Fun K "need_place" "need_place" s_need_place f_npE d_npE)
    (n_nu : PySem.W.nsIn K mainGlobals "need_users" = some (some (.ref f_nu)))
    (u_nu : L2.Fun K "need_users" "need_users" s_need_users f_nu d_nu)
    (n_so : PySem.W.nsIn K mainGlobals "sizes_of" = some (some (.ref f_so)))
    (u_so : L2.Fun K "sizes_of" "sizes_of" s_sizes_of f_so d_so)
    (n_aqR : PySem.W.nsIn K mainGlobals "_law_asked_right" = some (some (.ref f_aqR)))
    (u_aqR : FunC K "_law_asked_right" "_law_asked_right" s__law_asked_right f_aqR d_aqR c_aqR)
    (t1_aqR : PySem.W.tabIn K "_law_asked_right" = some (c_aqR, t_aqR))
    (t2_aqR : K.lookup t_aqR = none)
    (t3_aqR : ((recsOf q).find? (fun e => e.name == ("_law_asked_right" : Str))).isSome = true)
    (n_mvR : PySem.W.nsIn K mainGlobals "_law_moved_right" = some (some (.ref f_mvR)))
    (u_mvR : FunC K "_law_moved_right" "_law_moved_right" s__law_moved_right f_mvR d_mvR c_mvR)
    (t1_mvR : PySem.W.tabIn K "_law_moved_right" = some (c_mvR, t_mvR))
    (t2_mvR : K.lookup t_mvR = none)
    (t3_mvR : ((recsOf q).find? (fun e => e.name == ("_law_moved_right" : Str))).isSome = true)
    (n_mdR : PySem.W.nsIn K mainGlobals "_law_made_right" = some (some (.ref f_mdR)))
    (u_mdR : L2.Fun K "_law_made_right" "_law_made_right" s__law_made_right f_mdR d_mdR)
    (n_erR : PySem.W.nsIn K mainGlobals "_law_empty_right" = some (some (.ref f_erR)))
    (u_erR : FunC K "_law_empty_right" "_law_empty_right" s__law_empty_right f_erR d_erR c_erR)
    (t1_erR : PySem.W.tabIn K "_law_empty_right" = some (c_erR, t_erR))
    (t2_erR : K.lookup t_erR = none)
    (t3_erR : ((recsOf q).find? (fun e => e.name == ("_law_empty_right" : Str))).isSome = true)
    (n_law : PySem.W.nsIn K mainGlobals "law" = some (some (.ref f_law)))
    (u_law : FunC K "law" "law" s_law f_law d_law c_law)
    (t1_law : PySem.W.tabIn K "law" = some (c_law, t_law))
    (t2_law : K.lookup t_law = none)
    (t3_law : ((recsOf q).find? (fun e => e.name == ("law" : Str))).isSome = true)
    (ne_szA_aqR : t_szA ≠ t_aqR)
    (ne_szA_mvR : t_szA ≠ t_mvR)
    (ne_szA_erR : t_szA ≠ t_erR)
    (ne_szA_law : t_szA ≠ t_law)
    (ne_aqR_mvR : t_aqR ≠ t_mvR)
    (ne_aqR_erR : t_aqR ≠ t_erR)
    (ne_aqR_law : t_aqR ≠ t_law)
    (ne_mvR_erR : t_mvR ≠ t_erR)
    (ne_mvR_law : t_mvR ≠ t_law)
    (ne_erR_law : t_erR ≠ t_law)
    (m_fi : MetK K CF "__init__" f_fi)
    (m_ai : MetK K CA "__init__" f_ai)
    (m_aflE : MetK K CA "flags_of" f_aflE)
    (m_ahas : MetK K CA "has" f_ahas)
    (m_ausE : MetK K CA "users_of" f_ausE)
    (m_aatE : MetK K CA "at" f_aatE)
    (m_mv : MetK K CA "moved" f_mv)
    (m_feB : MetK K CF "__eq__" f_feB)
    (m_aeL : MetK K CA "__eq__" f_aeL)
    (m_at : PrK K CA "total" p_at f_at r_at)
    (m_ap : PrK K CA "places" p_ap f_ap r_ap)
    (m_af : PrK K CA "forest" p_af f_af r_af)
    (m_fl : PrK K CF "flags" p_fl f_fl r_fl)
    (m_as : PrK K CA "sizes" p_as f_as r_as)
    (m_em : StK K CA "empty" p_em f_em r_em)
    (eF_CF : EqF K CF f_feB)
    (eF_CA : EqF K CA f_aeL)
    (u_fi : L2.Fun K "__init__" "Forest.__init__" s_Forest___init__ f_fi d_fi)
    (u_ai : L2.Fun K "__init__" "Assignment.__init__" s_Assignment___init__ f_ai d_ai)
    (u_aflE : L2.Fun K "flags_of" "Assignment.flags_of" s_Assignment_flags_of f_aflE d_aflE)
    (u_ahas : L2.Fun K "has" "Assignment.has" s_Assignment_has f_ahas d_ahas)
    (u_ausE : L2.Fun K "users_of" "Assignment.users_of" s_Assignment_users_of f_ausE d_ausE)
    (u_aatE : L2.Fun K "at" "Assignment.at" s_Assignment_at f_aatE d_aatE)
    (u_mv : L2.Fun K "moved" "Assignment.moved" s_Assignment_moved f_mv d_mv)
    (u_feB : L2.Fun K "__eq__" "Forest.__eq__" s_Forest___eq__ f_feB d_feB)
    (u_aeL : L2.Fun K "__eq__" "Assignment.__eq__" s_Assignment___eq__ f_aeL d_aeL)
    (u_at : L2.Fun K "total" "Assignment.total" s_Assignment_total f_at d_at)
    (u_ap : L2.Fun K "places" "Assignment.places" s_Assignment_places f_ap d_ap)
    (u_af : L2.Fun K "forest" "Assignment.forest" s_Assignment_forest f_af d_af)
    (u_fl : L2.Fun K "flags" "Forest.flags" s_Forest_flags f_fl d_fl)
    (u_as : L2.Fun K "sizes" "Assignment.sizes" s_Assignment_sizes f_as d_as)
    (u_em : L2.Fun K "empty" "Assignment.empty" s_Assignment_empty f_em d_em)
    (rt0 : RootF K R)
    (e_InvalidUsers : ClsF K "InvalidUsers" "" C_InvalidUsers I_InvalidUsers R)
    (i_InvalidUsers : L2.Fun K "__init__" "InvalidUsers.__init__" s_InvalidUsers___init__ I_InvalidUsers D_InvalidUsers)
    (e_InvalidPlace : ClsF K "InvalidPlace" "user" C_InvalidPlace I_InvalidPlace R)
    (i_InvalidPlace : L2.Fun K "__init__" "InvalidPlace.__init__" s_InvalidPlace___init__ I_InvalidPlace D_InvalidPlace)
    (e_UnknownUser : ClsF K "UnknownUser" "user" C_UnknownUser I_UnknownUser R)
    (i_UnknownUser : L2.Fun K "__init__" "UnknownUser.__init__" s_UnknownUser___init__ I_UnknownUser D_UnknownUser)
    (e_UnknownName : ClsF K "UnknownName" "name" C_UnknownName I_UnknownName R)
    (i_UnknownName : L2.Fun K "__init__" "UnknownName.__init__" s_UnknownName___init__ I_UnknownName D_UnknownName)
    (e_Mismatch : ClsF K "Mismatch" "" C_Mismatch I_Mismatch R)
    (i_Mismatch : L2.Fun K "__init__" "Mismatch.__init__" s_Mismatch___init__ I_Mismatch D_Mismatch)
    (apart : ∀ i : Fin 5, R ≠ ([C_InvalidUsers, C_InvalidPlace, C_UnknownUser, C_UnknownName, C_Mismatch] : List Nat).getD i.1 0)
    (dist : ∀ i j : Fin 5, decide (([C_InvalidUsers, C_InvalidPlace, C_UnknownUser, C_UnknownName, C_Mismatch] : List Nat).getD i.1 0 = ([C_InvalidUsers, C_InvalidPlace, C_UnknownUser, C_UnknownName, C_Mismatch] : List Nat).getD j.1 0) = decide (i.1 = j.1))
    (z_abs : PySem.W.nsIn K mainGlobals "abs" = some none)
    (z_len : PySem.W.nsIn K mainGlobals "len" = some none)
    (z_rng : PySem.W.nsIn K mainGlobals "range" = some none)
    (z_enu : PySem.W.nsIn K mainGlobals "enumerate" = some none)
    (z_zip : PySem.W.nsIn K mainGlobals "zip" = some none)
    (z_isi : PySem.W.nsIn K mainGlobals "isinstance" = some none)
    (z_all : PySem.W.nsIn K mainGlobals "all" = some none)
    (z_srt : PySem.W.nsIn K mainGlobals "sorted" = some none)
    (z_lst : PySem.W.nsIn K mainGlobals "list" = some none)
    (z_dct : PySem.W.nsIn K mainGlobals "dict" = some none)
    (z_str : PySem.W.nsIn K mainGlobals "str" = some none)
    (z_int : PySem.W.nsIn K mainGlobals "int" = some none)
    (z_tup : PySem.W.nsIn K mainGlobals "tuple" = some none)
    (z_sum : PySem.W.nsIn K mainGlobals "sum" = some none)
    (z_min : PySem.W.nsIn K mainGlobals "min" = some none)
    (z_max : PySem.W.nsIn K mainGlobals "max" = some none)
    (z_rep : PySem.W.nsIn K mainGlobals "repr" = some none)
    (z_bool : PySem.W.nsIn K mainGlobals "bool" = some none)
    (z_any : PySem.W.nsIn K mainGlobals "any" = some none)
    (z_vE : PySem.W.nsIn K mainGlobals "ValueError" = some none)
    : LawTG l w K 10 63 "_law_script" mg fa h := by
  cases hfa.symm.trans (PySem.W.mg_of X G n_law)
  have N : Nm mg := ⟨PySem.W.mg_none_of X G z_abs, PySem.W.mg_none_of X G z_len, PySem.W.mg_none_of X G z_rng, PySem.W.mg_none_of X G z_enu, PySem.W.mg_none_of X G z_zip, PySem.W.mg_none_of X G z_isi, PySem.W.mg_none_of X G z_all, PySem.W.mg_none_of X G z_srt, PySem.W.mg_none_of X G z_lst, PySem.W.mg_none_of X G z_dct, PySem.W.mg_none_of X G z_str, PySem.W.mg_none_of X G z_int, PySem.W.mg_none_of X G z_tup, PySem.W.mg_none_of X G z_sum, PySem.W.mg_none_of X G z_min, PySem.W.mg_none_of X G z_max, PySem.W.mg_none_of X G z_rep, PySem.W.mg_none_of X G z_bool, PySem.W.mg_none_of X G z_any, PySem.W.mg_none_of X G z_vE⟩
  have Cs_ : Cs mg := ⟨⟨_, PySem.W.mg_of X G cL⟩, ⟨_, PySem.W.mg_of X G cT⟩⟩
  have SF : IsF K CF := ⟨kCF.ha, kCF.hn, kCF.ht, kCF.hm⟩
  have SA : IsF K CA := ⟨kCA.ha, kCA.hn, kCA.ht, kCA.hm⟩
  have O : FoC K CF := ⟨kCF.cls, noCF_above⟩
  have Z : Fc K mg CF (.type "type") := kCF.fc X G root
  have B : Ac K mg CA (.type "type") := ⟨PySem.W.mg_of X G kCA.nsn, ⟨kCA.rd, kCA.ga⟩, ⟨_, kCA.most, ⟨_, rfl⟩⟩, kCA.cls, noCA_own_forest, noCA_own_places⟩
  have b_bgA := u_bgA.binds (ps := ["_law_script"]) fun _ _ _ _ _ _ us hl => match us, hl with | [_], _ => rfl
  have b_dtA := u_dtA.binds (ps := ["_law_draw", "_law_size"]) fun _ _ _ _ _ _ us hl => match us, hl with | [_, _], _ => rfl
  have b_dpA := u_dpA.binds (ps := ["_law_draw", "_law_some"]) fun _ _ _ _ _ _ us hl => match us, hl with | [_, _], _ => rfl
  have b_doA := u_doA.binds (ps := ["_law_draw", "_law_some"]) fun _ _ _ _ _ _ us hl => match us, hl with | [_, _], _ => rfl
  have b_nmA := u_nmA.binds (ps := ["_law_draw", "_law_many"]) fun _ _ _ _ _ _ us hl => match us, hl with | [_, _], _ => rfl
  have b_paA := u_paA.binds (ps := ["_law_draw", "_law_many"]) fun _ _ _ _ _ _ us hl => match us, hl with | [_, _], _ => rfl
  have b_isn := u_isn.binds (ps := ["value"]) fun _ _ _ _ _ _ us hl => match us, hl with | [_], _ => rfl
  have b_isa := u_isa.binds (ps := ["parents", "name"]) fun _ _ _ _ _ _ us hl => match us, hl with | [_, _], _ => rfl
  have b_nd := u_nd.binds (ps := ["parents"]) fun _ _ _ _ _ _ us hl => match us, hl with | [_], _ => rfl
  have b_fi := u_fi.binds (ps := ["self", "parents"]) fun _ _ _ _ _ _ us hl => match us, hl with | [_, _], _ => rfl
  have b_phA := u_phA.binds (ps := ["_law_above", "_law_spot"]) fun _ _ _ _ _ _ us hl => match us, hl with | [_, _], _ => rfl
  have b_szA := (u_szA.fun).binds (ps := ["_law_draw", "_law_above", "_law_many"]) fun _ _ _ _ _ _ us hl => match us, hl with | [_, _, _], _ => rfl
  have b_lrA := u_lrA.binds (ps := ["_law_above", "_law_many", "_law_how"]) fun _ _ _ _ _ _ us hl => match us, hl with | [_, _, _], _ => rfl
  have b_spA := u_spA.binds (ps := ["_law_draw", "_law_above", "_law_how", "_law_many"]) fun _ _ _ _ _ _ us hl => match us, hl with | [_, _, _, _], _ => rfl
  have b_duW := u_duW.binds (ps := ["_law_above", "_law_item"]) fun _ _ _ _ _ _ us hl => match us, hl with | [_, _], _ => rfl
  have b_udW := u_udW.binds (ps := ["_law_spots_here", "_law_who"]) fun _ _ _ _ _ _ us hl => match us, hl with | [_, _], _ => rfl
  have b_nmW := u_nmW.binds (ps := ["_law_above", "_law_word", "_law_root"]) fun _ _ _ _ _ _ us hl => match us, hl with | [_, _, _], _ => rfl
  have b_cdE := u_cdE.binds (ps := ["_law_above", "_law_spots_here"]) fun _ _ _ _ _ _ us hl => match us, hl with | [_, _], _ => rfl
  have b_opA := u_opA.binds (ps := ["_law_above"]) fun _ _ _ _ _ _ us hl => match us, hl with | [_], _ => rfl
  have b_tl := u_tl.binds (ps := ["_law_work"]) fun _ _ _ _ _ _ us hl => match us, hl with | [_], _ => rfl
  have b_ai := u_ai.binds (ps := ["self", "forest", "places"]) fun _ _ _ _ _ _ us hl => match us, hl with | [_, _, _], _ => rfl
  have b_ii := u_ii.binds (ps := ["value", "least"]) fun _ _ _ _ _ _ us hl => match us, hl with | [_, _], _ => rfl
  have b_at := u_at.binds (ps := ["self"]) fun _ _ _ _ _ _ us hl => match us, hl with | [_], _ => rfl
  have b_nusE := u_nusE.binds (ps := ["assignment", "user"]) fun _ _ _ _ _ _ us hl => match us, hl with | [_, _], _ => rfl
  have b_pi := u_pi.binds (ps := ["above", "place"]) fun _ _ _ _ _ _ us hl => match us, hl with | [_, _], _ => rfl
  have b_aflE := u_aflE.binds (ps := ["self", "user"]) fun _ _ _ _ _ _ us hl => match us, hl with | [_, _], _ => rfl
  have b_nflE := u_nflE.binds (ps := ["forest", "name"]) fun _ _ _ _ _ _ us hl => match us, hl with | [_, _], _ => rfl
  have b_ahas := u_ahas.binds (ps := ["self", "user", "name"]) fun _ _ _ _ _ _ us hl => match us, hl with | [_, _, _], _ => rfl
  have b_ausE := u_ausE.binds (ps := ["self", "name"]) fun _ _ _ _ _ _ us hl => match us, hl with | [_, _], _ => rfl
  have b_npE := u_npE.binds (ps := ["forest", "place"]) fun _ _ _ _ _ _ us hl => match us, hl with | [_, _], _ => rfl
  have b_aatE := u_aatE.binds (ps := ["self", "place"]) fun _ _ _ _ _ _ us hl => match us, hl with | [_, _], _ => rfl
  have b_nu := u_nu.binds (ps := ["users", "most"]) fun _ _ _ _ _ _ us hl => match us, hl with | [_, _], _ => rfl
  have b_em := u_em.binds (ps := ["forest", "users"]) fun _ _ _ _ _ _ us hl => match us, hl with | [_, _], _ => rfl
  have b_feB := u_feB.binds (ps := ["self", "other"]) fun _ _ _ _ _ _ us hl => match us, hl with | [_, _], _ => rfl
  have b_aeL := u_aeL.binds (ps := ["self", "other"]) fun _ _ _ _ _ _ us hl => match us, hl with | [_, _], _ => rfl
  have b_ap := u_ap.binds (ps := ["self"]) fun _ _ _ _ _ _ us hl => match us, hl with | [_], _ => rfl
  have b_af := u_af.binds (ps := ["self"]) fun _ _ _ _ _ _ us hl => match us, hl with | [_], _ => rfl
  have b_fl := u_fl.binds (ps := ["self"]) fun _ _ _ _ _ _ us hl => match us, hl with | [_], _ => rfl
  have b_so := u_so.binds (ps := ["forest", "places"]) fun _ _ _ _ _ _ us hl => match us, hl with | [_, _], _ => rfl
  have b_as := u_as.binds (ps := ["self"]) fun _ _ _ _ _ _ us hl => match us, hl with | [_], _ => rfl
  have b_aqR := (u_aqR.fun).binds (ps := ["_law_sample", "_law_above", "_law_spots_here", "_law_who", "_law_word"]) fun _ _ _ _ _ _ us hl => match us, hl with | [_, _, _, _, _], _ => rfl
  have b_mvR := (u_mvR.fun).binds (ps := ["_law_sample", "_law_above", "_law_spots_here", "_law_who", "_law_word", "_law_more"]) fun _ _ _ _ _ _ us hl => match us, hl with | [_, _, _, _, _, _], _ => rfl
  have b_mdR := u_mdR.binds (ps := ["_law_draw", "_law_told_here", "_law_grove", "_law_above", "_law_item", "_law_at"]) fun _ _ _ _ _ _ us hl => match us, hl with | [_, _, _, _, _, _], _ => rfl
  have b_erR := (u_erR.fun).binds (ps := ["_law_draw", "_law_grove", "_law_many"]) fun _ _ _ _ _ _ us hl => match us, hl with | [_, _, _], _ => rfl
  have g_bgA := PySem.W.mg_of X G n_bgA
  have g_dtA := PySem.W.mg_of X G n_dtA
  have g_dpA := PySem.W.mg_of X G n_dpA
  have g_doA := PySem.W.mg_of X G n_doA
  have g_nmA := PySem.W.mg_of X G n_nmA
  have g_paA := PySem.W.mg_of X G n_paA
  have g_isn := PySem.W.mg_of X G n_isn
  have g_isa := PySem.W.mg_of X G n_isa
  have g_nd := PySem.W.mg_of X G n_nd
  have g_phA := PySem.W.mg_of X G n_phA
  have g_szA := PySem.W.mg_of X G n_szA
  have g_lrA := PySem.W.mg_of X G n_lrA
  have g_spA := PySem.W.mg_of X G n_spA
  have g_duW := PySem.W.mg_of X G n_duW
  have g_udW := PySem.W.mg_of X G n_udW
  have g_nmW := PySem.W.mg_of X G n_nmW
  have g_cdE := PySem.W.mg_of X G n_cdE
  have g_opA := PySem.W.mg_of X G n_opA
  have g_tl := PySem.W.mg_of X G n_tl
  have g_ii := PySem.W.mg_of X G n_ii
  have g_nusE := PySem.W.mg_of X G n_nusE
  have g_pi := PySem.W.mg_of X G n_pi
  have g_nflE := PySem.W.mg_of X G n_nflE
  have g_npE := PySem.W.mg_of X G n_npE
  have g_nu := PySem.W.mg_of X G n_nu
  have g_so := PySem.W.mg_of X G n_so
  have g_aqR := PySem.W.mg_of X G n_aqR
  have g_mvR := PySem.W.mg_of X G n_mvR
  have g_mdR := PySem.W.mg_of X G n_mdR
  have g_erR := PySem.W.mg_of X G n_erR
  have rt := rt0.rt X G
  have at_ : ∀ i, i < 5 → ClsAt K (([C_InvalidUsers, C_InvalidPlace, C_UnknownUser, C_UnknownName, C_Mismatch] : List Nat).getD i 0) (.ref R :: exTail) := fun i hi => match i, hi with
    | 0, _ => e_InvalidUsers.at_
    | 1, _ => e_InvalidPlace.at_
    | 2, _ => e_UnknownUser.at_
    | 3, _ => e_UnknownName.at_
    | 4, _ => e_Mismatch.at_
  have xs_ : ∀ i, i < 5 → XCls K (([C_InvalidUsers, C_InvalidPlace, C_UnknownUser, C_UnknownName, C_Mismatch] : List Nat).getD i 0) := fun i hi => match i, hi with
    | 0, _ => e_InvalidUsers.x rt0
    | 1, _ => e_InvalidPlace.x rt0
    | 2, _ => e_UnknownUser.x rt0
    | 3, _ => e_UnknownName.x rt0
    | 4, _ => e_Mismatch.x rt0
  have kits : ∀ i j, i < 5 → j < 5 → PySem.W.kitOne K (.ref (([C_InvalidUsers, C_InvalidPlace, C_UnknownUser, C_UnknownName, C_Mismatch] : List Nat).getD i 0)) (.ref (([C_InvalidUsers, C_InvalidPlace, C_UnknownUser, C_UnknownName, C_Mismatch] : List Nat).getD j 0)) = some (decide (i = j)) := fun i j hi hj => by rw [(at_ i hi).kit (at_ j hj), has_cls (dist ⟨i, hi⟩ ⟨j, hj⟩) (apart ⟨j, hj⟩)]
  have exs : ∀ i j, i < 5 → j < 5 → PySem.W.exmOne K (.ref (([C_InvalidUsers, C_InvalidPlace, C_UnknownUser, C_UnknownName, C_Mismatch] : List Nat).getD i 0)) (.ref (([C_InvalidUsers, C_InvalidPlace, C_UnknownUser, C_UnknownName, C_Mismatch] : List Nat).getD j 0)) = some (decide (i = j)) := fun i j hi hj => by rw [(at_ i hi).exm (at_ j hj) rfl, has_cls (dist ⟨i, hi⟩ ⟨j, hj⟩) (apart ⟨j, hj⟩)]
  obtain ⟨T, eT⟩ : ∃ T : List (Addr × Str), T = [(t_szA, lamQ "_law_sizes"), (t_aqR, lamQ "_law_asked_right"), (t_mvR, lamQ "_law_moved_right"), (t_erR, lamQ "_law_empty_right"), (t_law, lamQ "law")] := ⟨_, rfl⟩
  have m_szA : (t_szA, lamQ "_law_sizes") ∈ T := by rw [eT]; simp
  have un_szA : ∀ p ∈ T, p.1 = t_szA → p.2 = lamQ "_law_sizes" := fun p hp e => by
    rw [eT] at hp
    simp only [List.mem_cons, List.not_mem_nil, or_false] at hp
    rcases hp with rfl | rfl | rfl | rfl | rfl
    · rfl
    · exact absurd e (Ne.symm ne_szA_aqR)
    · exact absurd e (Ne.symm ne_szA_mvR)
    · exact absurd e (Ne.symm ne_szA_erR)
    · exact absurd e (Ne.symm ne_szA_law)
  have m_aqR : (t_aqR, lamQ "_law_asked_right") ∈ T := by rw [eT]; simp
  have un_aqR : ∀ p ∈ T, p.1 = t_aqR → p.2 = lamQ "_law_asked_right" := fun p hp e => by
    rw [eT] at hp
    simp only [List.mem_cons, List.not_mem_nil, or_false] at hp
    rcases hp with rfl | rfl | rfl | rfl | rfl
    · exact absurd e ne_szA_aqR
    · rfl
    · exact absurd e (Ne.symm ne_aqR_mvR)
    · exact absurd e (Ne.symm ne_aqR_erR)
    · exact absurd e (Ne.symm ne_aqR_law)
  have m_mvR : (t_mvR, lamQ "_law_moved_right") ∈ T := by rw [eT]; simp
  have un_mvR : ∀ p ∈ T, p.1 = t_mvR → p.2 = lamQ "_law_moved_right" := fun p hp e => by
    rw [eT] at hp
    simp only [List.mem_cons, List.not_mem_nil, or_false] at hp
    rcases hp with rfl | rfl | rfl | rfl | rfl
    · exact absurd e ne_szA_mvR
    · exact absurd e ne_aqR_mvR
    · rfl
    · exact absurd e (Ne.symm ne_mvR_erR)
    · exact absurd e (Ne.symm ne_mvR_law)
  have m_erR : (t_erR, lamQ "_law_empty_right") ∈ T := by rw [eT]; simp
  have un_erR : ∀ p ∈ T, p.1 = t_erR → p.2 = lamQ "_law_empty_right" := fun p hp e => by
    rw [eT] at hp
    simp only [List.mem_cons, List.not_mem_nil, or_false] at hp
    rcases hp with rfl | rfl | rfl | rfl | rfl
    · exact absurd e ne_szA_erR
    · exact absurd e ne_aqR_erR
    · exact absurd e ne_mvR_erR
    · rfl
    · exact absurd e (Ne.symm ne_erR_law)
  have m_law : (t_law, lamQ "law") ∈ T := by rw [eT]; simp
  have un_law : ∀ p ∈ T, p.1 = t_law → p.2 = lamQ "law" := fun p hp e => by
    rw [eT] at hp
    simp only [List.mem_cons, List.not_mem_nil, or_false] at hp
    rcases hp with rfl | rfl | rfl | rfl | rfl
    · exact absurd e ne_szA_law
    · exact absurd e ne_aqR_law
    · exact absurd e ne_mvR_law
    · exact absurd e ne_erR_law
    · rfl
  refine ⟨d_law, ([(c_szA, t_szA), (c_aqR, t_aqR), (c_mvR, t_mvR), (c_erR, t_erR), (c_law, t_law)] : List (Addr × Addr)), spLaw04 K T, fun p hp => ?_, fun s u => ?_, fun H a ns hl hts hS => ?_, fun base KB GB TBs => ?_⟩
  · simp only [List.mem_cons, List.not_mem_nil, or_false] at hp
    rcases hp with rfl | rfl | rfl | rfl | rfl
    · exact ⟨(TO _ _ _ t3_szA t1_szA).1, (TO _ _ _ t3_szA t1_szA).2, t2_szA⟩
    · exact ⟨(TO _ _ _ t3_aqR t1_aqR).1, (TO _ _ _ t3_aqR t1_aqR).2, t2_aqR⟩
    · exact ⟨(TO _ _ _ t3_mvR t1_mvR).1, (TO _ _ _ t3_mvR t1_mvR).2, t2_mvR⟩
    · exact ⟨(TO _ _ _ t3_erR t1_erR).1, (TO _ _ _ t3_erR t1_erR).2, t2_erR⟩
    · exact ⟨(TO _ _ _ t3_law t1_law).1, (TO _ _ _ t3_law t1_law).2, t2_law⟩
  · obtain ⟨oc, od, kV, doc, pm, an, cdv, ct, osl, rfl, lk, hcd⟩ := u_law.fun.ex
    exact .of_eq rfl
  · refine ⟨a, ns, rfl, hS, hl, ?_, fun _ => rfl⟩
    intro p hp
    rw [eT] at hp
    simp only [List.mem_cons, List.not_mem_nil, or_false] at hp
    rcases hp with rfl | rfl | rfl | rfl | rfl
    · exact TabS.nil (hts (c_szA, t_szA) (by simp))
    · exact TabS.nil (hts (c_aqR, t_aqR) (by simp))
    · exact TabS.nil (hts (c_mvR, t_mvR) (by simp))
    · exact TabS.nil (hts (c_erR, t_erR) (by simp))
    · exact TabS.nil (hts (c_law, t_law) (by simp))
  have E_InvalidUsers : Er0 l.prog w K mg base "InvalidUsers" C_InvalidUsers I_InvalidUsers D_InvalidUsers := ⟨e_InvalidUsers.er X G rt0, ok_InvalidUsers i_InvalidUsers rt (e_InvalidUsers.er X G rt0), i_InvalidUsers.binds (ps := ["self"]) fun _ _ _ _ _ _ us hl => match us, hl with | [_], _ => rfl⟩
  have E_InvalidPlace : Er1 l.prog w K mg base "InvalidPlace" "user" C_InvalidPlace I_InvalidPlace D_InvalidPlace := ⟨e_InvalidPlace.er X G rt0, ok_InvalidPlace i_InvalidPlace rt (e_InvalidPlace.er X G rt0), i_InvalidPlace.binds (ps := ["self", "user"]) fun _ _ _ _ _ _ us hl => match us, hl with | [_, _], _ => rfl⟩
  have E_UnknownUser : Er1 l.prog w K mg base "UnknownUser" "user" C_UnknownUser I_UnknownUser D_UnknownUser := ⟨e_UnknownUser.er X G rt0, ok_UnknownUser i_UnknownUser rt (e_UnknownUser.er X G rt0), i_UnknownUser.binds (ps := ["self", "user"]) fun _ _ _ _ _ _ us hl => match us, hl with | [_, _], _ => rfl⟩
  have E_UnknownName : Er1 l.prog w K mg base "UnknownName" "name" C_UnknownName I_UnknownName D_UnknownName := ⟨e_UnknownName.er X G rt0, ok_UnknownName i_UnknownName rt (e_UnknownName.er X G rt0), i_UnknownName.binds (ps := ["self", "name"]) fun _ _ _ _ _ _ us hl => match us, hl with | [_, _], _ => rfl⟩
  have D_bgA : Dn l.prog w K mg base CX0 1 "_law_begin" ["_law_script"] (spBegin K) f_bgA d_bgA := ⟨ok_begin u_bgA N, u_bgA.kp, b_bgA, g_bgA⟩
  have D_dtA : Dn l.prog w K mg base CX0 1 "_law_take" ["_law_draw", "_law_size"] (spDraw) f_dtA d_dtA := ⟨ok_draw u_dtA N, u_dtA.kp, b_dtA, g_dtA⟩
  have D_dpA : Dn l.prog w K mg base CX0 2 "_law_pick" ["_law_draw", "_law_some"] (spPick K) f_dpA d_dpA := ⟨ok_pick u_dpA N u_dtA b_dtA g_dtA, u_dpA.kp, b_dpA, g_dpA⟩
  have D_doA : Dn l.prog w K mg base CX0 2 "_law_order" ["_law_draw", "_law_some"] (spOrder K) f_doA d_doA := ⟨ok_order u_doA N u_dtA b_dtA g_dtA, u_doA.kp, b_doA, g_doA⟩
  have D_nmA : Dn l.prog w K mg base CX0 3 "_law_names" ["_law_draw", "_law_many"] (spNames) f_nmA d_nmA := ⟨ok_names u_nmA N u_dtA b_dtA g_dtA u_doA b_doA g_doA, u_nmA.kp, b_nmA, g_nmA⟩
  have D_paA : Dn l.prog w K mg base CX0 4 "_law_parents" ["_law_draw", "_law_many"] (spParents) f_paA d_paA := ⟨ok_parents u_paA N D_dtA D_dpA D_doA D_nmA, u_paA.kp, b_paA, g_paA⟩
  have D_isn : Dn l.prog w K mg base CX0 1 "is_name" ["value"] (spIsName) f_isn d_isn := ⟨ok_isName u_isn N Cs_, u_isn.kp, b_isn, g_isn⟩
  have D_isa : Dn l.prog w K mg base CX0 1 "is_ancestor" ["parents", "name"] (spIsAnc) f_isa d_isa := ⟨ok_isAnc u_isa, u_isa.kp, b_isa, g_isa⟩
  have D_nd : Dn l.prog w K mg base CX0 2 "need_parents" ["parents"] (spNeed) f_nd d_nd := ⟨ok_need u_nd N Cs_ Z D_isn D_isa, u_nd.kp, b_nd, g_nd⟩
  have F_fi : FnOk l.prog w K mg base CX0 3 f_fi d_fi ["self", "parents"] (spFInit CF) := ok_finit u_fi N O D_nd
  have MK_fi : Mk K CF f_fi := ⟨kCF.mks, m_fi.at_, m_fi.fn, kCF.kp⟩
  have D_phA : Dn l.prog w K mg base CX0 1 "_law_path" ["_law_above", "_law_spot"] (spPath) f_phA d_phA := ⟨ok_path u_phA, u_phA.kp, b_phA, g_phA⟩
  have D_szA : Dn l.prog w K mg base CX0 5 "_law_sizes" ["_law_draw", "_law_above", "_law_many"] (spSizes T) f_szA d_szA := ⟨ok_sizes u_szA N D_dtA D_dpA D_doA D_phA (TBs (c_szA, t_szA) (by simp)) m_szA un_szA, u_szA.kp, b_szA, g_szA⟩
  have D_lrA : Dn l.prog w K mg base CX0 1 "_law_residents" ["_law_above", "_law_many", "_law_how"] (spLawRes) f_lrA d_lrA := ⟨ok_lawRes u_lrA N, u_lrA.kp, b_lrA, g_lrA⟩
  have D_spA : Dn l.prog w K mg base CX0 3 "_law_spots" ["_law_draw", "_law_above", "_law_how", "_law_many"] (spSpots) f_spA d_spA := ⟨ok_spots u_spA D_lrA D_doA, u_spA.kp, b_spA, g_spA⟩
  have D_duW : Dn l.prog w K mg base CX0 2 "_law_due" ["_law_above", "_law_item"] (spDueW K) f_duW d_duW := ⟨ok_dueW u_duW N, u_duW.kp, b_duW, g_duW⟩
  have D_udW : Dn l.prog w K mg base CX0 2 "_law_user_due" ["_law_spots_here", "_law_who"] (spUserW K) f_udW d_udW := ⟨ok_userW u_udW N, u_udW.kp, b_udW, g_udW⟩
  have D_nmW : Dn l.prog w K mg base CX0 2 "_law_name_due" ["_law_above", "_law_word", "_law_root"] (spNameW K) f_nmW d_nmW := ⟨ok_nameW u_nmW N, u_nmW.kp, b_nmW, g_nmW⟩
  have D_cdE : Dn l.prog w K mg base CX0 2 "_law_counted" ["_law_above", "_law_spots_here"] (spCountE) f_cdE d_cdE := ⟨ok_countE u_cdE N D_phA, u_cdE.kp, b_cdE, g_cdE⟩
  have D_opA : Dn l.prog w K mg base CX0 1 "_law_other_parents" ["_law_above"] (spOtherP) f_opA d_opA := ⟨ok_otherP u_opA N, u_opA.kp, b_opA, g_opA⟩
  have GE : Ge K mg "_law_told" s__law_told f_tl d_tl := ⟨u_tl, b_tl, g_tl⟩
  have F_ai : FnOk l.prog w K mg base CX0 1 f_ai d_ai ["self", "forest", "places"] (spAInit CF CA) := ok_ainit u_ai N O Z B
  have MK_ai : Mk K CA f_ai := ⟨kCA.mks, m_ai.at_, m_ai.fn, kCA.kp⟩
  have D_ii : Dn l.prog w K mg base CX0 1 "is_integer" ["value", "least"] (spIsInt K) f_ii d_ii := ⟨ok_isInt u_ii N, u_ii.kp, b_ii, g_ii⟩
  have P_at : PrN l.prog w K mg base 1 CA "total" (spATotal CA) p_at f_at d_at := ⟨⟨m_at.at_, m_at.get, m_at.tak, ⟨_, m_at.rec_⟩⟩, ok_atotal u_at N B, b_at⟩
  have D_nusE : Dn l.prog w K mg base (L2.CX l.prog w) 3 "need_user" ["assignment", "user"] (spNeedUsE K CA C_UnknownUser) f_nusE d_nusE := ⟨ok_needUsE u_nusE N B D_ii P_at E_UnknownUser, u_nusE.kp, b_nusE, g_nusE⟩
  have D_pi : Dn l.prog w K mg base CX0 1 "path_in" ["above", "place"] (spPathIn) f_pi d_pi := ⟨ok_pathIn u_pi N, u_pi.kp, b_pi, g_pi⟩
  have F_aflE : FnOk l.prog w K mg base (L2.CX l.prog w) 4 f_aflE d_aflE ["self", "user"] (spAFlagsE K CF CA C_UnknownUser) := ok_aflagsE u_aflE O B D_nusE D_pi
  have M_aflE : Mt l.prog w K mg base (L2.CX l.prog w) 4 CA "flags_of" ["self", "user"] (spAFlagsE K CF CA C_UnknownUser) f_aflE d_aflE := ⟨⟨m_aflE.at_, m_aflE.fn, u_aflE.kp⟩, F_aflE, b_aflE⟩
  have D_nflE : Dn l.prog w K mg base (L2.CX l.prog w) 3 "need_flag" ["forest", "name"] (spNeedFlE K CF C_UnknownName) f_nflE d_nflE := ⟨ok_needFlE u_nflE N O E_UnknownName, u_nflE.kp, b_nflE, g_nflE⟩
  have F_ahas : FnOk l.prog w K mg base (L2.CX l.prog w) 4 f_ahas d_ahas ["self", "user", "name"] (spAHas K CF CA C_UnknownName C_UnknownUser) := ok_ahas u_ahas O B D_nusE D_nflE D_pi
  have M_ahas : Mt l.prog w K mg base (L2.CX l.prog w) 4 CA "has" ["self", "user", "name"] (spAHas K CF CA C_UnknownName C_UnknownUser) f_ahas d_ahas := ⟨⟨m_ahas.at_, m_ahas.fn, u_ahas.kp⟩, F_ahas, b_ahas⟩
  have F_ausE : FnOk l.prog w K mg base (L2.CX l.prog w) 4 f_ausE d_ausE ["self", "name"] (spAUsersE K CF CA C_UnknownName) := ok_ausersE u_ausE N O B D_nflE D_pi
  have M_ausE : Mt l.prog w K mg base (L2.CX l.prog w) 4 CA "users_of" ["self", "name"] (spAUsersE K CF CA C_UnknownName) f_ausE d_ausE := ⟨⟨m_ausE.at_, m_ausE.fn, u_ausE.kp⟩, F_ausE, b_ausE⟩
  have D_npE : Dn l.prog w K mg base (L2.CX l.prog w) 3 "need_place" ["forest", "place"] (spNeedPlE K CF C_UnknownName) f_npE d_npE := ⟨ok_needPlE u_npE N O Z E_UnknownName, u_npE.kp, b_npE, g_npE⟩
  have F_aatE : FnOk l.prog w K mg base (L2.CX l.prog w) 4 f_aatE d_aatE ["self", "place"] (spAAtE K CF CA C_UnknownName) := ok_aatE u_aatE N B D_npE
  have M_aatE : Mt l.prog w K mg base (L2.CX l.prog w) 4 CA "at" ["self", "place"] (spAAtE K CF CA C_UnknownName) f_aatE d_aatE := ⟨⟨m_aatE.at_, m_aatE.fn, u_aatE.kp⟩, F_aatE, b_aatE⟩
  skip
  have D_nu : Dn l.prog w K mg base (L2.CX l.prog w) 3 "need_users" ["users", "most"] (spUsers K C_InvalidUsers) f_nu d_nu := ⟨ok_users u_nu N D_ii E_InvalidUsers, u_nu.kp, b_nu, g_nu⟩
  have F_em : FnOk l.prog w K mg base (L2.CX l.prog w) 4 f_em d_em ["forest", "users"] (spEmpty K CF CA C_InvalidUsers) := ok_empty u_em Z B D_nu F_ai MK_ai b_ai
  have F_feB : FnOk l.prog w K mg base CX0 1 f_feB d_feB ["self", "other"] (spEqB (RFoB CF)) := ok_feqB u_feB N O Z SF
  have M_feB : Mt l.prog w K mg base CX0 1 CF "__eq__" ["self", "other"] (spEqB (RFoB CF)) f_feB d_feB := ⟨⟨m_feB.at_, m_feB.fn, u_feB.kp⟩, F_feB, b_feB⟩
  have F_aeL : FnOk l.prog w K mg base CX0 2 f_aeL d_aeL ["self", "other"] (spEqOl (RAsL CF CA)) := ok_aeqL u_aeL N B SA (kit_list kCA.hd xA_ty) (feqL F_feB) b_feB m_feB.at_ m_feB.fn
  have M_aeL : Mt l.prog w K mg base CX0 2 CA "__eq__" ["self", "other"] (spEqOl (RAsL CF CA)) f_aeL d_aeL := ⟨⟨m_aeL.at_, m_aeL.fn, u_aeL.kp⟩, F_aeL, b_aeL⟩
  have P_ap : PrN l.prog w K mg base 1 CA "places" (spAPlaces CA) p_ap f_ap d_ap := ⟨⟨m_ap.at_, m_ap.get, m_ap.tak, ⟨_, m_ap.rec_⟩⟩, ok_aplaces u_ap N B, b_ap⟩
  have P_af : PrN l.prog w K mg base 1 CA "forest" (spAForest CA) p_af f_af d_af := ⟨⟨m_af.at_, m_af.get, m_af.tak, ⟨_, m_af.rec_⟩⟩, ok_aforest u_af B, b_af⟩
  have P_fl : Pr1 l.prog w K mg base CF "flags" (spFFlags CF) p_fl f_fl d_fl := ⟨⟨m_fl.at_, m_fl.get, m_fl.tak, ⟨_, m_fl.rec_⟩⟩, ok_fflags u_fl N O, b_fl⟩
  have D_so : Dn l.prog w K mg base CX0 3 "sizes_of" ["forest", "places"] (spSizesOf CF) f_so d_so := ⟨ok_sizesOf u_so N O P_fl D_pi, u_so.kp, b_so, g_so⟩
  have P_as : PrN l.prog w K mg base 4 CA "sizes" (spASizes CF CA) p_as f_as d_as := ⟨⟨m_as.at_, m_as.get, m_as.tak, ⟨_, m_as.rec_⟩⟩, ok_asizes u_as B D_so, b_as⟩
  skip
  skip
  skip
  skip
  have CC_ : Cl5T K mg R (fun i => ([C_InvalidUsers, C_InvalidPlace, C_UnknownUser, C_UnknownName, C_Mismatch] : List Nat).getD i 0) := ⟨rt.g, fun i hi => match i, hi with
    | 0, _ => PySem.W.mg_of X G e_InvalidUsers.nsn
    | 1, _ => PySem.W.mg_of X G e_InvalidPlace.nsn
    | 2, _ => PySem.W.mg_of X G e_UnknownUser.nsn
    | 3, _ => PySem.W.mg_of X G e_UnknownName.nsn
    | 4, _ => PySem.W.mg_of X G e_Mismatch.nsn, fun i hi => xs_ i (by omega), fun i j hi hj => kits i j (by omega) hj, fun i hi => kit_bt (at_ i (by omega)), fun i hi => by rw [(at_ i (by omega)).exm rt0.at_ rfl, has_root], fun i f hi hf => match i, hi with
    | 0, _ => by cases hf
    | 1, _ => by cases hf; exact e_InvalidPlace.no
    | 2, _ => by cases hf; exact e_UnknownUser.no
    | 3, _ => by cases hf; exact e_UnknownName.no⟩
  have WP : L4P l.prog w K mg base CF CA C_UnknownName C_UnknownUser (.type "type") (fun i => ([f_udW, f_nmW, f_phA, f_aflE, f_ahas, f_ausE, f_aatE] : List Nat).getD i 0) (fun i => ([d_udW, d_nmW, d_phA, d_aflE, d_ahas, d_ausE, d_aatE] : List FuncData).getD i d_udW) := { B := B, ud := D_udW, nw := D_nmW, ph := D_phA, fl := M_aflE, flk := kwM1 u_aflE (fun _ _ _ _ _ _ _ _ => rfl), ha := M_ahas, hak := kwM24 u_ahas (fun _ _ _ _ _ _ _ _ _ => rfl), us := M_ausE, usk := kwM1 u_ausE (fun _ _ _ _ _ _ _ _ => rfl), at_ := M_aatE, atk := kwM1 u_aatE (fun _ _ _ _ _ _ _ _ => rfl) }
  have G_aq : ∀ d c, FnG l.prog w K mg base CX0 7 f_aqR d_aqR ["_law_sample", "_law_above", "_law_spots_here", "_law_who", "_law_word"] (spAsk T CF CA d c) := fun d c => ok_ask u_aqR N WP GE CC_ rfl rfl (TBs (c_aqR, t_aqR) (by simp)) m_aqR un_aqR
  have WX : L4X l.prog w K mg base CF CA C_UnknownName C_UnknownUser (.type "type") (fun i => ([f_udW, f_nmW, f_mv, f_ap, f_aeL] : List Nat).getD i 0) (fun i => ([p_ap] : List Nat).getD i 0) (fun i => ([d_udW, d_nmW, d_mv, d_ap, d_aeL] : List FuncData).getD i d_udW) := { B := B, SA := SA, kt := kit_tup xA_mt, ud := D_udW, nw := D_nmW, mvm := ⟨m_mv.at_, m_mv.fn, u_mv.kp⟩, mvR := ok_movedR u_mv N O B D_npE D_nusE F_ai MK_ai b_ai, mvK := ok_movedK u_mv N O B D_npE D_nusE F_ai MK_ai b_ai, pP := P_ap, eq := F_aeL, eqa := m_aeL.at_, eqf := m_aeL.fn, eqb := b_aeL }
  have G_mv : ∀ d c, FnG l.prog w K mg base CX0 7 f_mvR d_mvR ["_law_sample", "_law_above", "_law_spots_here", "_law_who", "_law_word", "_law_more"] (spMvR T CF CA d c) := fun d c => ok_mvR u_mvR N WX GE CC_ rfl rfl (TBs (c_mvR, t_mvR) (by simp)) m_mvR un_mvR
  have WF : L4F l.prog w K mg base CF CA C_InvalidUsers (.type "type") (fun i => ([f_dpA, f_em, f_ap] : List Nat).getD i 0) (fun i => ([p_ap, p_em] : List Nat).getD i 0) (fun i => ([d_dpA, d_em, d_ap] : List FuncData).getD i d_dpA) := { B := B, dp := D_dpA, em := F_em, emm := m_em.sm, emp := u_em.kp, emk := kw2 u_em (fun _ _ _ _ _ _ _ _ => rfl), pP := P_ap }
  have G_er : FnG l.prog w K mg base CX0 7 f_erR d_erR ["_law_draw", "_law_grove", "_law_many"] (spEmpR T CF) := ok_empR u_erR N WF GE CC_ rfl (TBs (c_erR, t_erR) (by simp)) m_erR un_erR
  have WR : ∀ d c, L4R l.prog w K mg base T CF CA C_UnknownName C_UnknownUser d c (.type "type") (.type "type") (fun i => ([f_dtA, f_dpA, f_doA, f_cdE, f_opA, f_fi, f_ai, f_ap, f_af, f_at, f_as, f_feB, f_aeL, f_ausE, f_aatE, f_aqR, f_mvR] : List Nat).getD i 0) (fun i => ([p_ap, p_af, p_at, p_as] : List Nat).getD i 0) (fun i => ([d_dtA, d_dpA, d_doA, d_cdE, d_opA, d_fi, d_ai, d_ap, d_af, d_at, d_as, d_feB, d_aeL, d_ausE, d_aatE, d_aqR, d_mvR] : List FuncData).getD i d_dtA) := fun d c => { Z := Z, B := B, dt := D_dtA, dp := D_dpA, od := D_doA, cd := D_cdE, op := D_opA, fi := F_fi, fim := MK_fi, fib := b_fi, ai := F_ai, aim := MK_ai, aib := b_ai, pP := P_ap, pF := P_af, pT := P_at, pS := P_as, feq := feqL F_feB, feqa := m_feB.at_, feqf := m_feB.fn, feqb := b_feB, eq := F_aeL, eqa := m_aeL.at_, eqf := m_aeL.fn, eqb := b_aeL, us := M_ausE, at_ := M_aatE, ak := G_aq d c, akm := g_aqR, akk := u_aqR.fun.kp, akb := b_aqR, mv := G_mv d c, mvm := g_mvR, mvk := u_mvR.fun.kp, mvb := b_mvR }
  have G_md : FnG l.prog w K mg base CX0 8 f_mdR d_mdR ["_law_draw", "_law_told_here", "_law_grove", "_law_above", "_law_item", "_law_at"] (spMadeX T CF CA) := fnG_ex fun d c => ok_made u_mdR N (WR d c)
  have W : W04 l.prog w K mg base CF CA C_InvalidUsers C_InvalidPlace (.type "type") (.type "type") T (fun i => ([f_bgA, f_dtA, f_dpA, f_paA, f_fi, f_szA, f_spA, f_duW, f_ai, f_mdR, f_erR] : List Nat).getD i 0) (fun i => ([d_bgA, d_dtA, d_dpA, d_paA, d_fi, d_szA, d_spA, d_duW, d_ai, d_mdR, d_erR] : List FuncData).getD i d_bgA) := { Z := Z, B := B, bg := D_bgA, dt := D_dtA, dp := D_dpA, pa := D_paA, fi := F_fi, fim := MK_fi, fib := b_fi, sz := D_szA, so := D_spA, du := D_duW, ai := ok_ainitE u_ai N O Z B E_InvalidUsers E_InvalidPlace, aim := MK_ai, aik := kwM24 u_ai (fun _ _ _ _ _ _ _ _ _ => rfl), md := G_md, mdm := g_mdR, mdk := u_mdR.kp, mdb := b_mdR, er := G_er, erm := g_erR, erk := u_erR.fun.kp, erb := b_erR }
  exact ok_law04 u_law N W GE CC_ rfl rfl (TBs (c_law, t_law) (by simp)) m_law un_law
end
theorem walk {l : PySem.W.OpenLaw} {q : Program} {loose : List Str} {XP : (Str → Option Value) → Heap → Prop} {YP : World → Heap → Prop} {d : DefRec} {K : Params → PySem.W.Frag} (hn : l.most = some 63) (hdf : d.params.defaults = [])
    (hY : ∀ (w : World) (h : Heap), YP w h → (K w.params).In h)
    (F : ∀ (w : World) (mg : Str → Option Value) (fa : Addr) (h : Heap), (K w.params).In h → h.Ns mainGlobals mg → mg d.name = some (.ref fa) → TabsOf q (K w.params) h → XP mg h → LawTG l w (K w.params) 10 63 "_law_script" mg fa h) :
    PySem.W.WalkO q loose XP YP l.row.toRowW d [] (fun f vs => PySem.call f vs) :=
  walk_tabG (n := 63) (k := 10) (x := "_law_script") hn (by decide) hdf ⟨rfl, by decide, by decide⟩ hY F
end FT


open PySem PySem.W PyProof.Rows
namespace FT
abbrev R4 : PySem.W.OpenRow := PySem.W.OpenLaw.row PySem.Challenge.rw_flagtrees_k04_assignments
def lo4_0 : List PySem.Str := [("_wall" : PySem.Str), ("__name__" : PySem.Str), ("RolloutError" : PySem.Str), ("InvalidForest" : PySem.Str), ("UnknownName" : PySem.Str), ("InvalidUsers" : PySem.Str), ("InvalidPlace" : PySem.Str), ("UnknownUser" : PySem.Str), ("Mismatch" : PySem.Str), ("LONGEST" : PySem.Str), ("LETTERS" : PySem.Str), ("is_name" : PySem.Str), ("is_ancestor" : PySem.Str), ("need_parents" : PySem.Str), ("Forest" : PySem.Str), ("path_in" : PySem.Str), ("need_place" : PySem.Str), ("need_flag" : PySem.Str), ("is_integer" : PySem.Str), ("need_users" : PySem.Str), ("sizes_of" : PySem.Str), ("Assignment" : PySem.Str), ("need_user" : PySem.Str), ("_law_begin" : PySem.Str), ("_law_take" : PySem.Str), ("_law_pick" : PySem.Str), ("_law_order" : PySem.Str), ("_law_names" : PySem.Str), ("_law_parents" : PySem.Str), ("_law_path" : PySem.Str)]
def lo4_1 : List PySem.Str := [("_law_sizes" : PySem.Str), ("_law_residents" : PySem.Str), ("_law_spots" : PySem.Str), ("_law_counted" : PySem.Str), ("_law_every" : PySem.Str), ("_law_told" : PySem.Str), ("_law_due" : PySem.Str), ("_law_user_due" : PySem.Str), ("_law_name_due" : PySem.Str), ("_law_asked_right" : PySem.Str), ("_law_moved_right" : PySem.Str), ("_law_other_parents" : PySem.Str), ("_law_made_right" : PySem.Str), ("_law_empty_right" : PySem.Str)]
def lo4 : List PySem.Str := lo4_0 ++ lo4_1
abbrev qv4 : Program := PySem.W.view R4.prog [34, 43, 44, 47, 48]
def lv4 : List (PySem.Str × PySem.W.WData) := []
end FT
local macro_rules
  | `(tactic| o_head ($f:ident $k:term $a:term $e:term $t:term)) => do
    let hw := Lean.mkIdent `hw
    let hc := Lean.mkIdent `hc
    `(tactic| refine FT.head_km (r := FT.R4) (q := FT.qv4) (K := $k) (as := $a) (ts := $t) (pe := $e) (M := 16000) (loose := FT.lo4) (lv := FT.lv4) (kwd := []) (by kernel_rfl) (fun s => by kernel_rfl) (fun w os => by kernel_rfl) (by rfl) (by rfl) (by rfl) (by rfl) (by first | assumption | decide +kernel) (by decide +kernel) ⟨rfl, rfl, rfl, rfl, rfl, by decide +kernel⟩ ?$hw ?$hc)
set_option maxRecDepth 100000 in
set_option maxHeartbeats 0 in
theorem PySem.Challenge.cw_flagtrees_k04_assignments_holds : PySem.Challenge.rw_flagtrees_k04_assignments.Holds := by
  w_on; o_law; k_head; (case hw => w_witness2)
  k_fill
  refine FT.walk (l := PySem.Challenge.rw_flagtrees_k04_assignments) rfl rfl (fun w h Y => PySem.W.km_in_of Y) ?F
  case F =>
    intro w mg fa h KX G hm TO XX
    have hmg : mg "law" = some (.ref fa) := hm
    clear hm
    refine' FT.all_mk KX G hmg TO ?kCF ?noCF_above ?kCA ?noCA_own_forest ?noCA_own_places ?xA_mt ?xA_ty ?root ?cL ?cT ?n_bgA ?u_bgA ?n_dtA ?u_dtA ?n_dpA ?u_dpA ?n_doA ?u_doA ?n_nmA ?u_nmA ?n_paA ?u_paA ?n_isn ?u_isn ?n_isa ?u_isa ?n_nd ?u_nd ?n_phA ?u_phA ?n_szA ?u_szA ?t1_szA ?t2_szA ?t3_szA ?n_lrA ?u_lrA ?n_spA ?u_spA ?n_duW ?u_duW ?n_udW ?u_udW ?n_nmW ?u_nmW ?n_cdE ?u_cdE ?n_opA ?u_opA ?n_tl ?u_tl ?n_ii ?u_ii ?n_nusE ?u_nusE ?n_pi ?u_pi ?n_nflE ?u_nflE ?n_npE ?u_npE ?n_nu ?u_nu ?n_so ?u_so ?n_aqR ?u_aqR ?t1_aqR ?t2_aqR ?t3_aqR ?n_mvR ?u_mvR ?t1_mvR ?t2_mvR ?t3_mvR ?n_mdR ?u_mdR ?n_erR ?u_erR ?t1_erR ?t2_erR ?t3_erR ?n_law ?u_law ?t1_law ?t2_law ?t3_law ?ne_szA_aqR ?ne_szA_mvR ?ne_szA_erR ?ne_szA_law ?ne_aqR_mvR ?ne_aqR_erR ?ne_aqR_law ?ne_mvR_erR ?ne_mvR_law ?ne_erR_law ?m_fi ?m_ai ?m_aflE ?m_ahas ?m_ausE ?m_aatE ?m_mv ?m_feB ?m_aeL ?m_at ?m_ap ?m_af ?m_fl ?m_as ?m_em ?eF_CF ?eF_CA ?u_fi ?u_ai ?u_aflE ?u_ahas ?u_ausE ?u_aatE ?u_mv ?u_feB ?u_aeL ?u_at ?u_ap ?u_af ?u_fl ?u_as ?u_em ?rt0 ?e_InvalidUsers ?i_InvalidUsers ?e_InvalidPlace ?i_InvalidPlace ?e_UnknownUser ?i_UnknownUser ?e_UnknownName ?i_UnknownName ?e_Mismatch ?i_Mismatch ?apart ?dist ?z_abs ?z_len ?z_rng ?z_enu ?z_zip ?z_isi ?z_all ?z_srt ?z_lst ?z_dct ?z_str ?z_int ?z_tup ?z_sum ?z_min ?z_max ?z_rep ?z_bool ?z_any ?z_vE
    (case kCF => (refine' ⟨?nsn, ?rd, ?ga, ?most, ?pg, ?hd, ?po, ?sa, ?mks, ?kp, ?ha, ?hn, ?ht, ?hm⟩; (case nsn => k_is); (case rd => k_is); (case ga => k_is); (case most => k_is); (case pg => k_is); (case hd => k_is); (case po => k_is); (case sa => k_is); (case mks => k_is); (case kp => k_is); (case ha => k_is); (case hn => k_is); (case ht => k_is); (case hm => k_is)))
    (case noCF_above => k_is)
    (case kCA => (refine' ⟨?nsn, ?rd, ?ga, ?most, ?pg, ?hd, ?po, ?sa, ?mks, ?kp, ?ha, ?hn, ?ht, ?hm⟩; (case nsn => k_is); (case rd => k_is); (case ga => k_is); (case most => k_is); (case pg => k_is); (case hd => k_is); (case po => k_is); (case sa => k_is); (case mks => k_is); (case kp => k_is); (case ha => k_is); (case hn => k_is); (case ht => k_is); (case hm => k_is)))
    (case noCA_own_forest => k_is)
    (case noCA_own_places => k_is)
    (case xA_mt => k_is)
    (case xA_ty => k_is)
    (case root => k_is)
    (case cL => k_is)
    (case cT => k_is)
    (case n_bgA => k_is)
    (case u_bgA => (refine' L2.fun_mk ?l ?c ?k; (case l => k_is); (case c => k_is); (case k => k_is)))
    (case n_dtA => k_is)
    (case u_dtA => (refine' L2.fun_mk ?l ?c ?k; (case l => k_is); (case c => k_is); (case k => k_is)))
    (case n_dpA => k_is)
    (case u_dpA => (refine' L2.fun_mk ?l ?c ?k; (case l => k_is); (case c => k_is); (case k => k_is)))
    (case n_doA => k_is)
    (case u_doA => (refine' L2.fun_mk ?l ?c ?k; (case l => k_is); (case c => k_is); (case k => k_is)))
    (case n_nmA => k_is)
    (case u_nmA => (refine' L2.fun_mk ?l ?c ?k; (case l => k_is); (case c => k_is); (case k => k_is)))
    (case n_paA => k_is)
    (case u_paA => (refine' L2.fun_mk ?l ?c ?k; (case l => k_is); (case c => k_is); (case k => k_is)))
    (case n_isn => k_is)
    (case u_isn => (refine' L2.fun_mk ?l ?c ?k; (case l => k_is); (case c => k_is); (case k => k_is)))
    (case n_isa => k_is)
    (case u_isa => (refine' L2.fun_mk ?l ?c ?k; (case l => k_is); (case c => k_is); (case k => k_is)))
    (case n_nd => k_is)
    (case u_nd => (refine' L2.fun_mk ?l ?c ?k; (case l => k_is); (case c => k_is); (case k => k_is)))
    (case n_phA => k_is)
    (case u_phA => (refine' L2.fun_mk ?l ?c ?k; (case l => k_is); (case c => k_is); (case k => k_is)))
    (case n_szA => k_is)
    (case u_szA => (refine' L2.funC_mk ?l ?e ?k; (case l => k_is); (case e => k_is); (case k => k_is)))
    (case t1_szA => rfl)
    (case t2_szA => rfl)
    (case t3_szA => rfl)
    (case n_lrA => k_is)
    (case u_lrA => (refine' L2.fun_mk ?l ?c ?k; (case l => k_is); (case c => k_is); (case k => k_is)))
    (case n_spA => k_is)
    (case u_spA => (refine' L2.fun_mk ?l ?c ?k; (case l => k_is); (case c => k_is); (case k => k_is)))
    (case n_duW => k_is)
    (case u_duW => (refine' L2.fun_mk ?l ?c ?k; (case l => k_is); (case c => k_is); (case k => k_is)))
    (case n_udW => k_is)
    (case u_udW => (refine' L2.fun_mk ?l ?c ?k; (case l => k_is); (case c => k_is); (case k => k_is)))
    (case n_nmW => k_is)
    (case u_nmW => (refine' L2.fun_mk ?l ?c ?k; (case l => k_is); (case c => k_is); (case k => k_is)))
    (case n_cdE => k_is)
    (case u_cdE => (refine' L2.fun_mk ?l ?c ?k; (case l => k_is); (case c => k_is); (case k => k_is)))
    (case n_opA => k_is)
    (case u_opA => (refine' L2.fun_mk ?l ?c ?k; (case l => k_is); (case c => k_is); (case k => k_is)))
    (case n_tl => k_is)
    (case u_tl => (refine' L2.fun_mk ?l ?c ?k; (case l => k_is); (case c => k_is); (case k => k_is)))
    (case n_ii => k_is)
    (case u_ii => (refine' L2.fun_mk ?l ?c ?k; (case l => k_is); (case c => k_is); (case k => k_is)))
    (case n_nusE => k_is)
    (case u_nusE => (refine' L2.fun_mk ?l ?c ?k; (case l => k_is); (case c => k_is); (case k => k_is)))
    (case n_pi => k_is)
    (case u_pi => (refine' L2.fun_mk ?l ?c ?k; (case l => k_is); (case c => k_is); (case k => k_is)))
    (case n_nflE => k_is)
    (case u_nflE => (refine' L2.fun_mk ?l ?c ?k; (case l => k_is); (case c => k_is); (case k => k_is)))
    (case n_npE => k_is)
    (case u_npE => (refine' L2.fun_mk ?l ?c ?k; (case l => k_is); (case c => k_is); (case k => k_is)))
    (case n_nu => k_is)
    (case u_nu => (refine' L2.fun_mk ?l ?c ?k; (case l => k_is); (case c => k_is); (case k => k_is)))
    (case n_so => k_is)
    (case u_so => (refine' L2.fun_mk ?l ?c ?k; (case l => k_is); (case c => k_is); (case k => k_is)))
    (case n_aqR => k_is)
    (case u_aqR => (refine' L2.funC_mk ?l ?e ?k; (case l => k_is); (case e => k_is); (case k => k_is)))
    (case t1_aqR => rfl)
    (case t2_aqR => rfl)
    (case t3_aqR => rfl)
    (case n_mvR => k_is)
    (case u_mvR => (refine' L2.funC_mk ?l ?e ?k; (case l => k_is); (case e => k_is); (case k => k_is)))
    (case t1_mvR => rfl)
    (case t2_mvR => rfl)
    (case t3_mvR => rfl)
    (case n_mdR => k_is)
    (case u_mdR => (refine' L2.fun_mk ?l ?c ?k; (case l => k_is); (case c => k_is); (case k => k_is)))
    (case n_erR => k_is)
    (case u_erR => (refine' L2.funC_mk ?l ?e ?k; (case l => k_is); (case e => k_is); (case k => k_is)))
    (case t1_erR => rfl)
    (case t2_erR => rfl)
    (case t3_erR => rfl)
    (case n_law => k_is)
    (case u_law => (refine' L2.funC_mk ?l ?e ?k; (case l => k_is); (case e => k_is); (case k => k_is)))
    (case t1_law => rfl)
    (case t2_law => rfl)
    (case t3_law => rfl)
    (case ne_szA_aqR => decide)
    (case ne_szA_mvR => decide)
    (case ne_szA_erR => decide)
    (case ne_szA_law => decide)
    (case ne_aqR_mvR => decide)
    (case ne_aqR_erR => decide)
    (case ne_aqR_law => decide)
    (case ne_mvR_erR => decide)
    (case ne_mvR_law => decide)
    (case ne_erR_law => decide)
    (case m_fi => (refine' ⟨?at_, ?fn⟩; (case at_ => k_is); (case fn => k_is)))
    (case m_ai => (refine' ⟨?at_, ?fn⟩; (case at_ => k_is); (case fn => k_is)))
    (case m_aflE => (refine' ⟨?at_, ?fn⟩; (case at_ => k_is); (case fn => k_is)))
    (case m_ahas => (refine' ⟨?at_, ?fn⟩; (case at_ => k_is); (case fn => k_is)))
    (case m_ausE => (refine' ⟨?at_, ?fn⟩; (case at_ => k_is); (case fn => k_is)))
    (case m_aatE => (refine' ⟨?at_, ?fn⟩; (case at_ => k_is); (case fn => k_is)))
    (case m_mv => (refine' ⟨?at_, ?fn⟩; (case at_ => k_is); (case fn => k_is)))
    (case m_feB => (refine' ⟨?at_, ?fn⟩; (case at_ => k_is); (case fn => k_is)))
    (case m_aeL => (refine' ⟨?at_, ?fn⟩; (case at_ => k_is); (case fn => k_is)))
    (case m_at => (refine' ⟨?at_, ?get, ?tak, ?rec_⟩; (case at_ => k_is); (case get => k_is); (case tak => k_is); (case rec_ => k_is)))
    (case m_ap => (refine' ⟨?at_, ?get, ?tak, ?rec_⟩; (case at_ => k_is); (case get => k_is); (case tak => k_is); (case rec_ => k_is)))
    (case m_af => (refine' ⟨?at_, ?get, ?tak, ?rec_⟩; (case at_ => k_is); (case get => k_is); (case tak => k_is); (case rec_ => k_is)))
    (case m_fl => (refine' ⟨?at_, ?get, ?tak, ?rec_⟩; (case at_ => k_is); (case get => k_is); (case tak => k_is); (case rec_ => k_is)))
    (case m_as => (refine' ⟨?at_, ?get, ?tak, ?rec_⟩; (case at_ => k_is); (case get => k_is); (case tak => k_is); (case rec_ => k_is)))
    (case m_em => (refine' ⟨?at_, ?rec_⟩; (case at_ => k_is); (case rec_ => k_is)))
    (case eF_CF => exact ⟨⟨_, _, _, _, _, _, _, _, _, _, _, _, _, _, _, rfl, _, _, _, _, _, rfl, rfl, rfl, rfl⟩, ⟨_, rfl, rfl⟩⟩)
    (case eF_CA => exact ⟨⟨_, _, _, _, _, _, _, _, _, _, _, _, _, _, _, rfl, _, _, _, _, _, rfl, rfl, rfl, rfl⟩, ⟨_, rfl, rfl⟩⟩)
    (case u_fi => (refine' L2.fun_mk ?l ?c ?k; (case l => k_is); (case c => k_is); (case k => k_is)))
    (case u_ai => (refine' L2.fun_mk ?l ?c ?k; (case l => k_is); (case c => k_is); (case k => k_is)))
    (case u_aflE => (refine' L2.fun_mk ?l ?c ?k; (case l => k_is); (case c => k_is); (case k => k_is)))
    (case u_ahas => (refine' L2.fun_mk ?l ?c ?k; (case l => k_is); (case c => k_is); (case k => k_is)))
    (case u_ausE => (refine' L2.fun_mk ?l ?c ?k; (case l => k_is); (case c => k_is); (case k => k_is)))
    (case u_aatE => (refine' L2.fun_mk ?l ?c ?k; (case l => k_is); (case c => k_is); (case k => k_is)))
    (case u_mv => (refine' L2.fun_mk ?l ?c ?k; (case l => k_is); (case c => k_is); (case k => k_is)))
    (case u_feB => (refine' L2.fun_mk ?l ?c ?k; (case l => k_is); (case c => k_is); (case k => k_is)))
    (case u_aeL => (refine' L2.fun_mk ?l ?c ?k; (case l => k_is); (case c => k_is); (case k => k_is)))
    (case u_at => (refine' L2.fun_mk ?l ?c ?k; (case l => k_is); (case c => k_is); (case k => k_is)))
    (case u_ap => (refine' L2.fun_mk ?l ?c ?k; (case l => k_is); (case c => k_is); (case k => k_is)))
    (case u_af => (refine' L2.fun_mk ?l ?c ?k; (case l => k_is); (case c => k_is); (case k => k_is)))
    (case u_fl => (refine' L2.fun_mk ?l ?c ?k; (case l => k_is); (case c => k_is); (case k => k_is)))
    (case u_as => (refine' L2.fun_mk ?l ?c ?k; (case l => k_is); (case c => k_is); (case k => k_is)))
    (case u_em => (refine' L2.fun_mk ?l ?c ?k; (case l => k_is); (case c => k_is); (case k => k_is)))
    (case rt0 => (refine' ⟨?nsn, ?at_, ?rd, ?ga, ?ini, ?hn, ?ht⟩; (case nsn => k_is); (case at_ => (refine' ⟨_, _, _, _, _, _, _, _, _, _, _, _, _, _, ?xl⟩; (case xl => rfl))); (case rd => k_is); (case ga => k_is); (case ini => k_is); (case hn => k_is); (case ht => k_is)))
    (case e_InvalidUsers => (refine' ⟨?nsn, ?at_, ?sa, ?ga, ?gg, ?ha, ?kC, ?no, ?ini, ?ity⟩; (case nsn => k_is); (case at_ => (refine' ⟨_, _, _, _, _, _, _, _, _, _, _, _, _, _, ?xl⟩; (case xl => rfl))); (case sa => k_is); (case ga => k_is); (case gg => k_is); (case ha => k_is); (case kC => k_is); (case no => k_is); (case ini => k_is); (case ity => k_is)))
    (case i_InvalidUsers => (refine' L2.fun_mk ?l ?c ?k; (case l => k_is); (case c => k_is); (case k => k_is)))
    (case e_InvalidPlace => (refine' ⟨?nsn, ?at_, ?sa, ?ga, ?gg, ?ha, ?kC, ?no, ?ini, ?ity⟩; (case nsn => k_is); (case at_ => (refine' ⟨_, _, _, _, _, _, _, _, _, _, _, _, _, _, ?xl⟩; (case xl => rfl))); (case sa => k_is); (case ga => k_is); (case gg => k_is); (case ha => k_is); (case kC => k_is); (case no => k_is); (case ini => k_is); (case ity => k_is)))
    (case i_InvalidPlace => (refine' L2.fun_mk ?l ?c ?k; (case l => k_is); (case c => k_is); (case k => k_is)))
    (case e_UnknownUser => (refine' ⟨?nsn, ?at_, ?sa, ?ga, ?gg, ?ha, ?kC, ?no, ?ini, ?ity⟩; (case nsn => k_is); (case at_ => (refine' ⟨_, _, _, _, _, _, _, _, _, _, _, _, _, _, ?xl⟩; (case xl => rfl))); (case sa => k_is); (case ga => k_is); (case gg => k_is); (case ha => k_is); (case kC => k_is); (case no => k_is); (case ini => k_is); (case ity => k_is)))
    (case i_UnknownUser => (refine' L2.fun_mk ?l ?c ?k; (case l => k_is); (case c => k_is); (case k => k_is)))
    (case e_UnknownName => (refine' ⟨?nsn, ?at_, ?sa, ?ga, ?gg, ?ha, ?kC, ?no, ?ini, ?ity⟩; (case nsn => k_is); (case at_ => (refine' ⟨_, _, _, _, _, _, _, _, _, _, _, _, _, _, ?xl⟩; (case xl => rfl))); (case sa => k_is); (case ga => k_is); (case gg => k_is); (case ha => k_is); (case kC => k_is); (case no => k_is); (case ini => k_is); (case ity => k_is)))
    (case i_UnknownName => (refine' L2.fun_mk ?l ?c ?k; (case l => k_is); (case c => k_is); (case k => k_is)))
    (case e_Mismatch => (refine' ⟨?nsn, ?at_, ?sa, ?ga, ?gg, ?ha, ?kC, ?no, ?ini, ?ity⟩; (case nsn => k_is); (case at_ => (refine' ⟨_, _, _, _, _, _, _, _, _, _, _, _, _, _, ?xl⟩; (case xl => rfl))); (case sa => k_is); (case ga => k_is); (case gg => k_is); (case ha => k_is); (case kC => k_is); (case no => k_is); (case ini => k_is); (case ity => k_is)))
    (case i_Mismatch => (refine' L2.fun_mk ?l ?c ?k; (case l => k_is); (case c => k_is); (case k => k_is)))
    (case apart => decide +kernel)
    (case dist => decide +kernel)
    (case z_abs => k_is)
    (case z_len => k_is)
    (case z_rng => k_is)
    (case z_enu => k_is)
    (case z_zip => k_is)
    (case z_isi => k_is)
    (case z_all => k_is)
    (case z_srt => k_is)
    (case z_lst => k_is)
    (case z_dct => k_is)
    (case z_str => k_is)
    (case z_int => k_is)
    (case z_tup => k_is)
    (case z_sum => k_is)
    (case z_min => k_is)
    (case z_max => k_is)
    (case z_rep => k_is)
    (case z_bool => k_is)
    (case z_any => k_is)
    (case z_vE => k_is)
