import PyProof.Rows.All
import Wide.All
import OpenK.AllK
import Wide.FinOn
import KE.KStateDown
import KE.OsRunLaw
import HandS.Head0
import HandS.Head1
import HandS.Head2
import KE.KNestM
import PyProof.EqAt
import PyProof.EqKinds
import PyProof.TupleCall
import KE.KFromBytes
import KE.KExcIs
import HandS.ForMost
import HandS.Exc
import HandS.TryOnly
import HandS.ExcInit
import HandS.ExcIs
import HandS.ExcField
import HandS.IsInst
import HandS.ClsMeth
import HandS.Defaults
import HandS.Lambda
import HandS.EndBits
import KE.KNest
import KE.KSuper
import HandS.DictComp
import HandS.List
import HandS.OwnEq
import HandS.DeepEq
import PyProof.InstNe
import HandS.More
import HandS.SortKw
import HandS.Nested
import PyProof.Rows.StrRules
import PyProof.Rows.SortKeyStr
import KE.KUnpackStar
import HandS.Flow
import HandS.Walk
import HandS.Wide
import HandS.Text
import HandS.Style
import HandS.Property
import HandS.WordsDict
import HandS.ListItems
import HandS.Finally
import HandS.WordsExc
import HandS.Conv
import HandS.TupAny
import PyProof.NeData
import HandS.ExcOwn
import HandS.MakeKwOnly
import KE.RegKIsAll
import Wide.Loose
import PySem.Challenge.RW_flagtrees_k29_pins
set_option Elab.async false
set_option linter.all false
set_option maxRecDepth 100000
set_option maxHeartbeats 8000000

/-! the head by one kernel run over the heap as a tree, with the frame of objects that the walk reads -/
namespace FT
open PySem PySem.W PySem.Calls PyProof.Rows HandSHeadRun
noncomputable def RunK (r : OpenRow) (q : Program) (K : Params → Frag) (as : List Addr) (M : Nat) (loose : List PySem.Str) (lv : List (PySem.Str × WData)) (w : World) : Prop :=
  ∀ os : OsState, (endF (stepQ (denQ tabQ) r.prog w) M r.prog w os).map (fun s => (looksF r.prog (boot_heap w.params) s.abs, seenQ q loose (importedModules r.prog.main.body) (fun s => xlAt q lv s && recOk r.toRowW.records s) s.abs, as.map (getT s))) = some (true, openGood q loose, (K w.params).map fun p => some p.2)
end FT


/-! the head by one kernel run, as HdK, for a text whose defs hold lambdas (the hook with tables) -/
namespace FT
open PySem PySem.W PySem.Calls PyProof.Rows HandSHeadRun
noncomputable def RunM (r : OpenRow) (q : Program) (K : Params → Frag) (as ts : List Addr) (M : Nat) (loose : List PySem.Str) (lv : List (PySem.Str × WData)) (w : World) : Prop :=
  ∀ os : OsState, (endF (stepQ (denQ tabQ) r.prog w) M r.prog w os).map (fun s => (looksF r.prog (boot_heap w.params) s.abs, seenQ q loose (importedModules r.prog.main.body) (fun s => xlAt q lv s && recOk r.toRowW.records s) s.abs, as.map (getT s), ts.map (getT s))) = some (true, openGood q loose, (K w.params).map (fun p => some p.2), ts.map fun _ => some (tabObj #[]))
theorem head_km {r : OpenRow} {q : Program} {K : Params → Frag} {as ts : List Addr} {pe : ∀ P, as = (K P).map (·.1)} {M : Nat} {loose : List PySem.Str} {lv : List (PySem.Str × WData)} {d : DefRec} {kwd : List (PySem.Str × PySem.Expr)}
    (e : opening r.prog = plainProg r.prog.main.scope.names) (f : ∀ s, fenceModules? r.prog s = some s) (run : ∀ w, RunM r q K as ts M loose lv w)
    (hdef : defOf q r.name = some (d, kwd)) (hp : r.prog.theDef r.name = some (d.params, d.body, d.scope)) (hk : kwWritten? d.params.kwonlyargs d.params.kw_defaults = some kwd)
    (hwr : (!r.writes || r.records.isEmpty) = true) (k1 : r.wellSaid = true) (ok : (chainsOk q && opensWell r.prog && (frees r.toRowW && r.within.isEmpty)) = true) (hb : r.prog.bare) (hw : r.toRowW.promised)
    (call : WalkO q loose (XL q lv) (kmHook K as pe ts).says r.toRowW d kwd fun f vs => PySem.call f vs) : r.Holds := by
  have ob : (fun s : SharedT => (as.map (getT s), ts.map (getT s))) = fun s => (kmHook K as pe ts).obs s.abs := funext fun s => Prod.ext (List.map_congr_left fun a _ => getT_eq s a) (List.map_congr_left fun a _ => getT_eq s a)
  have left : LeftO r.prog q loose (fun s => xlAt q lv s && recOk r.toRowW.records s) (kmHook K as pe ts).obs (kmHook K as pe ts).val (M + 600) true :=
    left_one (M := M) e (Nat.ble_eq_true_of_le (by omega)) f (Nat.ble_eq_true_of_le (by omega)) fun w os => by
      have z := run w os
      rw [show (fun s : SharedT => (looksF r.prog (boot_heap w.params) s.abs, seenQ q loose (importedModules r.prog.main.body) (fun s => xlAt q lv s && recOk r.toRowW.records s) s.abs, as.map (getT s), ts.map (getT s))) = fun s : SharedT => (looksF r.prog (boot_heap w.params) s.abs, seenQ q loose (importedModules r.prog.main.body) (fun s => xlAt q lv s && recOk r.toRowW.records s) s.abs, (kmHook K as pe ts).obs s.abs) from funext fun s => congrArg (fun t => (looksF r.prog (boot_heap w.params) s.abs, seenQ q loose (importedModules r.prog.main.body) (fun s => xlAt q lv s && recOk r.toRowW.records s) s.abs, t)) (congrFun ob s)] at z
      simp only [endQ_eq, seenQ_eq]
      exact z
  exact holds_open (r := r) (q := q) (loose := loose) (XP := XL q lv) (YP := (kmHook K as pe ts).says) (d := d) (kwd := kwd) left (kmHook K as pe ts).of (kmHook K as pe ts).keeps (fun s z => xl_of s (Bool.and_eq_true_iff.mp z).1) XL.keeps hdef hp hk (fun s z => recFacts_of (Bool.and_eq_true_iff.mp z).2) hwr k1 ok hb hw call
end FT


/-! Own: an exception class over ValueError called with one keyword, `C(name=value)`. The library's lemmas (HandSPX.call_own) say it for calls without keywords; these say it for one keyword. -/
namespace FX
open PySem PySem.W PySem.Calls PyProof.Rows PySem.HandSPX
section
variable {Mo : Model} {Ar : Around} {Er : Value → Shared → Prop} {he : Heap} {ge : Array GenState} {dr : Drawn} {tk : Nat} {os : OsState}
variable {nm qn : Str} {C N : Addr} {bs bm bmB : List Value} {hdct : Bool} {sn : List Str} {sub : List Value} {ab : Bool} {col : Option Bool} {dd : Option Addr} {k0 k1 k2 k3 k5 : Option Value} {B idN idI : String}
variable {kn : Str} {kv : Value} {more : List Value}
/-- the class object of an exception class, short -/
abbrev XO (nm qn : Str) (C N : Addr) (bs bm : List Value) (hdct : Bool) (sn : List Str) (sub : List Value) (ab : Bool) (col : Option Bool) (dd : Option Addr) (k0 k1 k2 k3 k5 : Option Value) (idN : String) : Obj :=
  excClassObj nm qn C N bs bm hdct sn sub ab col dd k0 k1 k2 k3 k5 idN
abbrev SameTy (bm bmB : List Value) : Prop := ∀ T : String, bm.contains (.type T) = bmB.contains (.type T)
end
section
variable {pg : Program} {w : World} {Ar : Around} {Er : Value → Shared → Prop} {Rs : Result → Shared → Prop} {he : Heap} {ge : Array GenState} {dr : Drawn} {tk : Nat} {os : OsState}
variable {nm qn : Str} {C N fI : Addr} {bs bm bmB : List Value} {hdct : Bool} {sn : List Str} {sub : List Value} {ab : Bool} {col : Option Bool} {dd : Option Addr} {k0 k1 k2 k3 k5 : Option Value} {B idN idI : String}
variable {kn : Str} {kv : Value} {more : List Value}
/-- the heap with the new exception -/
abbrev withX (he : Heap) (C : Addr) (more : List Value) : Heap := (he.push (W.kdv_tup more)).push (excO C he.objs.size)
end
end FX


namespace L2
open PySem PySem.Spec PyProof.Rows
/-- what the written part says of an own exception class over ValueError -/
structure XCls (K : PySem.W.Frag) (C : Addr) : Prop where
  cls : ∃ nm q N bs bm sn sub ab col dd k0 k1 k2 k3 k5, K.lookup C = some (excClassObj nm q C N bs bm true sn sub ab col dd k0 k1 k2 k3 k5 "ValueError.__new__") ∧ PySem.HandSPX.refsVE bm = true
  sa : PySem.W.findIn K (.ref C) "__setattr__" = some (some (.builtin "object.__setattr__"))
  exC : PySem.W.subIn K (.ref C) (.type "BaseException") = some true
  tyC : PySem.W.typeIn K (.ref C) = some (.type "type")
  kC : PySem.W.keepIn K (.ref C) = true
  ga : PySem.W.findIn K (.ref C) "__getattribute__" = some (some (.builtin "BaseException.__getattribute__"))
  gg : PySem.W.findIn K (.ref C) "__getattr__" = some none
  hdC : PySem.W.hasDictIn K C = true
  ha : PySem.W.findIn K (.ref C) "__class__" = some (some (.builtin "object.__class__"))
  hn : PySem.W.specialIn K (.builtin "object.__class__") "__get__" = some (some (.builtin "getset_descriptor.__get__"))
  ht : PySem.W.takesIn K (.builtin "object.__class__") = some true
  hm : PySem.W.mroIn K C (.type "object") = some true
theorem XCls.oex {K : PySem.W.Frag} {C : Addr} (c : XCls K C) : OexC K C := ⟨c.cls, c.sa, c.exC, c.tyC, c.kC⟩
/-- an exception object at a, by class and dict, its fields not told -/
def exg (a C : Addr) (d : Option Addr) : HO := .ext fun h => ∃ vs sl, h.get? a = some ({ cls := .ref C, dict := d, data := .fields vs, slots := sl } : Obj)
theorem exg_ok {P : Program} {w : World} {H : Hp} {h : Heap} {e C : Addr} {d : Option Addr} {vs : Array Value} {sl : Array (Option Value)} (he : h.get? e = some ({ cls := .ref C, dict := d, data := .fields vs, slots := sl } : Obj)) : ObjOk P w H h e (exg e C d) :=
  ⟨⟨vs, sl, he⟩, ⟨_, he⟩, fun h1 h2 z k => by
    obtain ⟨vs, sl, q⟩ := z
    exact ⟨vs, sl, k _ q⟩⟩
def XAt (H : Hp) (a C : Addr) (d : Option Addr) : Prop := H a = some (exo a C d) ∨ H a = some (exg a C d)
theorem XAt.obj {P : Program} {w : World} {H : Hp} {h : Heap} {a C : Addr} {d : Option Addr} (x : XAt H a C d) (hok : HOk P w H h) : ∃ ox vs, h.get? a = some ox ∧ ox.cls = .ref C ∧ ox.dict = d ∧ ox.data = .fields vs := by
  rcases x with e | e
  · obtain ⟨t1, q⟩ := exo_at hok e
    exact ⟨_, _, q, rfl, rfl, rfl⟩
  · have z : ObjOk P w H h a (.ext fun h => ∃ vs sl, h.get? a = some ({ cls := .ref C, dict := d, data := .fields vs, slots := sl } : Obj)) := hok a _ e
    obtain ⟨⟨vs, sl, q⟩, _⟩ := z
    exact ⟨_, vs, q, rfl, rfl, rfl⟩
def XD (H : Hp) (dx : Addr) (fs : List (Str × V)) : Prop := H dx = some (exd dx fs) ∨ H dx = some (.xd fs)
theorem XD.at {P : Program} {w : World} {H : Hp} {h : Heap} {dx : Addr} {fs : List (Str × V)} (x : XD H dx fs) (hok : HOk P w H h) : ∃ mA, h.Ns1 dx mA ∧ ∀ f, RelO (fs.lookup f) (mA f) := by
  rcases x with e | e
  · exact exd_at hok e
  · have z : ObjOk P w H h dx (.xd fs) := hok dx _ e
    exact z
/-- an exception of the class at C stands at a; its attributes are fs -/
def XV (H : Hp) (a C : Addr) (fs : List (Str × V)) : Prop := (XAt H a C none ∧ fs = []) ∨ ∃ dx, XAt H a C (some dx) ∧ XD H dx fs
theorem XV.inst {P : Program} {w : World} {H : Hp} {h : Heap} {a C : Addr} {fs : List (Str × V)} (x : XV H a C fs) (hok : HOk P w H h) : ∃ ox od, PySem.W.InstAt h a ox C od := by
  rcases x with ⟨x, _⟩ | ⟨dx, x, y⟩
  · obtain ⟨ox, vs, e1, e2, e3, e4⟩ := x.obj hok
    exact ⟨ox, none, e1, e2, by unfold PySem.W.notCls; rw [e4] <;> rfl, by rw [e3]; trivial⟩
  · obtain ⟨ox, vs, e1, e2, e3, e4⟩ := x.obj hok
    obtain ⟨mA, hn, hr⟩ := y.at hok
    obtain ⟨od, ho, hl⟩ := lookIn_ns hn
    exact ⟨ox, some od, e1, e2, by unfold PySem.W.notCls; rw [e4] <;> rfl, by rw [e3]; exact ho⟩
theorem XV.look {P : Program} {w : World} {H : Hp} {h : Heap} {a C : Addr} {fs : List (Str × V)} {f : Str} {v : V} (x : XV H a C fs) (hok : HOk P w H h) (hl : fs.lookup f = some v) :
    ∃ ox od u, PySem.W.InstAt h a ox C (some od) ∧ PySem.W.lookIn f od = some (some u) ∧ RelV v u := by
  rcases x with ⟨_, e⟩ | ⟨dx, x, y⟩
  · rw [e] at hl
    cases hl
  · obtain ⟨ox, vs, e1, e2, e3, e4⟩ := x.obj hok
    obtain ⟨mA, hn, hr⟩ := y.at hok
    obtain ⟨od, ho, hk⟩ := lookIn_ns hn
    obtain ⟨u, hu, ru⟩ := RelO.some_of (v := v) (o := mA f) (by rw [← hl]; exact hr f)
    exact ⟨ox, od, u, ⟨e1, e2, by unfold PySem.W.notCls; rw [e4] <;> rfl, by rw [e3]; exact ho⟩, by rw [hk, hu], ru⟩

section
variable {X : Cx}
/-- isinstance(e, c), e an exception of an own class -/
def rIsX (K : PySem.W.Frag) : List V → Hp → VK → Prop := fun xs H Q => ∃ (a C : Addr) (fs : List (Str × V)) (c : V) (u : Value) (b : Bool), xs = [.ref a, c] ∧ ClsV c u ∧ XCls K C ∧ XV H a C fs ∧ PySem.W.kitOne K (.ref C) u = some b ∧ Q (.bl b) H
theorem call_isX : CallR X (.builtin "isinstance") (rIsX X.K) := by
  intro pins s σ H xs us Q I r h
  obtain ⟨a, C, fs, c, u, b, rfl, k, T, xv, e, q⟩ := h
  obtain ⟨u1, u2, rfl, r1, r2⟩ := vals2 r
  have e2 := k.eq r2
  subst e2
  obtain rfl : u1 = Value.ref a := r1
  obtain ⟨ox, od, J⟩ := xv.inst I.hok
  have hcl : (PySem.W.clsIn X.K C).isSome = true := by
    obtain ⟨cd, hc, _⟩ := PySem.W.any_some T.hdC
    rw [hc] <;> rfl
  exact PySem.W.kia_one (PySem.W.kitx_exc hcl T.ga T.gg T.exC T.ha T.hn T.ht T.hm) I.kIn J e (fun z => nomatch z) fun tk => ⟨.bl b, H, I.tok tk, rfl, q⟩
/-- e.f -/
def tXFld (K : PySem.W.Frag) (te : TE) (f : Str) : TE := fun σ H Q => te σ H fun x H1 => ∃ (a C : Addr) (fs : List (Str × V)) (v : V), x = .ref a ∧ XV H1 a C fs ∧ XCls K C ∧ PySem.W.findIn K (.ref C) f = some none ∧ fs.lookup f = some v ∧ Q v H1
theorem pe_xfld {e : Expr} {te : TE} {pos : Pos} {n : Str} (he : PE X e te) (hb : attributeBase e n X.env (eval e X.env) = eval e X.env := by rfl) : PE X (.Attribute e n pos) (tXFld X.K te n) := by
  refine ⟨fun pins s σ H Q I h => ?_⟩
  refine attr_of hb (thn (he.run pins s σ H _ I h) fun u s1 hh => ?_)
  obtain ⟨x, H1, I1, rx, a, C, fs, v, ex, xv, T, hno, hl, q⟩ := hh
  subst ex
  obtain rfl : u = Value.ref a := rx
  obtain ⟨ox, od, u, J, hk, ru⟩ := xv.look I1.hok hl
  exact HandSPX.exc_get I1.kIn J T.ga T.gg T.exC (PySem.W.findObj_own T.hdC hno rfl hk) (handed_of ru) ⟨v, H1, I1.tok _, ru, q⟩
/-- R.__init__(self, ..), R an own class whose __init__ is ValueError's -/
structure XIni (K : PySem.W.Frag) (R : Addr) : Prop where
  rd : PySem.W.readsIn K R (.type "type") = true
  ga : PySem.W.specialIn K (.ref R) "__getattribute__" = some (some (.builtin "type.__getattribute__"))
  at_ : PySem.W.findCls K (.ref R) (.type "type") "__init__" = some (.val (.builtin "ValueError.__init__"))
theorem pe_clsinit {R : Addr} {rn : Str} {e : Expr} {es : List Expr} {ta : TA} {p1 p2 pos : Pos} {pl : Sem Bool} (T0 : XIni X.K R) (hg : Gl X rn) (hm : X.mg rn = some (.ref R)) (ha : PA X (e :: es) ta)
    (hdb : (rn == ("__debug__" : Str)) = false := by decide)
    (hc : eval (.Call (.Attribute (.Name rn p1) "__init__" p2) (e :: es) [] pos) X.env = (do
      let ov ← eval (.Name rn p1) X.env
      standAt p2.atName
      let (f, first) ← holding [ov] (getMethod ov "__init__" pl)
      callWith pos f first (backTo pos (starEach (e :: es) X.env)) (backToKw pos (keywordEach [] X.env))) := by rfl)
    (he : starEach (e :: es) X.env = (false, eval e X.env) :: starEach es X.env := by rfl) (hpl : (backTo pos (starEach es X.env)).any (·.1) = false := by rfl) :
    PE X (.Call (.Attribute (.Name rn p1) "__init__" p2) (e :: es) [] pos) (tVeI X.K ta) := by
  refine ⟨fun pins s σ H Q I h => ?_⟩
  refine PySem.W.methodCall_KW (ld_glob I hg hm ?_ hdb) hc
  refine PySem.W.method_cls I.kIn T0.ga (PySem.W.cls_value I.kIn T0.rd T0.at_ rfl ?_)
  show wpAny _ _ (callWith pos (Value.builtin "ValueError.__init__") [] (backTo pos (starEach (e :: es) X.env)) []) _ _ _
  refine PyProof.Rows.callWith_method1 (thn (ha.run pos pins _ σ H _ (I.tok _) h) fun us s1 ⟨vs, H1, I1, r1, a, C, ws, ev, hl, T, ea, q⟩ => ?_) he hpl
  subst ev
  cases r1 with
  | @cons _ u0 _ ur ra rw' =>
    obtain rfl : u0 = Value.ref a := ra
    have hlen : ur.length ≤ sizeLine := by
      rw [← Paired.length rw', sizeLine_eq]
      omega
    exact oinit_ok T I1 ea hlen fun s' J => ⟨.non, H1, J, rfl, q⟩

/-! ### C(..) as a value -/
variable {CX : CXT} {C fI : Addr} {k : Nat} {fd : FuncData} {ps : List Str} {sp : Sp} {ds : List Value} {dvs : List V} {E : XK}
/-- C(e, ..) as a value; C's own __init__ keeps sp -/
def tMkX (C : Addr) (sp : Sp) (dvs : List V) (E : XK) (ta : TA) : TE := fun σ H Q => ta σ H fun vs H1 => vs.length ≤ 1000 ∧ ∀ a, H1 a = none → sp (.ref a :: (vs ++ dvs)) (upd H1 a (exo a C none)) (fun v H2 => v = .non ∧ Q (.ref a) H2) E
def tMkXK (C : Addr) (sp : Sp) (gV : List V → List V → List V) (E : XK) (te : TE) : TE := fun σ H Q => te σ H fun v H1 => ∀ a, H1 a = none → sp (gV [.ref a] [v]) (upd H1 a (exo a C none)) (fun v H2 => v = .non ∧ Q (.ref a) H2) E
variable {x : Str} {e : Expr} {es : List Expr} {ta : TA} {te : TE} {p pos kpos : Pos}
end
end L2


/-! Own: repr over the layer. repr asks what calls of repr are under way (A.guards), and the layer's contracts do not tell it: a contract FnG that tells it too, its rule for a def's body, its call, the end. -/
namespace L2
open PySem PySem.Spec PyProof.Rows
/-- no repr is under way -/
abbrev Clr (A : Around) : Prop := A.guards = some []
theorem Clr.deeper {A : Around} {env : Env} (h : Clr A) : Clr (A.deeper env) := by
  have h' : A.guards = some [] := h
  show (A.deeper env).guards = some []
  first
    | exact h'
    | (simp [Around.deeper, h', pushGuards, Code.guards, Code.isGuard])
structure FnG (P : Program) (w : World) (K : PySem.W.Frag) (mg : Str → Option Value) (base : Heap) (CX : CXT) (k : Nat) (f : Addr) (fd : FuncData) (ps : List Str) (sp : Sp) : Prop where
  len : ∀ vs H Q E, sp vs H Q E → vs.length = ps.length
  run : ∀ (A : Around) (outer : List Env) (s : Shared) (H : Hp) (args : Args) (us : List Value) (vs : List V) (Q : VK) (E : XK), Clr A → Room k A → Env0 P w K mg base A outer s H → BindsTo s fd args (ps.zip us) → Vals vs us → sp vs H Q E →
    codeAny (model P w) A (.call (.ref f) args) (CR CX outer P w H s Q E) s
theorem FnOk.g {P : Program} {w : World} {K : PySem.W.Frag} {mg : Str → Option Value} {base : Heap} {CX : CXT} {k : Nat} {f : Addr} {fd : FuncData} {ps : List Str} {sp : Sp} (F : FnOk P w K mg base CX k f fd ps sp) : FnG P w K mg base CX k f fd ps sp :=
  ⟨F.len, fun A outer s H args us vs Q E _ => F.run A outer s H args us vs Q E⟩
section
variable {P : Program} {w : World} {K : PySem.W.Frag} {mg : Str → Option Value} {base : Heap}
/-- a def by its body, where nothing is raised out of it -/
theorem Fun.okG {x qual : Str} {st : Stmt} {f : Addr} {fd : FuncData} {N ps : List Str} {k : Nat} {sp : Sp} (F : Fun K x qual st f fd) (S : FnScope N ps (defScope st)) (len : ∀ vs H Q E, sp vs H Q E → vs.length = ps.length)
    (body : ∀ (cdv : Value) (A : Around) (outer : List Env) (s : Shared) (H : Hp) (vs : List V) (Q : VK) (E : XK), Clr A → Room k (A.deeper (envOfC qual (defScope st) s.heap.objs.size f cdv)) → sp vs H Q E →
      ∃ t, PSs (cxOf CX0 P w K mg base N qual (defScope st) f cdv A outer s H E).nox (defBody st) t ∧ t { nx := fun _ H' => Q .non H', rt := Q } (start N vs) H) : FnG P w K mg base CX0 (k + 1) f fd ps sp := by
  obtain ⟨oc, od, kV, doc, pm, an, cdv, ct, osl, rfl, lk, code⟩ := F.ex
  refine ⟨len, fun A outer s H args us vs Q E clr room e0 binds rel want => ?_⟩
  have nps := len _ _ _ _ want
  have KX : K.In s.heap := e0.mod.kin.keeps fun b o e => (e0.bs b o e).1
  have lim : s.heap.NoLimit := e0.mod.nolimit.keeps fun b o e => (e0.bs b o e).1
  refine codeAny_call_function room.depth (KX _ _ lk) rfl S.co S.gen rfl (PySem.W.codeRec_of KX code) (binds _ _ _ _ (wpAny_newFunctionEnv_cells S.kind (fun y hy => ?_) fun env he s1 x => ?_))
  · obtain ⟨n, v⟩ := y
    exact (S.par n (List.of_mem_zip hy).1).elim .inl fun q => .inr ⟨q, PySem.W.cellsFrom_some _ _ _ (.inl q)⟩
  · subst he
    obtain ⟨t, term, q⟩ := body cdv A outer s H vs Q E clr (room.deeper _) want
    have I : Inv (cxOf CX0 P w K mg base N qual (defScope st) f cdv A outer s H E) [] (start N vs) H s1 := inv_start S room.hd e0 nps rel x
    refine ⟨lim.keeps x.toInCall.keep, codeAny_func (wpAny_mono (term.nox.run [] s1 (start N vs) H _ I q) (fun fl s' z => ?_) fun _ _ z => z)⟩
    match fl, z with
    | .ret u, ⟨v, _, H', J, rv, q⟩ => exact ⟨v, H', J.os, J.bare, J.base, J.hok, rv, q⟩
    | .next, ⟨_, H', J, q⟩ => exact ⟨.non, H', J.os, J.bare, J.base, J.hok, rfl, q⟩
    | .brk, ⟨_, _, _, q⟩ => exact q.elim
    | .cont, ⟨_, _, _, q⟩ => exact q.elim
end
section
variable {X : Cx} {CX : CXT} {k : Nat} {f : Addr} {fd : FuncData} {ps : List Str} {sp : Sp} {dvs : List V} {ds : List Value} {E : XK} {x : Str} {p pos : Pos} {e : Expr} {es : List Expr} {t : TA}
/-- f(e, ..), f of such a contract -/
theorem pe_callG (F : FnG X.prog X.w X.K X.mg X.base CX k f fd ps sp) (clr : Clr X.A) (hr : Room k X.A) (hg : Gl X x) (hm : X.mg x = some (.ref f)) (hk : PySem.W.keepIn X.K (.ref f) = true) (hb : Binds X.K fd ps ds) (hd : Vals dvs ds) (hx : Passes CX X E)
    (ha : PA X (e :: es) t) (dbg : (x == ("__debug__" : Str)) = false := by decide) (one : starEach (e :: es) X.env = (false, eval e X.env) :: starEach es X.env := by rfl) (plain : (backTo pos (starEach es X.env)).any (·.1) = false := by rfl) :
    PE X (.Call (.Name x p) (e :: es) [] pos) (tCall sp dvs E t) := by
  refine ⟨fun pins s σ H Q I h => wpAny_Call_Name_kw (ld_glob I hg hm ?_ dbg)⟩
  refine PySem.W.callWith_K (h₀ := X.base) I.ok.mod.kin hk (thn (ha.run pos pins s σ H _ I h) fun us s1 ⟨vs, H1, J, rel, want⟩ => ⟨J.kIn, ?_⟩) one plain
  have r2 : Vals (vs ++ dvs) (us ++ ds) := rel.append hd
  have len : (us ++ ds).length = ps.length := r2.length.symm.trans (F.len _ _ _ _ want)
  refine wpAny_call (codeAny_mono (F.run X.A X.stack s1 H1 ⟨us, []⟩ (us ++ ds) (vs ++ dvs) Q E clr hr J.env0 (hb s1 us J.kIn len) r2 want) fun r s' z => ?_)
  match r, z with
  | .error er, z => exact hx pins σ H1 s1 er s' J z
  | .ok (.ret u), z => exact J.after z
  | .ok .next, z => exact z.elim
  | .ok .brk, z => exact z.elim
  | .ok .cont, z => exact z.elim
/-! ### repr -/
/-- what is shown: data without dicts, or the empty dict -/
def Shw (K : PySem.W.Frag) (H : Hp) (x : V) (d : PyData) : Prop := (Dp K H x d ∧ d.hasDict = false) ∨ ∃ a, x = .ref a ∧ H a = some (.dK []) ∧ d = .dict []
def rRepr (K : PySem.W.Frag) : List V → Hp → VK → Prop := fun xs H Q => ∃ (x : V) (d : PyData), xs = [x] ∧ Shw K H x d ∧ d.showable = true ∧ d.depth ≤ 60 ∧ d.shown.length ≤ sizeLine ∧ Q (.str d.shown) H
theorem Shw.reads {pins : List (Addr × Obj)} {σ : St} {H : Hp} {s : Shared} {x : V} {u : Value} {d : PyData} (h : Shw X.K H x d) (I : Inv X pins σ H s) (r : RelV x u) : ∃ as, Reads s.heap u d as ∧ (d.hasDict = true → sysModules ∉ as) := by
  rcases h with ⟨h, nd⟩ | ⟨a, rfl, e, rfl⟩
  · obtain ⟨as, q⟩ := Dp.reads I d x u h r
    exact ⟨as, q, PyData.noDict_hsm nd⟩
  · obtain rfl : u = Value.ref a := r
    obtain ⟨_, ns, vs, kv, o, es, ep, h1, h2, h3, h4⟩ := (show ObjOk X.prog X.w H s.heap a (.dK []) from I.hok a _ e)
    cases kv
    have hes : es.toList = [] := by
      obtain ⟨_, h5, _⟩ := h4
      revert h5
      generalize es.toList = l
      intro h5
      cases h5
      rfl
    refine ⟨a :: [] ++ [], .dict h1 h2.1 h3 (by rw [hes]; exact .nil) (by rw [hes]; exact .nil), fun _ hm => ?_⟩
    have hm' : sysModules = a := by simpa using hm
    rw [hm'] at ns
    simp at ns
theorem call_repr (clr : Clr X.A) (hu : X.A.units + 64 < cLine) : CallR X (.builtin "repr") (rRepr X.K) := by
  intro pins s σ H xs us Q I r h
  obtain ⟨x, d, rfl, sh, ok, dep, few, q⟩ := h
  obtain ⟨u, rfl, ru⟩ := vals1 r
  obtain ⟨as, rd, sm⟩ := sh.reads I ru
  have fin : ∀ h' (t : Tok) tk, (∀ b o, s.heap.get? b = some o → h'.get? b = some o) → EP X pins σ Q (.str d.shown t) { s with heap := h', toks := tk } := fun h' t tk kp => ⟨.str d.shown, H, I.kept kp, ⟨t, rfl⟩, q⟩
  cases u with
  | ref a => exact repr_of_reads' rd ok sm clr (by omega) (fun _ _ z => z) fin few
  | none => cases rd; exact PySem.P.repr_of_none (fin _ _ _ fun _ _ z => z)
  | bool b => cases rd; exact PySem.P.repr_of_bool (fin _ _ _ fun _ _ z => z)
  | int i t => cases rd; exact PySem.P.repr_of_int (by simpa [PyData.showable] using ok) (fin _ _ _ fun _ _ z => z)
  | str y t => cases rd; exact PySem.P.repr_of_str (fin _ _ _ fun _ _ z => z) few
  | _ => cases rd
end
end L2


/-! Own: the end of a law's row from a contract FnG (the library's walk_of asks FnOk). -/
namespace L2
open PySem PySem.Spec PyProof.Rows
section
variable {P : Program} {w : World} {K : PySem.W.Frag} {mg mb : Str → Option Value} {k : Nat} {fa a : Addr} {fd : FuncData} {x : Str} {sp : Sp} {s : Shared} {vs : List Value} {ns : List Int}
/-- the abstract heap at the law's entry: the script alone, locked; or nothing, where the script is the module's own -/
abbrev Entry (K : PySem.W.Frag) (a : Addr) (H : Hp) : Prop := (∀ b, H b ≠ none → b = a) ∧ (H a ≠ none → K.lookup a = none)
end
end L2


/-! Own: defs that make lambdas (their code object known), and the end of a law's row from a contract FnG with tables of code objects. -/
namespace L2
open PySem PySem.Spec PyProof.Rows LamX
/-- as Fun, the code object's place told -/
structure FunC (K : PySem.W.Frag) (x qual : Str) (st : Stmt) (f : Addr) (fd : FuncData) (c : Addr) : Prop where
  ex : ∃ (oc : Value) (od : Option Addr) (kV doc pm : Value) (an : Option Addr) (ct : Value) (osl : Array (Option Value)),
    fd = PySem.W.fnOf x qual (defArgs st) (defBody st) (defScope st) .none kV doc pm an (.ref c) ct ∧ K.lookup f = some ⟨oc, od, .func fd, osl⟩ ∧ PySem.W.codeIn K (.ref c) qual = true
  kp : PySem.W.keepIn K (.ref f) = true
theorem FunC.fun {K : PySem.W.Frag} {x qual : Str} {st : Stmt} {f c : Addr} {fd : FuncData} (F : FunC K x qual st f fd c) : Fun K x qual st f fd :=
  let ⟨oc, od, kV, doc, pm, an, ct, osl, e1, e2, e3⟩ := F.ex
  ⟨⟨oc, od, kV, doc, pm, an, .ref c, ct, osl, e1, e2, e3⟩, F.kp⟩
theorem funC_mk {K : PySem.W.Frag} {x qual : Str} {st : Stmt} {f c : Addr} {oc : Value} {od an : Option Addr} {osl : Array (Option Value)} {kV doc pm ct : Value} (l : K.lookup f = some ⟨oc, od, .func (PySem.W.fnOf x qual (defArgs st) (defBody st) (defScope st) .none kV doc pm an (.ref c) ct), osl⟩)
    (e : PySem.W.codeIn K (.ref c) qual = true) (k : PySem.W.keepIn K (.ref f) = true) : FunC K x qual st f (PySem.W.fnOf x qual (defArgs st) (defBody st) (defScope st) .none kV doc pm an (.ref c) ct) c := ⟨⟨oc, od, kV, doc, pm, an, ct, osl, rfl, l, e⟩, k⟩
section
variable {P : Program} {w : World} {K : PySem.W.Frag} {mg : Str → Option Value} {base : Heap}
theorem FunC.ok {x qual : Str} {st : Stmt} {f c : Addr} {fd : FuncData} {N ps : List Str} {k : Nat} {sp : Sp} (F : FunC K x qual st f fd c) (S : FnScope N ps (defScope st)) (len : ∀ vs H Q E, sp vs H Q E → vs.length = ps.length)
    (body : ∀ (A : Around) (outer : List Env) (s : Shared) (H : Hp) (vs : List V) (Q : VK) (E : XK), Room k (A.deeper (envOfC qual (defScope st) s.heap.objs.size f (.ref c))) → sp vs H Q E →
      ∃ t, PSs (cxOf CX0 P w K mg base N qual (defScope st) f (.ref c) A outer s H E).nox (defBody st) t ∧ t { nx := fun _ H' => Q .non H', rt := Q } (start N vs) H) : FnOk P w K mg base CX0 (k + 1) f fd ps sp := by
  obtain ⟨oc, od, kV, doc, pm, an, ct, osl, rfl, lk, code⟩ := F.ex
  refine fn_of lk code S len fun A outer s H vs Q E room want => ?_
  obtain ⟨t, h, q⟩ := body A outer s H vs Q E room want
  exact ⟨t, h.nox, q⟩
theorem FunC.okG {x qual : Str} {st : Stmt} {f c : Addr} {fd : FuncData} {N ps : List Str} {k : Nat} {sp : Sp} (F : FunC K x qual st f fd c) (S : FnScope N ps (defScope st)) (len : ∀ vs H Q E, sp vs H Q E → vs.length = ps.length)
    (body : ∀ (A : Around) (outer : List Env) (s : Shared) (H : Hp) (vs : List V) (Q : VK) (E : XK), Clr A → Room k (A.deeper (envOfC qual (defScope st) s.heap.objs.size f (.ref c))) → sp vs H Q E →
      ∃ t, PSs (cxOf CX0 P w K mg base N qual (defScope st) f (.ref c) A outer s H E).nox (defBody st) t ∧ t { nx := fun _ H' => Q .non H', rt := Q } (start N vs) H) : FnG P w K mg base CX0 (k + 1) f fd ps sp := by
  obtain ⟨oc, od, kV, doc, pm, an, ct, osl, rfl, lk, code⟩ := F.ex
  refine ⟨len, fun A outer s H args us vs Q E clr room e0 binds rel want => ?_⟩
  have nps := len _ _ _ _ want
  have KX : K.In s.heap := e0.mod.kin.keeps fun b o e => (e0.bs b o e).1
  have lim : s.heap.NoLimit := e0.mod.nolimit.keeps fun b o e => (e0.bs b o e).1
  refine codeAny_call_function room.depth (KX _ _ lk) rfl S.co S.gen rfl (PySem.W.codeRec_of KX code) (binds _ _ _ _ (wpAny_newFunctionEnv_cells S.kind (fun y hy => ?_) fun env he s1 x => ?_))
  · obtain ⟨n, v⟩ := y
    exact (S.par n (List.of_mem_zip hy).1).elim .inl fun q => .inr ⟨q, PySem.W.cellsFrom_some _ _ _ (.inl q)⟩
  · subst he
    obtain ⟨t, term, q⟩ := body A outer s H vs Q E clr (room.deeper _) want
    have I : Inv (cxOf CX0 P w K mg base N qual (defScope st) f (.ref c) A outer s H E) [] (start N vs) H s1 := inv_start S room.hd e0 nps rel x
    refine ⟨lim.keeps x.toInCall.keep, codeAny_func (wpAny_mono (term.nox.run [] s1 (start N vs) H _ I q) (fun fl s' z => ?_) fun _ _ z => z)⟩
    match fl, z with
    | .ret u, ⟨v, _, H', J, rv, q⟩ => exact ⟨v, H', J.os, J.bare, J.base, J.hok, rv, q⟩
    | .next, ⟨_, H', J, q⟩ => exact ⟨.non, H', J.os, J.bare, J.base, J.hok, rfl, q⟩
    | .brk, ⟨_, _, _, q⟩ => exact q.elim
    | .cont, ⟨_, _, _, q⟩ => exact q.elim
end
section
variable {P : Program} {w : World} {K : PySem.W.Frag} {mg mb : Str → Option Value} {k : Nat} {fa a : Addr} {fd : FuncData} {x : Str} {sp : Sp} {s : Shared} {vs : List Value} {ns : List Int} {cs : List (Addr × Addr)}
/-- the code objects and their tables: empty, not of the written part -/
abbrev TabsIn (K : PySem.W.Frag) (h : Heap) (cs : List (Addr × Addr)) : Prop := ∀ p ∈ cs, PySem.W.CodeHd h p.1 p.2 ∧ h.get? p.2 = some (PySem.W.tabObj #[]) ∧ K.lookup p.2 = none
/-- the abstract heap at the law's entry: the tables, and the script, locked, or where it is the module's own the tables alone -/
structure EntT (K : PySem.W.Frag) (cs : List (Addr × Addr)) (a : Addr) (vs : List Value) (ns : List Int) (H : Hp) : Prop where
  tab : ∀ p ∈ cs, H p.2 = some (.tbl #[])
  dom : ∀ b u, H b = some u → (b = a ∧ u = .frz { cls := .type "list", data := .seq vs.toArray } (.lst (ns.map V.int))) ∨ ∃ p ∈ cs, b = p.2
  own : H a ≠ none → K.lookup a = none
theorem entT_run (KX : K.In s.heap) (hns : s.heap.Ns mainGlobals mg) (hb : s.heap.Ns builtinsNs mb) (hbb : ∀ y : Str, y ≠ "__name__" → mb y = bootBuiltins y) (lim : s.heap.NoLimit) (gens : s.gens = #[]) (ti : TabsIn K s.heap cs)
    (bmain : ∃ (bm : Addr) (ob : Obj), mg "__builtins__" = some (.ref bm) ∧ bm ≠ builtinsNs ∧ s.heap.get? bm = some ob ∧ ob.cls = .type "module" ∧ ob.dict = some builtinsNs ∧ ob.data = .plain)
    (oa : s.heap.get? a = some { cls := .type "list", data := .seq vs.toArray }) (rv : Vals (ns.map V.int) vs) (few : ns.length ≤ sizeLine) (room : Room k callerA)
    (F : ∀ base : Heap, K.In base → base.Ns mainGlobals mg → (∀ p ∈ cs, TabB base mg p.1 p.2) → FnG P w K mg base CX0 k fa fd [x] sp)
    (bind : ∀ (s : Shared) (u : Value), BindsTo s fd ⟨[u], []⟩ [(x, u)]) {H : Hp} (en : EntT K cs a vs ns H) (want : sp [.ref a] H (fun v _ => v = .bl true) fun _ _ _ => False) :
    codeAny (model P w) callerA (.call (.ref fa) ⟨[.ref a], []⟩) (fun r s' => r = .ok (.ret (.bool true)) ∧ OldK s.heap s'.heap ∧ s'.os = s.os ∧ AllBare s'.gens) s := by
  -- what is tracked: a list or a table
  have kinds : ∀ {b : Addr} {o : Obj}, s.heap.get? b = some o → H b ≠ none → o = { cls := .type "list", data := .seq vs.toArray } ∨ o = PySem.W.tabObj #[] := fun {b o} q n => by
    cases r : H b with
    | none => exact absurd r n
    | some u =>
      rcases en.dom b u r with ⟨rfl, _⟩ | ⟨p, hp, rfl⟩
      · rw [oa] at q
        exact .inl (Option.some.inj q).symm
      · rw [(ti p hp).2.1] at q
        exact .inr (Option.some.inj q).symm
  have loose : ∀ {b : Addr} {o : Obj}, s.heap.get? b = some o → (∀ vs n, o.data ≠ .seq vs n) → (o.data = .fields #[] → False) → H b = none := fun {b o} q h1 h2 => by
    refine Decidable.byContradiction fun n => ?_
    rcases kinds q n with e | e
    · exact h1 _ _ (by rw [e])
    · exact h2 (by rw [e])
  have seen : ∀ {b : Addr} {o : Obj}, s.heap.get? b = some o → H b = none → (hidT s.heap H).get? b = some o := fun q n => hidT_get q n
  have dict : ∀ {b : Addr} {o : Obj} {es : Array DictEntry} {ep : Nat}, s.heap.get? b = some o → o.data = .dict es ep → (hidT s.heap H).get? b = some o := fun q d => seen q (loose q (fun vs n z => nomatch d.symm.trans z) fun z => nomatch d.symm.trans z)
  have nsT : ∀ {b : Addr} {m : Str → Option Value}, s.heap.Ns b m → (hidT s.heap H).Ns b m := fun ⟨o, es, ep, q, d, r⟩ => ⟨o, es, ep, dict q d, d, r⟩
  have KT : K.In (hidT s.heap H) := fun b o q => seen (KX b o q) (Decidable.byContradiction fun n => by
    cases r : H b with
    | none => exact n r
    | some u =>
      rcases en.dom b u r with ⟨rfl, _⟩ | ⟨p, hp, rfl⟩
      · rw [en.own n] at q
        cases q
      · rw [(ti p hp).2.2] at q
        cases q)
  have isTab : ∀ b u, H b = some u → ∀ q, u = .tbl q → s.heap.get? b = some (PySem.W.tabObj #[]) ∧ q = #[] := fun b u r q e => by
    rcases en.dom b u r with ⟨_, z⟩ | ⟨p, hp, rfl⟩
    · rw [e] at z
      cases z
    · refine ⟨(ti p hp).2.1, ?_⟩
      have z := en.tab p hp
      rw [r, e] at z
      cases z
      rfl
  have ok : HOk P w H s.heap := fun b u r => by
    rcases en.dom b u r with ⟨rfl, rfl⟩ | ⟨p, hp, rfl⟩
    · exact ⟨oa, by rw [List.length_map]; exact few, vs, _, rv, oa⟩
    · rw [en.tab p hp] at r
      cases r
      exact (ti p hp).2.1
  have TB : ∀ p ∈ cs, TabB (hidT s.heap H) mg p.1 p.2 := fun p hp => by
    obtain ⟨C, tp, _⟩ := ti p hp
    refine ⟨?_, ?_, fun z => ?_⟩
    · obtain ⟨o, us, file, tf, flags, tg, inF, text, tt, e1, r1, r2, r3, r⟩ := C
      refine ⟨o, us, file, tf, flags, tg, inF, text, tt, seen e1 (loose e1 (fun vs n z => nomatch r2.symm.trans z) fun z => ?_), r1, r2, r3, r⟩
      have e := r2.symm.trans z
      cases e
      simp at r3
    · obtain ⟨bm, ob, b1, b2, b3, b4, b5, b6⟩ := bmain
      refine ⟨bm, ob, b1, b2, fun q => ?_, fun q => ?_, seen b3 (loose b3 (fun vs n z => nomatch b6.symm.trans z) fun z => nomatch b6.symm.trans z), b4, b5, b6⟩
      · obtain ⟨o, es, ep, e, hd, _⟩ := hns
        rw [q, e] at b3
        cases b3
        cases hd.symm.trans b6
      · rw [q, tp] at b3
        cases b3
        cases b6
    · obtain ⟨o, es, ep, e, hd, _⟩ := hns
      rw [z, tp] at e
      cases e
      cases hd
  have e0 : Env0 P w K mg (hidT s.heap H) callerA [] s H :=
    ⟨rfl, ⟨KT, nsT hns, ⟨mb, nsT hb, hbb⟩, let ⟨m, z1, z2⟩ := lim; ⟨m, nsT z1, z2⟩⟩, fun b o q => of_hidT q, Nat.le_of_eq (hidT_size _ _), trivial, fun b z => absurd (show b ∈ ([] : List Addr) from z) (by simp), ok, .of_eq gens⟩
  refine codeAny_mono ((F _ KT (nsT hns) TB).run callerA [] s H ⟨[.ref a], []⟩ [.ref a] [.ref a] _ _ rfl room e0 (bind s (.ref a)) (.cons rfl .nil) want) fun r s' z => ?_
  match r, z with
  | .error _, z => exact z.elim
  | .ok .next, z => exact z.elim
  | .ok .brk, z => exact z.elim
  | .ok .cont, z => exact z.elim
  | .ok (.ret u), ⟨v, H', os, bare, un, ok', rv', q⟩ =>
    obtain rfl : v = .bl true := q
    obtain rfl : u = Value.bool true := rv'
    -- an object stays, or is a table that has grown
    have way : ∀ b o, s.heap.get? b = some o → s'.heap.get? b = some o ∨ ∃ p ∈ cs, b = p.2 ∧ ∃ more : Array Value, s'.heap.get? b = some (PySem.W.tabObj more) := fun b o q => by
      cases r : H b with
      | none => exact .inl (un.keep b o q r (fun z => absurd (show b ∈ ([] : List Addr) from z) (by simp)) (by simp))
      | some u =>
        rcases en.dom b u r with ⟨rfl, rfl⟩ | ⟨p, hp, rfl⟩
        · have q1 := (ok b _ r).1
          rw [q] at q1
          cases q1
          exact .inl (ok' b _ (un.frzs b _ _ r)).1
        · obtain ⟨more, z⟩ := un.tbls p.2 #[] (en.tab p hp)
          exact .inr ⟨p, hp, rfl, _, ok' p.2 _ z⟩
    refine ⟨rfl, ⟨fun b o q => ?_, fun b o q => ?_⟩, os, bare⟩
    · rcases way b o q with z | ⟨p, hp, rfl, more, z⟩
      · exact .inl z
      · obtain ⟨C, tp, _⟩ := ti p hp
        rw [tp] at q
        cases q
        exact .inr (.inl ⟨(C.tab tp).isCodeTable, rfl, #[], more, rfl, by rw [Array.empty_append]; exact z⟩)
    · rcases way b o q with z | ⟨_, _, _, more, z⟩
      · exact ⟨o, z⟩
      · exact ⟨_, z⟩
end
/-- the law's promise with its tables -/
def LawTG (l : PySem.W.OpenLaw) (w : World) (K : PySem.W.Frag) (k n : Nat) (x : Str) (mg : Str → Option Value) (fa : Addr) (h : Heap) : Prop :=
  ∃ (fd : FuncData) (cs : List (Addr × Addr)) (sp : Sp), TabsIn K h cs ∧ (∀ (s : Shared) (u : Value), BindsTo s fd ⟨[u], []⟩ [(x, u)]) ∧
    (∀ (H : Hp) (a : Addr) (ns : List Int), ns.length ≤ n → (∀ p ∈ cs, H p.2 = some (.tbl #[])) → SqL K H a (ns.map V.int) → sp [.ref a] H (fun v _ => v = .bl true) fun _ _ _ => False) ∧
    ∀ base : Heap, K.In base → base.Ns mainGlobals mg → (∀ p ∈ cs, TabB base mg p.1 p.2) → FnG l.prog w K mg base CX0 k fa fd [x] sp
/-- what the head tells of a def's table -/
abbrev TabsOf (q : Program) (K : PySem.W.Frag) (h : Heap) : Prop := ∀ (y : Str) (c P : Addr), ((recsOf q).find? (fun e => e.name == y)).isSome = true → PySem.W.tabIn K y = some (c, P) → PySem.W.CodeHd h c P ∧ h.get? P = some (PySem.W.tabObj #[])
/-- the goal behind the head, from such a promise -/
theorem walk_tabG {l : PySem.W.OpenLaw} {n k : Nat} {q : Program} {loose : List Str} {XP : (Str → Option Value) → Heap → Prop} {YP : World → Heap → Prop} {d : DefRec} {K : Params → PySem.W.Frag} {x : Str}
    (most : l.most = some n) (few : n ≤ sizeLine) (nodf : d.params.defaults = []) (room : Room k callerA) (hY : ∀ (w : World) (h : Heap), YP w h → (K w.params).In h)
    (F : ∀ (w : World) (mg : Str → Option Value) (fa : Addr) (h : Heap), (K w.params).In h → h.Ns mainGlobals mg → mg d.name = some (.ref fa) → TabsOf q (K w.params) h → XP mg h → LawTG l w (K w.params) k n x mg fa h) :
    PySem.W.WalkO q loose XP YP l.row.toRowW d [] (fun f vs => PySem.call f vs) :=
  Att.attach_call most nodf fun w _ s mg mb fa _ _ _ _ a vs ns G Y _ _ _ hmg hobj hints hlen hg => by
    have KX := hY w _ Y
    obtain ⟨fd, cs, sp, ti, bind, hsp, hF⟩ := F w mg fa _ KX G.T.g hmg (fun y c P hr ht => let ⟨d', hd⟩ := Option.isSome_iff_exists.mp hr; PySem.W.tab_of G.T KX hd ht) G.X
    have rv := vals_ints hints
    have len := hints.length
    have tne : ∀ p ∈ cs, p.2 ≠ a := fun p hp z => by
      have e := (ti p hp).2.1
      rw [z, hobj] at e
      cases e
    cases own : (K w.params).lookup a with
    | some o =>
      have e := KX a o own
      rw [hobj] at e
      cases e
      obtain ⟨H, eH⟩ : ∃ H : Hp, H = fun b => if b ∈ cs.map (·.2) then some (.tbl #[]) else none := ⟨_, rfl⟩
      have inT : ∀ p ∈ cs, H p.2 = some (.tbl #[]) := fun p hp => by
        rw [eH]
        exact if_pos (List.mem_map.mpr ⟨p, hp, rfl⟩)
      have outT : ∀ b, b ∉ cs.map (·.2) → H b = none := fun b n => by
        rw [eH]
        exact if_neg n
      have na : a ∉ cs.map (·.2) := fun m => by
        obtain ⟨p, hp, e⟩ := List.mem_map.mp m
        exact tne p hp e
      refine entT_run KX G.T.g G.T.b G.T.builtins G.T.nolimit hg ti G.T.bmain hobj rv (Nat.le_trans hlen few) room hF bind (H := H) ⟨inT, fun b u r => .inr ?_, fun z => absurd (outT a na) z⟩
        (hsp H a ns hlen inT (.inr ⟨_, vs.toArray, _, own, rfl, rfl, rfl, by rw [List.size_toArray, len]; exact Nat.le_trans hlen few, by simpa using rv⟩))
      refine Decidable.byContradiction fun n => ?_
      rw [outT b fun m => n (let ⟨p, hp, e⟩ := List.mem_map.mp m; ⟨p, hp, e.symm⟩)] at r
      cases r
    | none =>
      obtain ⟨H, eH⟩ : ∃ H : Hp, H = fun b => if b = a then some (.frz { cls := .type "list", data := .seq vs.toArray } (.lst (ns.map V.int))) else if b ∈ cs.map (·.2) then some (.tbl #[]) else none := ⟨_, rfl⟩
      have atA : H a = some (.frz { cls := .type "list", data := .seq vs.toArray } (.lst (ns.map V.int))) := by rw [eH]; exact if_pos rfl
      have inT : ∀ p ∈ cs, H p.2 = some (.tbl #[]) := fun p hp => by
        rw [eH]
        exact (if_neg (tne p hp)).trans (if_pos (List.mem_map.mpr ⟨p, hp, rfl⟩))
      refine entT_run KX G.T.g G.T.b G.T.builtins G.T.nolimit hg ti G.T.bmain hobj rv (Nat.le_trans hlen few) room hF bind (H := H) ⟨inT, fun b u r => ?_, fun _ => own⟩ (hsp H a ns hlen inT (.inl (.inr ⟨_, atA⟩)))
      by_cases n : b = a
      · subst n
        rw [atA] at r
        exact .inl ⟨rfl, (Option.some.inj r).symm⟩
      · refine .inr (Decidable.byContradiction fun m => ?_)
        rw [eH] at r
        have r' := (if_neg n).symm.trans r
        rw [if_neg fun z => m (let ⟨p, hp, e⟩ := List.mem_map.mp z; ⟨p, hp, e.symm⟩)] at r'
        cases r'
end L2


/-! Own: a method that says super().m(..) first: its def has the cell of __class__ in its closure. -/
namespace SupX
open PySem PySem.Spec PyProof.Rows L2 ClX

/-- such a def of the text, behind the top -/
structure FunS (P : Program) (K : PySem.W.Frag) (x qual : Str) (st : Stmt) (D f : Addr) (fd : FuncData) : Prop where
  ex : ∃ (cc : Addr) (oc : Value) (od : Option Addr) (kV doc pm : Value) (an : Option Addr) (cd : Addr) (ct : Value) (osl : Array (Option Value)),
    fd = PySem.W.fnX x qual (defArgs st) (defBody st) (defScope st) [("__class__", cc)] .none kV doc pm an (.ref cd) ct ∧ K.lookup f = some ⟨oc, od, .func fd, osl⟩ ∧ PySem.W.codeIn K (.ref cd) qual = true ∧
    (∃ (ccl : Value) (cdd : Option Addr) (vs : Array Value) (ccs : Array (Option Value)) (file : Str) (tf : Tok), K.lookup cd = some ⟨ccl, cdd, .fields vs, ccs⟩ ∧ vs[2]? = some (.str file tf) ∧ ((P.main.file : Str) == file) = true) ∧
    ∃ (cl : Value) (cld : Option Addr) (csl : Array (Option Value)), K.lookup cc = some ⟨cl, cld, .cell (some (.ref D)), csl⟩
  kp : PySem.W.keepIn K (.ref f) = true

abbrev supEnv (qual : Str) (scope : Scope) (L f cd cc : Addr) : Env := PySem.W.envX qual scope L f (.ref cd) [("__class__", cc)]
/-- the context of such a body, at its entry -/
def supCx (P : Program) (w : World) (K : PySem.W.Frag) (mg : Str → Option Value) (base : Heap) (N : List Str) (qual : Str) (scope : Scope) (f cd cc : Addr) (A : Around) (outer : List Env) (s : Shared) (H : Hp) (E : XK) : Cx where
  prog := P
  w := w
  K := K
  mg := mg
  base := base
  A := A.deeper (supEnv qual scope s.heap.objs.size f cd cc)
  N := N
  s_0 := s
  H_0 := H
  env := supEnv qual scope s.heap.objs.size f cd cc
  outer := outer
  stack := supEnv qual scope s.heap.objs.size f cd cc :: outer
  ex := []
  fn := fun _ => false
  calm := true
  pn := []
  xe := fun e s' => wpAny (model P w) (A.deeper (supEnv qual scope s.heap.objs.size f cd cc)) (leaving (supEnv qual scope s.heap.objs.size f cd cc) e) (fun _ s'' => CX0 outer H s E e s'') (fun e' s'' => CX0 outer H s E e' s'') s'

/-- names: the parameters first, all local; the only free name is __class__ -/
structure SupScope (N ps : List Str) (sc : Scope) : Prop where
  kind : sc.kind = .function
  co : sc.isCoroutine = false
  gen : sc.isGenerator = false
  nd : N.Nodup
  pre : N.take ps.length = ps
  par : ∀ x ∈ ps, sc.names.lookup x = some .local
  nocell : ∀ y ∈ sc.names, y.2 ≠ .cell
  free : ∀ y ∈ sc.names, y.2 = .free → y.1 = ("__class__" : Str)
  sup : sc.names.lookup ("super" : Str) = some .globalImplicit
  cls : sc.names.lookup ("__class__" : Str) = some .free

theorem lookup_nd {x : Str} {v : Value} : ∀ {l : List (Str × Value)}, (l.map (·.1)).Nodup → (x, v) ∈ l → l.lookup x = some v
  | [], _, h => by simp at h
  | (y, u) :: l, nd, h => by
    have nd' : y ∉ l.map (·.1) ∧ (l.map (·.1)).Nodup := List.nodup_cons.mp nd
    rcases List.mem_cons.mp h with e | e
    · cases e
      simp [List.lookup]
    · have ne : x ≠ y := fun z => nd'.1 (z ▸ List.mem_map.mpr ⟨(x, v), e, rfl⟩)
      have hb : (x == y) = false := beq_eq_false_iff_ne.mpr ne
      simp only [List.lookup, hb]
      exact lookup_nd nd'.2 e

theorem args_look {ps : List Str} {us : List Value} {i : Nat} {y : Str} {u : Value} (nd : ps.Nodup) (hl : us.length = ps.length) (hp : ps[i]? = some y) (hu : us[i]? = some u) : (ps.zip us).reverse.lookup y = some u := by
  have hm : (y, u) ∈ ps.zip us := by
    have : (ps.zip us)[i]? = some (y, u) := by rw [List.getElem?_zip_eq_some]; exact ⟨hp, hu⟩
    exact List.mem_of_getElem? this
  have ndz : ((ps.zip us).map (·.1)).Nodup := by
    rw [List.map_fst_zip (by omega)]
    exact nd
  refine lookup_nd ?_ (List.mem_reverse.mpr hm)
  rw [List.map_reverse]
  exact (List.reverse_perm _).nodup_iff.mpr ndz

theorem inv_startS {P : Program} {w : World} {K : PySem.W.Frag} {mg : Str → Option Value} {base : Heap} {N ps : List Str} {qual : Str} {scope : Scope} {f cd cc D : Addr} {A : Around} {outer : List Env} {s : Shared} {H : Hp} {E : XK} {us : List Value} {vs : List V} {h₁ : Heap} {tk : Nat}
    {cl : Value} {cld : Option Addr} {csl : Array (Option Value)}
    (S : SupScope N ps scope) (hd : A.handled = none) (e0 : Env0 P w K mg base A outer s H) (hl : vs.length = ps.length) (r : Vals vs us) (hcc : K.lookup cc = some ⟨cl, cld, .cell (some (.ref D)), csl⟩)
    (hns : h₁.Ns s.heap.objs.size fun y => (ps.zip us).reverse.lookup y) (kp : ∀ b o, s.heap.get? b = some o → h₁.get? b = some o) :
    Inv (supCx P w K mg base N qual scope f cd cc A outer s H E) [] (L2.start N vs) H { s with heap := h₁, toks := tk } := by
  have hpl : ps.length ≤ N.length := by have := congrArg List.length S.pre; rw [List.length_take] at this; omega
  have noA : ∀ b : Addr, b ∉ (supCx P w K mg base N qual scope f cd cc A outer s H E).ex := fun b z => absurd (show b ∈ ([] : List Addr) from z) (by simp)
  have cm : ∀ {y : Str} {c : Addr}, ([("__class__", cc)] : List (Str × Addr)).lookup y = some c → y = ("__class__" : Str) ∧ c = cc := fun {y c} e => by
    have := PySem.mem_of_lookup e
    simp at this
    exact this
  have cb : base.get? cc = some ⟨cl, cld, .cell (some (.ref D)), csl⟩ := e0.mod.kin _ _ hcc
  refine ⟨⟨e0.mod, S.kind, rfl, rfl, Nat.le_refl _, fun y z c h1 h2 => (cm h1).1.trans (cm h2).1.symm, fun y hy => ?_, fun y c z _ => ?_, fun _ => hd, Around.frames_deeper e0.frames, .inr ⟨rfl, rfl⟩, fun b z => absurd z (noA b), e0.bs, e0.bsz, fun b _ _ => noA b, fun b z => absurd z (noA b), e0.funs, e0.frf⟩,
    rfl, e0.bare, Un.kept kp, ⟨_, hns, fun i y v h1 h2 h3 => ?_⟩, fun y c h => ?_, e0.hok.fresh (Nat.le_refl _), fun y c h => ?_, fun p hp => absurd (show p ∈ ([] : List (Addr × Obj)) from hp) (by simp), e0.hok.kept kp, ?_⟩
  · have hy : scope.names.lookup y = some .cell ∨ scope.names.lookup y = some .free := hy
    rcases hy with hy | hy
    · exact absurd rfl (S.nocell _ (PySem.mem_of_lookup hy))
    · have e : y = ("__class__" : Str) := S.free _ (PySem.mem_of_lookup hy) rfl
      subst e
      exact ⟨cc, rfl⟩
  · have z : false = true := z
    cases z
  · have hi : i < vs.length := by
      unfold L2.start at h2
      by_cases hi : i < vs.length
      · exact hi
      · rw [List.getElem?_append_right (by simpa using hi)] at h2
        rw [List.getElem?_replicate] at h2
        split at h2 <;> cases h2
    have ha : vs[i]? = some v := by
      unfold L2.start at h2
      rw [List.getElem?_append_left (by simpa using hi), List.getElem?_map] at h2
      cases e : vs[i]? with
      | none => rw [e] at h2; cases h2
      | some a => rw [e] at h2; cases h2; rfl
    obtain ⟨u, hu, rv⟩ := r.get ha
    have hp : ps[i]? = some y := by
      rw [← S.pre, List.getElem?_take_of_lt (by omega)]; exact h1
    have ndP : ps.Nodup := by rw [← S.pre]; exact S.nd.sublist (List.take_sublist _ _)
    refine ⟨u, rv, .inl ⟨S.par y (List.mem_of_getElem? hp), ?_⟩⟩
    exact args_look ndP (by rw [← r.length]; exact hl) hp hu
  · obtain ⟨rfl, rfl⟩ := cm h
    exact ⟨_, _, kp _ _ (e0.bs _ _ cb).1, rfl⟩
  · obtain ⟨rfl, rfl⟩ := cm h
    exact (e0.bs _ _ cb).2
  · unfold L2.start
    show _ = N.length
    rw [List.length_append, List.length_map, List.length_replicate]
    omega

theorem cls_obj {K : PySem.W.Frag} {h : Heap} {D : Addr} {cd : ClassData} (X : K.In h) (hD : PySem.W.clsIn K D = some cd) : ∃ oD, h.get? D = some oD ∧ oD.data = .cls cd := by
  unfold PySem.W.clsIn at hD
  split at hD
  · rename_i c d cd' sl ho
    cases hD
    exact ⟨_, X _ _ ho, rfl⟩
  · cases hD
theorem fn_obj {K : PySem.W.Frag} {h : Heap} {f : Addr} (X : K.In h) (ht : PySem.W.typeIn K (.ref f) = some (.type "function")) : ∃ o, h.get? f = some o ∧ o.cls = .type "function" := by
  have ht' : (K.lookup f).map (·.cls) = some (.type "function") := ht
  cases z : K.lookup f with
  | none => rw [z] at ht'; cases ht'
  | some o => rw [z] at ht'; exact ⟨o, X _ _ z, Option.some.inj ht'⟩
/-- what the class of the instance (C) and the class of the text (D) must have -/
structure SupOk (K : PySem.W.Frag) (C D : Addr) (m : Str) (g : Addr) : Prop where
  isC : (PySem.W.clsIn K C).isSome = true
  isD : (PySem.W.clsIn K D).isSome = true
  sub : PySem.W.mroIn K C (.ref D) = some true
  at_ : PySem.W.ks_superIn K C D m = some (some (.ref g))
  ty : PySem.W.typeIn K (.ref g) = some (.type "function")
  fi : PySem.W.fnIn K g = true
  op : PySem.W.nsIn K cStatics "thirdparty.any" = some none

section
variable {P : Program} {w : World} {K : PySem.W.Frag} {mg : Str → Option Value} {base : Heap}
/-- super().m(e, ..) as the first statement, then the rest -/
theorem FunS.ok {x qual m : Str} {st : Stmt} {C D f g : Addr} {fd fdg : FuncData} {N ps psg : List Str} {k kg : Nat} {sp spg : Sp} {rest : List Stmt} {e : Expr} {es : List Expr} {ar : Arg} {p0 p1 p2 p4 p5 : Pos}
    (F : FunS P K x qual st D f fd) (S : SupScope N ps (defScope st)) (hbd : defBody st = .Expr (.Call (.Attribute (.Call (.Name "super" p0) [] [] p1) m p2) (e :: es) [] p4) p5 :: rest)
    (hp : ((defArgs st).posonlyargs ++ (defArgs st).args).head? = some ar) (ha0 : ps[0]? = some ar.arg) (O : SupOk K C D m g) (G : FnOk P w K mg base CX0 kg g fdg psg spg) (hG : Binds K fdg psg []) (hms : mg "super" = none)
    (htop : (P.main.scope.names.lookup ("super" : Str)).isSome = false) (len : ∀ vs H Q E, sp vs H Q E → vs.length = ps.length) (hkg : kg ≤ k) (hat : (m == ("__class__" : Str)) = false)
    (hbody : ∀ (cd cc : Addr) (A : Around) (outer : List Env) (s : Shared) (H : Hp) (vs : List V) (Q : VK) (E : XK), Room k (A.deeper (supEnv qual (defScope st) s.heap.objs.size f cd cc)) → sp vs H Q E →
      ∃ (a dx : Addr) (fs : List (Str × V)) (t : TA) (t2 : TS), (vs[0]? = some (.ref a) ∧ H a = some (.ins C dx fs)) ∧ PA (supCx P w K mg base N qual (defScope st) f cd cc A outer s H E) (e :: es) t ∧
        PSs (supCx P w K mg base N qual (defScope st) f cd cc A outer s H E) rest t2 ∧
        t (L2.start N vs) H fun us H1 => spg (.ref a :: us) H1 (fun _ H2 => t2 { nx := fun _ H' => Q .non H', rt := Q } (L2.start N vs) H2) E0)
    {pl : Sem Bool} (hin : ∀ (cd cc : Addr) (L : Addr), interactive (supEnv qual (defScope st) L f cd cc) = false)
    (hsw : ∀ (cd cc : Addr) (L : Addr), swapsWith (.Call (.Attribute (.Call (.Name "super" p0) [] [] p1) m p2) (e :: es) [] p4) none p5.line (supEnv qual (defScope st) L f cd cc) = pure false)
    (ht : ∀ (cd cc : Addr) (L : Addr), eval (.Call (.Attribute (.Call (.Name "super" p0) [] [] p1) m p2) (e :: es) [] p4) (supEnv qual (defScope st) L f cd cc) = (do
      let ov ← attributeBase (.Call (.Name "super" p0) [] [] p1) m (supEnv qual (defScope st) L f cd cc) (eval (.Call (.Name "super" p0) [] [] p1) (supEnv qual (defScope st) L f cd cc))
      standAt p2.atName
      let (f', first) ← holding [ov] (getMethod ov m pl)
      callWith p4 f' first (backTo p4 (starEach (e :: es) (supEnv qual (defScope st) L f cd cc))) []))
    (hst : ∀ (cd cc : Addr) (L : Addr), starEach (e :: es) (supEnv qual (defScope st) L f cd cc) = (false, eval e (supEnv qual (defScope st) L f cd cc)) :: starEach es (supEnv qual (defScope st) L f cd cc))
    (hpl : ∀ (cd cc : Addr) (L : Addr) (pos : Pos), (backTo pos (starEach es (supEnv qual (defScope st) L f cd cc))).any (·.1) = false) : FnOk P w K mg base CX0 (k + 1) f fd ps sp := by
  obtain ⟨cc, oc, od, kV, doc, pm, an, cd, ct, osl, rfl, lk, hcd, ⟨ccl, cdd, cvs, ccs, file, tf, hco, hvs, hfile⟩, cl, cld, csl, hcc⟩ := F.ex
  refine ⟨len, fun A outer s H args us vs Q E hr e0 hb r hsp => ?_⟩
  have hl := len _ _ _ _ hsp
  have hG' : ∀ (s : Shared) (us : List Value), K.In s.heap → us.length = psg.length → BindsTo s fdg ⟨us, []⟩ (psg.zip us) := fun s us hk hl => by
    have h := hG s us hk (by rw [List.append_nil]; exact hl)
    rw [List.append_nil] at h
    exact h
  have KX : K.In s.heap := e0.mod.kin.keeps fun b o e => (e0.bs b o e).1
  have lim : s.heap.NoLimit := e0.mod.nolimit.keeps fun b o e => (e0.bs b o e).1
  have hloc : ∀ y ∈ ps.zip us, (defScope st).names.lookup y.1 = some .local := fun ⟨n, v⟩ hy => S.par n (List.of_mem_zip hy).1
  refine ks_codeAny_call_defAt (body := defBody st) (binds := ps.zip us) hr.depth (KX _ _ lk) rfl lim (PySem.W.codeRec_of KX hcd) rfl hb S.nocell hloc (fun h₁ hns hk₁ => ?_) S.co S.gen S.kind
  have I : Inv (supCx P w K mg base N qual (defScope st) f cd cc A outer s H E) [] (L2.start N vs) H { s with heap := h₁, toks := s.toks + (ps.zip us).length } := inv_startS S hr.hd e0 hl r hcc hns hk₁
  obtain ⟨a, dx, fs, t, t2, ⟨hva, hia⟩, hA, hR, hT⟩ := hbody cd cc A outer s H vs Q E (hr.deeper _) hsp
  have X1 : K.In h₁ := KX.keeps hk₁
  obtain ⟨u0, hu0, rv0⟩ := r.get hva
  obtain rfl : u0 = Value.ref a := rv0
  have ndP : ps.Nodup := by rw [← S.pre]; exact S.nd.sublist (List.take_sublist _ _)
  have hself := args_look ndP (by rw [← r.length]; exact hl) ha0 hu0
  obtain ⟨mA, OM, _, _, _, _⟩ := ins_get I.hok hia
  obtain ⟨cdC, hcdC⟩ := Option.isSome_iff_exists.mp O.isC
  obtain ⟨cdD, hcdD⟩ := Option.isSome_iff_exists.mp O.isD
  obtain ⟨oD, hD1, hD2⟩ := cls_obj X1 hcdD
  have hsup := O.at_
  unfold PySem.W.ks_superIn at hsup
  rw [hcdC, Option.bind_some] at hsup
  have haC : a ≠ C := by
    rintro rfl
    obtain ⟨oC, hC1, hC2⟩ := cls_obj X1 hcdC
    have e1 : h₁.get? a = some (PySem.W.instObj a dx) := OM.obj
    rw [hC1] at e1
    cases e1
    cases hC2
  obtain ⟨mb, hb1, hb2⟩ := e0.mod.blt
  have bk : ∀ b o, base.get? b = some o → h₁.get? b = some o := fun b o e => hk₁ b o (e0.bs b o e).1
  show PySem.wpAt (model P w) (A.deeper (supEnv qual (defScope st) s.heap.objs.size f cd cc)) (.func (defBody st) (supEnv qual (defScope st) s.heap.objs.size f cd cc)) (execs (defBody st) (supEnv qual (defScope st) s.heap.objs.size f cd cc)) _ _ _
  rw [hbd]
  refine ks_wpAt_execs_cons (ks_wpAt_Expr_any (ks_wpAt_MethodCall (pl := pl) ?_ (ht cd cc _)) (hin cd cc _) (hsw cd cc _))
  refine ks_wpAt_super_base (env := supEnv qual (defScope st) s.heap.objs.size f cd cc) S.sup S.cls hat rfl (X1 _ _ lk) rfl hp rfl (X1 _ _ hco) rfl hvs hfile htop ?_
  refine PySem.W.ks_loadName_global S.kind S.sup (Calls.loadGlobal_builtin (env := supEnv qual (defScope st) s.heap.objs.size f cd cc) (e0.mod.glob.keeps bk) hms (hb1.keeps bk) ((hb2 _ (by decide)).trans (by decide +kernel)) ⟨rfl, ?_⟩)
  refine wpAny_loadName_free S.kind S.cls rfl ⟨_, X1 _ _ hcc, rfl⟩ ?_
  refine wpAny_loadName_local S.kind (S.par _ (List.mem_of_getElem? ha0)) hns hself ?_
  refine ks_wpAny_isType_cls hD1 hD2 ⟨rfl, ?_⟩
  refine ks_wpAny_call_super hD1 hD2 OM.obj rfl (fun c z => nomatch z) (PySem.W.looks_mroIn X1 O.sub) (fun h2 e2 k2 => ?_)
  have I2 := pin_new (t' := s.toks + (ps.zip us).length) I k2 (Nat.le_refl _) e2 (fun v z => nomatch z)
  have X2 : K.In h2 := X1.keeps k2
  obtain ⟨og, hg1, hg2⟩ := fn_obj X2 O.ty
  refine ks_wpAny_getMethod_super e2 (PySem.W.looks_opaque X2 O.op) (l₀ := cdC.mro) ?_ rfl X2 hsup hg1 hg2 haC hat ?_
  · exact fun A Q E s k q => wpAny_bind ((PySem.W.looks_clsIn X2 hcdC) A _ E s k (wpAny_pure q))
  have I3 := met_new (g := g) (C := a) I2
  refine callwith_cm I3 (base_none I2 (Nat.le_refl _)) O.fi (thn (hA.run p4 _ _ _ H _ I3 hT) fun ws s3 ⟨ts, H2, I4, rv, q2⟩ => ⟨⟨pin_at I4, I4.kIn⟩, ?_⟩) (hst cd cc _) (hpl cd cc _ _)
  have lw : (Value.ref a :: ws).length = psg.length := by
    have r2 : Vals (V.ref a :: ts) (Value.ref a :: ws) := .cons rfl rv
    rw [← r2.length]
    exact G.len _ _ _ _ q2
  have z : wpAny (model P w) (A.deeper (supEnv qual (defScope st) s.heap.objs.size f cd cc)) (call (.ref h2.objs.size) ws)
      (EP (supCx P w K mg base N qual (defScope st) f cd cc A outer s H E) ((h2.objs.size, PySem.W.methodObj (.ref g) (.ref a)) :: (h₁.objs.size, PySem.W.ks_superObj D a C) :: []) (L2.start N vs) (fun _ H2 => t2 { nx := fun _ H' => Q .non H', rt := Q } (L2.start N vs) H2))
      (supCx P w K mg base N qual (defScope st) f cd cc A outer s H E).xe s3 := by
    refine wpAny_call (PySem.W.method_call (pin_at I4) (codeAny_mono ((G.mono hkg).run _ _ s3 H2 ⟨.ref a :: ws, []⟩ (.ref a :: ws) (.ref a :: ts) _ E0 (hr.deeper _) I4.env0 (hG' s3 (.ref a :: ws) I4.kIn lw) (.cons rfl rv) q2) fun r s' hq => ?_))
    cases r with
    | error e => exact False.elim hq
    | ok fl =>
      cases fl with
      | ret u => exact I4.after hq
      | next => exact False.elim hq
      | brk => exact False.elim hq
      | cont => exact False.elim hq
  refine thn z fun u s5 ⟨v, H5, I5, r5, q5⟩ => ?_
  refine wpAt_of_wpAny (wpAny_mono (hR.run _ s5 _ H5 _ I5 q5) (fun fl s' hs => ?_) fun e s' hs => hs)
  have fin : ∀ {σ' : L2.St} {H' : Hp} {v : V} {u : Value} {pn : List (Addr × Obj)}, Inv (supCx P w K mg base N qual (defScope st) f cd cc A outer s H E) pn σ' H' s' → L2.RelV v u → Q v H' → CE outer P w H s Q u s' :=
    fun {σ' H' v u pn} J rv q => ⟨v, H', J.os, J.bare, J.base, J.hok, rv, q⟩
  cases fl with
  | ret u =>
    obtain ⟨v, σ', H', J, rv, q⟩ := hs
    exact fin J rv q
  | next =>
    obtain ⟨σ', H', J, q⟩ := hs
    exact fin (v := V.non) (u := Value.none) J rfl q
  | brk =>
    obtain ⟨_, _, _, q⟩ := hs
    exact False.elim q
  | cont =>
    obtain ⟨_, _, _, q⟩ := hs
    exact False.elim q
end
end SupX


/-! try: .. except C as n: .., the caught exception known behind the try -/
namespace L2
open PySem PySem.Spec PyProof.Rows
section
variable {X : Cx} {pins : List (Addr × Obj)} {σ : St} {H : Hp} {s : Shared}
/-- an object that stands there is known from now on; the entry had none at its place -/
theorem Inv.known {a : Addr} {o : HO} (I : Inv X pins σ H s) (hn : H a = none) (h0 : X.s_0.heap.get? a = none) (hL : a ≠ X.env.locals) (h2 : ∀ x c, X.env.cells.lookup x = some c → c ≠ a) (h3 : ∀ p ∈ X.pn ++ pins, p.1 ≠ a)
    (new : ObjOk X.prog X.w (upd H a o) s.heap a o) : Inv X pins σ (upd H a o) s := by
  have nit : ∀ b u, H b = some u → b ≠ a := fun b u e z => by rw [z, hn] at e; cases e
  refine ⟨I.ok, I.os, I.bare, ⟨I.base.keep, I.base.slot, fun b o e n hx => ?_, I.base.there, fun b xs e => ?_, fun b o xs e => ?_, fun b ps e => ?_⟩, I.loc, I.cell, ?_, fun x c e => ?_, fun p hp => ?_, fun b u e => ?_, I.len⟩
  · rw [upd_ne (fun z => by rw [z, h0] at e; cases e)]
    exact I.base.free b o e n hx
  · have q := I.base.tups b xs e
    rw [upd_ne (nit b _ q)]
    exact q
  · have q := I.base.frzs b o xs e
    rw [upd_ne (nit b _ q)]
    exact q
  · obtain ⟨m, q⟩ := I.base.tbls b ps e
    exact ⟨m, by rw [upd_ne (nit b _ q)]; exact q⟩
  · rw [upd_ne (Ne.symm hL)]
    exact I.free
  · rw [upd_ne (h2 x c e)]
    exact I.freeC x c e
  · obtain ⟨e, n, r⟩ := I.pin p hp
    exact ⟨e, by rw [upd_ne (h3 p hp)]; exact n, r⟩
  · by_cases hb : b = a
    · subst hb
      rw [upd_same] at e
      cases e
      exact new
    · rw [upd_ne hb] at e
      exact (I.hok b u e).stay (fun c v hc q => q) (fun c q => by rw [upd_ne (nit c _ q)]; exact q) fun c _ q => by rw [upd_ne (nit c _ q)]; exact q
end
/-- what a landed exception is: its object, where it does not lie -/
structure Landed (X : Cx) (pins : List (Addr × Obj)) (σ : St) (H : Hp) (a C : Addr) (d : Option Addr) (h : Heap) (s : Shared) : Prop where
  inv : Inv X pins σ H { s with heap := h }
  obj : ∃ vs sl, h.get? a = some ({ cls := .ref C, dict := d, data := .fields vs, slots := sl } : Obj)
  free : H a = none
  entry : X.s_0.heap.get? a = none
  loc : a ≠ X.env.locals
  fs : a ∉ X.fs
  pin : ∀ p ∈ X.pn ++ pins, p.1 ≠ a
theorem Landed.of {X : Cx} {pins : List (Addr × Obj)} {σ : St} {H : Hp} {a C : Addr} {d : Option Addr} {h B : Heap} {s sI : Shared} (hs : X.stack = X.env :: X.outer) (hf : X.env.frame = some X.env.locals) (hex : X.ex = []) (J : Inv X pins σ H sI) (na : H a = none)
    (nb : ∀ b o, sI.heap.get? b = some o → b ∉ frs X.stack → B.get? b = some o) (hB : B.get? a = none) (ff : h.FunFrames B (X.env :: X.outer)) (there : ∃ oe vs, h.get? a = some oe ∧ Zc (.ref C) d oe ∧ oe.data = .fields vs) (K : Inv X pins σ H { s with heap := h }) : Landed X pins σ H a C d h s := by
  obtain ⟨⟨oc, od, odt, osl⟩, ws, at_, ⟨z1, z2⟩, z3⟩ := there
  have off : a ∉ frs (X.env :: X.outer) := fun hm => by
    obtain ⟨_, u, hu, plain⟩ := ff.mem hm
    rw [at_] at hu
    exact plain ws (by rw [← Option.some.inj hu]; exact z3)
  have out : sI.heap.get? a = none := by
    cases q : sI.heap.get? a with
    | none => rfl
    | some o => exact absurd (nb a o q (by rw [hs]; exact off)) (by rw [hB]; simp)
  refine ⟨K, ⟨ws, osl, ?_⟩, na, ?_, fun z => off (List.mem_filterMap.mpr ⟨X.env, .head _, by rw [hf, z]⟩), fun hm => ?_, fun p hp z => ?_⟩
  · dsimp only at z1 z2 z3
    rw [at_, z1, z2, z3]
  · cases q : X.s_0.heap.get? a with
    | none => rfl
    | some o =>
      obtain ⟨_, q2⟩ := J.base.there a o q (by rw [hex]; simp)
      rw [out] at q2
      cases q2
  · obtain ⟨e, m, q⟩ := List.mem_filterMap.mp hm
    exact off (List.mem_filterMap.mpr ⟨e, .tail _ m, q⟩)
  · have q := (J.pin p hp).1
    rw [z, out] at q
    cases q
/-- what is wanted of an exception in the try: as wAs, but behind the suite the exception is known -/
def wAsK (K : PySem.W.Frag) (c : Value) (i : Nat) (ts : Addr → Value → Option Addr → TS) (Wout : WX) (D : Ends) : WX := fun cls d σ H => ∃ b C, cls = Value.ref C ∧ PySem.W.exmOne K cls c = some b ∧
  (b = true → ∀ a, H a = none → ts a cls d ⟨fun σ' H' => D.nx (σ'.set i none) (upd H' a (exg a C d)), D.rt, fun σ' H' => D.bk (σ'.set i none) H', fun σ' H' => D.ct (σ'.set i none) H'⟩ (σ.set i (some (.ref a))) H) ∧ (b = false → Wout cls d σ H)
section
variable {X : Cx} {x n : Str} {c : Value} {i : Nat} {body suite : List Stmt} {st : Stmt} {np pos hpos : Pos} {tb : WX → TS} {ts : Addr → Value → Option Addr → TS} {Wout : WX}
/-- the end of such a suite -/
theorem keep_end {pins : List (Addr × Obj)} {σ σ6 : St} {H H6 : Hp} {a C : Addr} {d : Option Addr} {h : Heap} {s s6 : Shared} {oe : Obj} {Q : Shared → Prop} (L : Landed X pins σ H a C d h s) (eo : h.get? a = some oe) (hN : X.N.Nodup) (hi : X.N[i]? = some n) (hln : X.env.kindOf n = some .local)
    (S : Inv (X.suite a ((a, oe) :: (X.pn ++ pins))) [] σ6 H6 s6) (q : ∀ s7, Inv X pins (σ6.set i none) (upd H6 a (exg a C d)) s7 → Q s7) : wpAny (model X.prog X.w) X.A (do bindName X.env n .none; unbindBehindTheSuite X.env n hpos) (fun _ s7 => Q s7) X.xe s6 := by
  obtain ⟨p1, p2, _⟩ := S.pin (a, oe) (List.mem_append_left _ (.head _))
  obtain ⟨ws, sl, e0⟩ := L.obj
  rw [eo] at e0
  have p3 : s6.heap.get? a = some oe := p1
  rw [Option.some.inj e0] at p3
  have U := S.unsuite L.inv.ok
  refine gone_ok (U.known (o := exg a C d) p2 L.entry L.loc (fun y k e z => ?_) L.pin (exg_ok p3)) hN hi hln q
  obtain ⟨_, _, w1, w2⟩ := U.cell y k e
  rw [z, p3] at w1
  rw [← Option.some.inj w1] at w2
  cases w2
/-- try: body / except x as n: suite -/
theorem ps_try_keep (hs : X.stack = X.env :: X.outer) (hf : X.env.frame = some X.env.locals) (hex : X.ex = []) (hN : X.N.Nodup) (hi : X.N[i]? = some n) (hln : X.env.kindOf n = some .local) (hc : Names X x c) (tk : Takes X Wout)
    (hb : ∀ (W : WX) (pn : List (Addr × Obj)) (xe : Value → Shared → Prop), Takes (X.tr pn xe) W → PassesOwn (model X.prog X.w) X.A X.env xe → PSs (X.tr pn xe) body (tb W))
    (hsu : ∀ (a : Addr) (oe : Obj) (cls : Value) (d : Option Addr) (pn : List (Addr × Obj)), Zc cls d oe → (∃ vs, oe.data = .fields vs) → PSs (X.suite a ((a, oe) :: pn)) (st :: suite) (ts a cls d)) :
    PS X (.Try body [.ExceptHandler (some (.Name x np)) (some n) (st :: suite) hpos] [] [] pos) (fun D σ H => tb (wAsK X.K c i ts Wout D) D σ H) := by
  constructor
  intro pins s σ H D I h
  refine wpAny_Try_except (wpAny_mono ((hb (wAsK X.K c i ts Wout D) (X.pn ++ pins) (fun e t1 => wpAny (model X.prog X.w) X.A (noteFrame e X.env) (fun _ t2 => wpAny (model X.prog X.w) X.A (setFlight e none) (fun _ t3 =>
    wpAny (model X.prog X.w) X.A (handleBy e X.env [.ExceptHandler (some (.Name x np)) (some n) (st :: suite) hpos]) (SP X pins D) X.xe t3) X.xe t2) X.xe t1) (fun u s' air => ?_) PassesOwn.looking).run [] s σ H D (I.toTry _) h) (fun f t1 ok => ?_) fun _ _ z => z)
  case refine_2 =>
    cases f with
    | next => exact let ⟨σ1, H1, K, q⟩ := ok; wpAny_execs_nil ⟨σ1, H1, K.ofTry I.ok, q⟩
    | brk => exact let ⟨σ1, H1, K, q⟩ := ok; ⟨σ1, H1, K.ofTry I.ok, q⟩
    | cont => exact let ⟨σ1, H1, K, q⟩ := ok; ⟨σ1, H1, K.ofTry I.ok, q⟩
    | ret u => exact let ⟨v, σ1, H1, K, rv, q⟩ := ok; ⟨v, σ1, H1, K.ofTry I.ok, rv, q⟩
  case refine_1 =>
    obtain ⟨a, B, sI, pins', σ', H', cls, d, rfl, J', nb, up, sky, na, os, ag, b, C, rfl, mb, yes, no⟩ := air
    have J := J'.ofTry I.ok
    rw [hs] at sky
    have hfr : X.A.frames = some (X.env :: X.outer) := I.ok.frames.trans (congrArg some hs)
    show wpAny (model X.prog X.w) X.A (noteFrame (.ref a) X.env) _ _ _
    refine Sky.land Zc.steady hfr hf sky fun hA flA upA => ?_
    have KA : Inv X pins σ' H' { s' with heap := hA } := J.landed nb flA.1 (up.trans upA) os ag
    obtain ⟨oA, wA, atA, zA, dA⟩ := flA.there
    have LA := Landed.of (s := s') hs hf hex J na nb flA.2.1 flA.2.2.1 ⟨oA, wA, atA, zA, dA⟩ KA
    have SA := KA.suite atA dA na LA.loc LA.fs
    refine wpAny_handleBy_cons (codeAny_handlers_test ?_) fun z => by cases z
    have ty : PySem.W.Looks (model X.prog X.w) hA (typeOf (.ref a)) (.ref C) := fun _ _ _ _ kk q => wpAny_typeOf_ref (kk _ _ atA) (by rw [zA.1]; exact q)
    have mk := PySem.W.exm_one (M := model X.prog X.w) KA.kIn ty mb
    have named : ∀ {Q E : Value → Shared → Prop}, Q c { s' with heap := hA } → wpAny (model X.prog X.w) (X.A.mark (some (.ref a))) (eval (.Name x np) X.env) Q E { s' with heap := hA } := fun q => by
      obtain ⟨g, gd, e | ⟨e, bt, nn⟩⟩ := hc
      · exact ld_glob SA g e q gd
      · exact ld_blt SA g e bt q nn gd
    refine named (mk.here ?_)
    match b, yes, no with
    | true, yes, _ =>
      refine codeAny_handlers_suite_as (HandSPX.lands_againZ flA fun hC flC upC => ?_)
      have KC : Inv X pins σ' H' { s' with heap := hC } := J.landed nb flC.1 ((up.trans upA).trans upC) os ag
      obtain ⟨oC, wC, atC, zC, dC⟩ := flC.there
      have LC := Landed.of (s := s') hs hf hex J na nb flC.2.1 flC.2.2.1 ⟨oC, wC, atC, zC, dC⟩ KC
      refine store_ok (X := X.suite a ((a, oC) :: (X.pn ++ pins))) (v := .ref a) (KC.suite atC dC na LC.loc LC.fs) hN hi (.inl hln) rfl (fun t5 S5 => ?_) (.inr hln)
      refine wpAny_mono ((hsu a oC _ d (X.pn ++ pins) zC ⟨_, dC⟩).run [] t5 _ H' _ S5 (yes rfl a na)) (fun f t6 e6 => ?_) fun _ _ z => z.elim
      have plain : ∀ {σ6 : St} {H6 : Hp} {Q : Shared → Prop}, Inv (X.suite a ((a, oC) :: (X.pn ++ pins))) [] σ6 H6 t6 → (∀ t7, Inv X pins (σ6.set i none) H6 t7 → Q t7) → wpAny (model X.prog X.w) X.A (do bindName X.env n .none; unbindBehindTheSuite X.env n hpos) (fun _ t7 => Q t7) X.xe t6 :=
        fun S q => gone_ok (S.unsuite I.ok) hN hi hln q
      cases f with
      | next => exact let ⟨σ6, H6, S6, q6⟩ := e6; keep_end LC atC hN hi hln S6 fun t7 K7 => ⟨_, _, K7, q6⟩
      | brk => exact let ⟨σ6, H6, S6, q6⟩ := e6; plain S6 fun t7 K7 => ⟨_, _, K7, q6⟩
      | cont => exact let ⟨σ6, H6, S6, q6⟩ := e6; plain S6 fun t7 K7 => ⟨_, _, K7, q6⟩
      | ret u => exact let ⟨v6, σ6, H6, S6, r6, q6⟩ := e6; plain S6 fun t7 K7 => ⟨_, _, _, K7, r6, q6⟩
    | false, _, no =>
      show wpAny _ X.A (handleBy (.ref a) X.env []) _ _ _
      refine wpAny_handleBy_nil ?_
      obtain ⟨oe, vs, tb1, _, _, e1, _, e2, e3, _⟩ := flA.2.2.2
      unfold PySem.passOn
      refine wpAny_bind (wpAny_field e1 e2 e3 ?_)
      rw [if_neg (by simp)]
      have fly : wpAny (model X.prog X.w) X.A (setFlight (.ref a) X.env.frame) (fun _ t4 => wpAny (model X.prog X.w) X.A (throw (.ref a) : Sem Flow) (SP X pins D) X.xe t4) X.xe { s' with heap := hA } := by
        rw [hf]
        exact HandSPX.setFlight_upZ flA fun hD held upD => wpAny_throw (tk _ _ ⟨a, B, sI, pins, σ', H', .ref C, d, rfl, J, nb, (up.trans upA).trans upD, .inr (.inr (by rw [hs]; exact held)), na, os, ag, no rfl⟩)
      first | exact wpAny_bind (wpAny_pure (wpAny_bind fly)) | exact wpAny_bind fly
end
end L2


/-! two dicts of flat values compared, equal or not -/
namespace L2
open PySem PySem.Spec PyProof.Rows
def rowEq (ls : List (Key × V)) (p : Key × V) : Bool := match valV ls p.1 with
  | some u => eqV p.2 u
  | none => false
def eqDK (ks ls : List (Key × V)) : Bool := ks.length == ls.length && ks.all (rowEq ls)
section
variable {X : Cx}
def rEqDC : R2 := fun x y H Q => ∃ a b ks ls, x = .ref a ∧ y = .ref b ∧ H a = some (.dK ks) ∧ H b = some (.dK ls) ∧ (∀ p ∈ ks, flatV p.2 = true) ∧ (∀ p ∈ ls, flatV p.2 = true) ∧ Q (.bl (eqDK ks ls)) H
def rNeDC : R2 := fun x y H Q => ∃ a b ks ls, x = .ref a ∧ y = .ref b ∧ H a = some (.dK ks) ∧ H b = some (.dK ls) ∧ (∀ p ∈ ks, flatV p.2 = true) ∧ (∀ p ∈ ls, flatV p.2 = true) ∧ Q (.bl (!eqDK ks ls)) H
end
end L2


/-! Own: == and != by an __eq__ that the class may have from a base, no __ne__ of its own; the right side an instance of any own class, a tuple, an int -/
namespace PySem.W
open PySem PySem.Calls PyProof.Rows
section
variable {prog : Program} {w : World} {A : Around} {E : Value → Shared → Prop} {s : Shared} {K : Frag} {x C f : Addr} {ox : Obj} {od : Option Obj} {name : Str} {b tb : Value}
theorem ifBound_KB {M : Model} {id : String} {args : List Value} {Q : Option Value → Shared → Prop} (X : K.In s.heap) (I : InstAt s.heap x ox C od) (hs : findIn K (.ref C) name = some (some (.builtin id))) (hb : ∀ self, bindSpecial (.builtin id) self = pure (.builtin id, [self]))
    (h : wpAny M A (call (.builtin id) (.ref x :: args)) (fun v => Q (some v)) E s) : wpAny M A (callSpecialIfBound? (.ref x) name args) Q E s := by
  simp only [callSpecialIfBound?, bindSpecialIfBound?]
  refine wpAny_holding (wpAny_bind (wpAny_bind (wpAny_bind (I.type.here ((looks_findIn X hs).here ?_)))))
  simp only [hb]
  refine wpAny_bind (wpAny_askSetting (wpAny_ite ?_))
  have fin : wpAny M A (call (.builtin id) ([.ref x] ++ args) >>= fun v => pure (some v)) Q E s := wpAny_bind (wpAny_mono h (fun v s' h' => wpAny_pure h') fun _ _ h' => h')
  split
  · exact wpAny_bind (wpAny_pure (wpAny_pure fin))
  · exact wpAny_tryCatch (wpAny_bind (wpAny_pure (wpAny_pure fin)))
theorem objNe_K {Q : Fin → Shared → Prop} (X : K.In s.heap) (I : InstAt s.heap x ox C od) (he : findIn K (.ref C) "__eq__" = some (some (.ref f))) (hf : isFn K (.ref f) = true) (hu : A.units < cLine)
    (hcall : wpAny (model prog w) A (call (.ref f) [.ref x, b]) (fun v s' => ∃ k, v = .bool k ∧ Q (.done (.ret (.bool (!k)))) s') E s) : wpAny (model prog w) A (Builtin.«object.__ne__» ⟨[.ref x, b], []⟩) Q E s := by
  unfold Builtin.«object.__ne__»
  repeat (first
    | with_reducible refine wpAny_cRoomFor hu ?_
    | (refine wpAny_bind (m := callSpecialIfBound? (.ref x) (Str.ofString "__eq__") [b])
        (ifBound_K X I he hf (wpAny_mono hcall (fun r s' hr => by
          obtain ⟨k, rfl, hq⟩ := hr
          repeat (first | exact hq | exact wpAny_pure hq | exact wpAny_truthy_bool hq | (refine wpAny_bind (m := truthy (.bool _)) (wpAny_truthy_bool ?_)) | wp_step)) fun _ _ e => e)))
    | wp_step)
theorem ne_K {Q : Value → Shared → Prop} (hu : A.units + 1 < cLine) (X : K.In s.heap) (I : InstAt s.heap x ox C od) (hb : Looks (model prog w) s.heap (typeOf b) tb) (hn : notFirst K C tb = true) (hne : findIn K (.ref C) "__ne__" = some (some (.builtin "object.__ne__")))
    (he : findIn K (.ref C) "__eq__" = some (some (.ref f))) (hf : isFn K (.ref f) = true) (ho : mroIn K C (.type "object") = some true)
    (h : wpAny (model prog w) A.in1 (call (.ref f) [.ref x, b]) (fun v s' => ∃ k, v = .bool k ∧ Q (.bool (!k)) s') E s) : wpAny (model prog w) A (richCompare .NotEq (.ref x) b) Q E s := by
  have one : wpAny (model prog w) A (tryCompare (.ref x) "__ne__" b) (fun r s' => ∃ v, r = some v ∧ Q v s') E s := by
    simp only [tryCompare]
    have sub : Looks (model prog w) s.heap (isInstance (.ref x) (.type "object")) true := I.type.andThen (looks_mroIn X ho)
    refine wpAny_bind (ifBound_KB X I hne (fun self => F.cmp_object.ne.bind self) (wpAny_call (codeAny_call_builtin F.cmp_object.ne.plain F.cmpEntry_ne
      (check_slot F.cmpKind_ne F.cmpSplit_ne sub (F.cmpArgs_ne _ _) (objNe_K (A := A.in1) X I he hf hu (wpAny_mono h (fun v s' hv => ?_) fun _ _ e => e))))))
    obtain ⟨k, rfl, hq⟩ := hv
    first | exact ⟨k, rfl, wpAny_pure ⟨_, rfl, hq⟩⟩ | exact ⟨k, rfl, wpAny_pure (wpAny_pure ⟨_, rfl, hq⟩)⟩ | exact ⟨k, rfl, ⟨_, rfl, hq⟩⟩
  unfold richCompare
  simp only [oneThing_ref]
  refine wpAny_holding (wpAny_bind (wpAny_cRoomFor (Nat.lt_of_succ_lt hu) ?_))
  rw [cmpInfo_NotEq]
  dsimp only
  refine wpAny_bind (I.type.here (wpAny_bind (hb.here ?_)))
  split
  · rename_i q
    have e : subIn K tb (.ref C) = some false := by
      rcases Bool.or_eq_true_iff.mp hn with e | e
      · rw [beq_iff_eq.mp e] at q; simp at q
      · exact beq_iff_eq.mp e
    refine wpAny_bind ((looks_subIn X e).here ?_)
    simp only [Bool.false_eq_true, if_false]
    refine wpAny_bind (wpAny_mono one (fun r s' z => ?_) fun _ _ e => e)
    obtain ⟨v, rfl, hq⟩ := z
    exact wpAny_pure hq
  · refine wpAny_bind (wpAny_pure ?_)
    simp only [Bool.false_eq_true, if_false]
    refine wpAny_bind (wpAny_mono one (fun r s' z => ?_) fun _ _ e => e)
    obtain ⟨v, rfl, hq⟩ := z
    exact wpAny_pure hq
end
end PySem.W
namespace L2
open PySem PySem.Spec PyProof.Rows
theorem notFirst_ty {K : PySem.W.Frag} {C : Addr} {T : String} (e : (PySem.fastBuiltinMro T).any (fun l => l.all fun v => match v with | .type _ => true | _ => false) = true) : PySem.W.notFirst K C (.type T) = true := by
  have h : ∃ l, PySem.fastBuiltinMro T = some l ∧ l.contains (.ref C) = false := by
    cases h : PySem.fastBuiltinMro T with
    | none => rw [h] at e; cases e
    | some l =>
      refine ⟨l, rfl, ?_⟩
      rw [h] at e
      cases hc : l.contains (Value.ref C) with
      | false => rfl
      | true =>
        have z := List.all_eq_true.mp e _ (List.contains_iff_mem.mp hc)
        cases z
  obtain ⟨l, h1, h2⟩ := h
  show ((Value.type T == Value.ref C) || (((PySem.fastBuiltinMro T).map fun l => l.contains (Value.ref C)) == some false)) = true
  rw [h1]
  show (_ || ((some (l.contains (Value.ref C))) == some false)) = true
  rw [h2]
  simp
/-- what may stand on the right of an instance of the class at C -/
def RightX (K : PySem.W.Frag) (C : Addr) (H : Hp) (y : V) : Prop := (∃ b D dy fs, y = .ref b ∧ H b = some (.ins D dy fs) ∧ PySem.W.notFirst K C (.ref D) = true) ∨ (∃ b xs, y = .ref b ∧ H b = some (.tup xs)) ∨ ∃ i, y = .int i
def spEqX (R : Addr → V → Bool → Hp → Prop) : Sp := fun vs H Q _ => ∃ a y v, vs = [.ref a, y] ∧ R a y v H ∧ ∀ H', Ext H H' → Q (.bl v) H'
/-- the classes C i, i below n, with their __eq__ -/
structure EqX (K : PySem.W.Frag) (n : Nat) (C : Nat → Addr) (f : Addr) : Prop where
  eq : ∀ i, i < n → PySem.W.findIn K (.ref (C i)) "__eq__" = some (some (.ref f))
  ne : ∀ i, i < n → PySem.W.findIn K (.ref (C i)) "__ne__" = some (some (.builtin "object.__ne__"))
  ob : ∀ i, i < n → PySem.W.mroIn K (C i) (.type "object") = some true
  fn : PySem.W.isFn K (.ref f) = true
def rEqX (K : PySem.W.Frag) (n : Nat) (C : Nat → Addr) (R : Addr → V → Bool → Hp → Prop) (g : Bool → Bool) : R2 := fun x y H Q => ∃ i a dx fs v, i < n ∧ x = .ref a ∧ H a = some (.ins (C i) dx fs) ∧ RightX K (C i) H y ∧ R a y v H ∧ ∀ H', Ext H H' → Q (.bl (g v)) H'
section
variable {X : Cx} {CX : CXT} {C : Nat → Addr} {f : Addr} {fd : FuncData} {ps : List Str} {R : Addr → V → Bool → Hp → Prop} {E : XK} {n m : Nat}
theorem right_ty {pins : List (Addr × Obj)} {σ : St} {H : Hp} {s : Shared} {D : Addr} {y : V} {u : Value} (I : Inv X pins σ H s) (r : RightX X.K D H y) (ry : RelV y u) : ∃ tb, PySem.W.Looks (model X.prog X.w) s.heap (typeOf u) tb ∧ PySem.W.notFirst X.K D tb = true := by
  rcases r with ⟨b, D', dy, fs, rfl, hb, nf⟩ | ⟨b, xs, rfl, hb⟩ | ⟨i, rfl⟩
  · cases ry
    obtain ⟨mB, J', _⟩ := ins_get I.hok hb
    obtain ⟨od', J', _⟩ := J'.look
    exact ⟨.ref D', J'.type, nf⟩
  · cases ry
    obtain ⟨its, r1, ht, _⟩ := I.tuple (SqT.of hb)
    obtain ⟨o, ho, hc, _⟩ := id ht
    exact ⟨.type "tuple", fun A Q E s k q => wpAny_typeOf_ref (k _ _ ho) (by rw [hc]; exact q), notFirst_ty (by decide +kernel)⟩
  · obtain ⟨t, rfl⟩ := ry
    exact ⟨.type "int", .now, notFirst_ty (by decide +kernel)⟩
theorem run_eqX {A : Around} (F : FnOk X.prog X.w X.K X.mg X.base CX m f fd ps (spEqX R)) (hb : Binds X.K fd ps []) (hx : Passes CX X E) {pins : List (Addr × Obj)} {σ : St} {H : Hp} {s : Shared} {a : Addr} {y : V} {u : Value} {v : Bool} (I : Inv X pins σ H s) (e0 : Env0 X.prog X.w X.K X.mg X.base A X.stack s H) (hr : Room m A)
    (ry : RelV y u) (rel : R a y v H) {Q : Value → Shared → Prop} (q : ∀ s' H', Inv X pins σ H' s' → Ext H H' → Q (.bool v) s') : wpAny (model X.prog X.w) A (call (.ref f) [.ref a, u]) Q X.xe s := by
  have hsp : spEqX R [.ref a, y] H (fun v1 H' => v1 = .bl v ∧ Ext H H') E := ⟨a, y, v, rfl, rel, fun H' e => ⟨rfl, e⟩⟩
  have hl := F.len _ _ _ _ hsp
  have r2 : Vals [V.ref a, y] [Value.ref a, u] := .cons rfl (.cons ry .nil)
  refine wpAny_call (codeAny_mono (F.run A X.stack s H ⟨[.ref a, u], []⟩ [.ref a, u] [.ref a, y] _ E hr e0 (by
    have := hb s [.ref a, u] I.kIn (by simpa using hl)
    simpa using this) r2 hsp) fun r s' hq => ?_)
  cases r with
  | error e => exact hx pins σ H s e s' I hq
  | ok fl =>
    cases fl with
    | ret w =>
      obtain ⟨z, H', I', rz, ez, ex⟩ := I.after hq
      subst ez
      cases rz
      exact q s' H' I' ex
    | next => exact False.elim hq
    | brk => exact False.elim hq
    | cont => exact False.elim hq
theorem op_eqX (ec : EqX X.K n C f) (F : FnOk X.prog X.w X.K X.mg X.base CX m f fd ps (spEqX R)) (hb : Binds X.K fd ps []) (hx : Passes CX X E) (hr : Room m X.A) : OpR X (compareOp .Eq) (rEqX X.K n C R id) := by
  intro pins s σ H x y v u Q I rx ry hq
  obtain ⟨i, a, dx, fs, v0, hi, rfl, ha, rt, rel, q⟩ := hq
  cases rx
  obtain ⟨mA, J, _⟩ := ins_get I.hok ha
  obtain ⟨od, J, _⟩ := J.look
  obtain ⟨m, hF⟩ := I.fr
  obtain ⟨tb, t1, t2⟩ := right_ty I rt ry
  show wpAny (model X.prog X.w) X.A (richCompare .Eq _ _) (EP X pins σ Q) X.xe s
  refine PySem.W.cmp_K (op := .Eq) (tb := tb) hr.units0 hF I.ok.mod.kin J t1 t2 (ec.eq i hi) ec.fn ?_
  exact run_eqX F hb hx I I.env0 hr ry rel fun s' H' I' e => ⟨.bl v0, H', I', rfl, q H' e⟩
theorem op_neX (ec : EqX X.K n C f) (F : FnOk X.prog X.w X.K X.mg X.base CX m f fd ps (spEqX R)) (hb : Binds X.K fd ps []) (hx : Passes CX X E) (hr : Room (m + 1) X.A) (hu : X.A.units + 1 < cLine) : OpR X (compareOp .NotEq) (rEqX X.K n C R not) := by
  intro pins s σ H x y v u Q I rx ry hq
  obtain ⟨i, a, dx, fs, v0, hi, rfl, ha, rt, rel, q⟩ := hq
  cases rx
  obtain ⟨mA, J, _⟩ := ins_get I.hok ha
  obtain ⟨od, J, _⟩ := J.look
  obtain ⟨tb, t1, t2⟩ := right_ty I rt ry
  show wpAny (model X.prog X.w) X.A (richCompare .NotEq _ _) (EP X pins σ Q) X.xe s
  refine PySem.W.ne_K (tb := tb) hu I.kIn J t1 t2 (ec.ne i hi) (ec.eq i hi) ec.fn (ec.ob i hi) ?_
  exact run_eqX F hb hx I I.env0.in1 hr.in1 ry rel fun s' H' I' e => ⟨v0, rfl, .bl (!v0), H', I', rfl, q H' e⟩
end
/-- t == () of a tuple of any items -/
def rEqNilT (K : PySem.W.Frag) : R2 := fun x y H Q => ∃ a b xs, x = .ref a ∧ y = .ref b ∧ SqT K H a xs ∧ SqT K H b [] ∧ Q (.bl (decide (xs.length = 0))) H
theorem op_eqNilT {X : Cx} (hu : X.A.units < cLine) : OpR X (compareOp .Eq) (rEqNilT X.K) := by
  intro pins s σ H x y v u Q I rx ry h
  obtain ⟨a, b, xs, rfl, rfl, ea, eb, q⟩ := h
  cases rx
  cases ry
  obtain ⟨ia, ra, ta, _⟩ := I.tuple ea
  obtain ⟨ib, rb, tb, _⟩ := I.tuple eb
  cases rb
  refine PySem.SeqAt.eq_tupleAt (e := fun _ => true) ta tb hu (fun j _ h2 => absurd h2 (by simp)) ?_
  have e : ((List.range (min ia.toArray.size ([] : List Value).toArray.size)).all (fun _ => true) && ia.toArray.size == ([] : List Value).toArray.size) = decide (xs.length = 0) := by
    have l := ra.length
    rw [List.size_toArray, ← l]
    simp
    rw [Bool.eq_iff_iff]
    simp
  rw [e]
  exact ⟨.bl _, H, I, rfl, q⟩
end L2


/-! Own: sorted(t) of a tuple of texts -/
namespace L2
open PySem PySem.Spec PyProof.Rows
section
variable {prog : Program} {w : World} {A : Around} {E : Value → Shared → Prop} {s : Shared}
theorem collect_tupleT {l : Addr} {vs : List Value} {Q : List Value → Shared → Prop} (hl : IsTup s.heap l vs.toArray)
    (h : Q vs { s with heap := (s.heap.push (seqObj "list" #[] 0)).update s.heap.objs.size (Obj.mapSeq (· ++ vs.toArray)) }) (hsz : vs.length ≤ sizeLine) :
    wpAny (model prog w) A (collect (.ref l)) Q E s := by
  obtain ⟨o, ho, hc, n, hd⟩ := id hl
  unfold collect
  refine wpAny_bind (wpAny_runValue (codeAny_builtin entry_proto_collect' ?_))
  show wpAny _ _ (do again (.builtin "list.__iadd__" ⟨[← newList [], .ref l], []⟩)) _ _ s
  refine wpAny_bind (wpAny_newList (wpAny_pure ⟨Code.quiet_builtin _ (by decide +kernel), codeAny_builtin entry_list_iadd' ?_⟩))
  show wpAny _ _ (Builtin.List.listExtendWith (.ref s.heap.objs.size) (.ref l) (.ref s.heap.objs.size)) _ _ { s with heap := s.heap.push (seqObj "list" #[] 0) }
  unfold Builtin.List.listExtendWith
  have ho' : (s.heap.push (seqObj "list" #[] 0)).get? l = some o := Heap.get?_push_of_some _ ho
  refine wpAny_bind (wpAny_typeOf (T := "tuple") ⟨o, ho', hc⟩ ?_)
  have ht : (Value.type "tuple" == Value.type "tuple") = true := by rfl
  rw [if_pos (by rw [ht]; simp)]
  refine wpAny_bind (listItems_at ho' hd ?_)
  refine wpAny_bind (listItems_at (xs := #[]) (n := 0) (Heap.get?_push_size _ rfl) rfl ?_)
  rw [if_neg (by simp)]
  refine wpAny_bind (listUpdate_at (xs := #[]) (n := 0) (Heap.get?_push_size _ rfl) rfl ?_ (Nat.zero_le _) (by show (#[] ++ vs.toArray).size ≤ sizeLine + 1; simp only [Array.size_append, List.size_toArray, List.length_nil]; omega))
  refine wpAny_pure ?_
  show wpAny (model prog w) A (do
      let o ← load s.heap.objs.size
      match o.data with
      | .seq xs _ => pure xs.toList
      | _ => unsupported "internal:collect") Q E { s with heap := (s.heap.push (seqObj "list" #[] 0)).update s.heap.objs.size (Obj.mapSeq (· ++ vs.toArray)) }
  refine wpAny_bind (wpAny_load (get?_update_seq (Heap.get?_push_size _ rfl) _) ?_)
  show wpAny _ _ (pure ((#[] : Array Value) ++ vs.toArray).toList) Q E _
  rw [show ((#[] : Array Value) ++ vs.toArray).toList = vs by simp]
  exact wpAny_pure h
theorem sortedT_K {κ : KeyKind} (hO : κ.OneLt) {l : Addr} {vs : List Value} {Q : Value → Shared → Prop} (hl : IsTup s.heap l vs.toArray) (h0 : KeysOf κ (pairsOf vs)) (hkk : ∀ v₁ v₂ rest, vs = v₁ :: v₂ :: rest → keyKind' (v₁ :: v₂ :: rest).toArray = pure oneType') (h64 : vs.length < 64)
    (h : ∀ st' : SortSt, (arrOf st').Perm (pairsOf vs) → SortedToK κ (arrOf st') (pairsOf vs).size → Q (.ref (s.heap.objs.size + 1)) { s with heap := sortedAll s.heap vs ((arrOf st').map (·.2)) }) :
    wpAny (model prog w) A (call (.builtin "sorted") [.ref l]) Q E s := by
  refine Calls.call_function_entry kind_sorted plain_sorted entry_sorted (args_sorted1 _) ?_
  unfold Builtin.«sorted»
  refine wpAny_bind (m := checkCount "sorted" 1 1 _) (wpAny_pure ?_)
  refine wpAny_bind (collect_tupleT hl ?_ (by rw [sizeLine_eq]; omega))
  refine wpAny_bind (wpAny_newList ?_)
  have hsz : ((s.heap.push (seqObj "list" #[] 0)).update s.heap.objs.size (Obj.mapSeq (· ++ vs.toArray))).objs.size = s.heap.objs.size + 1 := by
    rw [Heap.size_update, size_push']
  have hoL : (((s.heap.push (seqObj "list" #[] 0)).update s.heap.objs.size (Obj.mapSeq (· ++ vs.toArray))).push (seqObj "list" vs.toArray 0)).get? (s.heap.objs.size + 1) = some (seqObj "list" vs.toArray 0) := by
    rw [← hsz]; exact Heap.get?_push_size _ rfl
  show wpAny _ _ _ _ _ { s with heap := ((s.heap.push (seqObj "list" #[] 0)).update s.heap.objs.size (Obj.mapSeq (· ++ vs.toArray))).push (seqObj "list" vs.toArray 0) }
  rw [hsz]
  refine wpAny_bind (wpAny_holding (wpAny_call_entry slot_list_sort ⟨_, hoL, rfl⟩ entry_list_sort (list_sort_treeK hO hoL h0 hkk h64 fun st' a1 a2 => ⟨_, rfl, ?_⟩) (args_list_sort _)))
  exact wpAny_pure ⟨_, rfl, h st' a1 a2⟩
end
def rSortedT (K : PySem.W.Frag) : List V → Hp → VK → Prop := fun vs H Q => ∃ (a : Addr) (xs : List Str), vs = [V.ref a] ∧ SqT K H a (xs.map V.str) ∧ xs.length < 64 ∧
  ∀ (ys : List Str) (p : Addr), ys.Perm xs → sortedS ys = true → H p = none → Q (.ref p) (upd H p (.lst (ys.map V.str)))
theorem cr_sortedT {X : Cx} : CallR X (.builtin "sorted") (rSortedT X.K) := by
  intro pins s σ H vs us Q I r h
  obtain ⟨a, xs, rfl, hs, h64, q⟩ := h
  obtain ⟨its, rv, hl, _⟩ := I.tuple hs
  rw [Vals.ref1 r]
  have hlen0 := rv.length
  rw [List.length_map] at hlen0
  have hS := rv.strs
  refine sortedT_K strKind_oneLt hl hS.keysOf (fun v₁ v₂ rest e => keyKind_strs (by rw [← e]; exact hS)) (by rw [← hlen0]; exact h64) fun st' hp hss => ?_
  obtain ⟨ys, h1, h2, h3⟩ := sorted_out_str hS hp hss
  obtain ⟨ep, he'⟩ := PyProof.Rows.sortedAll_at s.heap its ((arrOf st').map (·.2))
  have hlen : (ys.map V.str).length ≤ sizeLine := by rw [List.length_map, h2.length_eq]; exact small64 h64
  exact ⟨.ref _, upd H (s.heap.objs.size + 1) (.lst (ys.map V.str)), I.laid (t' := s.toks) (fun _ _ => PyProof.Rows.sortedAll_old) (Nat.le_succ _) ⟨hlen, ((arrOf st').map (·.2)).toList, ep, vals_of_strs h1, he'⟩, rfl, q ys _ h2 h3 (I.hok.fresh (Nat.le_succ _))⟩
/-- sorted(x) of a list or a tuple of texts -/
def rSortedLT (K : PySem.W.Frag) : List V → Hp → VK → Prop := fun vs H Q => ∃ (a : Addr) (xs : List Str), vs = [V.ref a] ∧ (SqL K H a (xs.map V.str) ∨ SqT K H a (xs.map V.str)) ∧ xs.length < 64 ∧
  ∀ (ys : List Str) (p : Addr), ys.Perm xs → sortedS ys = true → H p = none → Q (.ref p) (upd H p (.lst (ys.map V.str)))
theorem cr_sortedLT {X : Cx} : CallR X (.builtin "sorted") (rSortedLT X.K) := fun pins s σ H vs us Q I r ⟨a, xs, e, hs, h64, q⟩ =>
  hs.elim (fun h => cr_sortedS pins s σ H vs us Q I r ⟨a, xs, e, h, h64, q⟩) fun h => cr_sortedT pins s σ H vs us Q I r ⟨a, xs, e, h, h64, q⟩
end L2


namespace FT
open PySem L2
/-- the i-th statement of the row's text -/
def top (i : Nat) : Stmt := PySem.Challenge.pw_flagtrees_k29_pins.main.body.getD i (.Pass ⟨0, 0, 0, 0⟩)
abbrev s_InvalidForest___init__ : Stmt := inClass (top 2) 0
abbrev s_UnknownName___init__ : Stmt := inClass (top 3) 0
abbrev s_InvalidUsers___init__ : Stmt := inClass (top 4) 0
abbrev s_InvalidSizes___init__ : Stmt := inClass (top 5) 0
abbrev s_InvalidPlace___init__ : Stmt := inClass (top 6) 0
abbrev s_UnknownUser___init__ : Stmt := inClass (top 7) 0
abbrev s_Mismatch___init__ : Stmt := inClass (top 8) 0
abbrev s_InvalidNumber___init__ : Stmt := inClass (top 9) 0
abbrev s_NotBest___init__ : Stmt := inClass (top 10) 0
abbrev s_InvalidLists___init__ : Stmt := inClass (top 11) 0
abbrev s_NeedsMemory___init__ : Stmt := inClass (top 12) 0
abbrev s_InvalidLimits___init__ : Stmt := inClass (top 13) 0
abbrev s_TooMany___init__ : Stmt := inClass (top 14) 0
abbrev s_InvalidPin___init__ : Stmt := inClass (top 15) 0
abbrev s_Crowded___init__ : Stmt := inClass (top 16) 0
abbrev s_InvalidCommand___init__ : Stmt := inClass (top 17) 0
abbrev s_InvalidJournal___init__ : Stmt := inClass (top 18) 0
abbrev s_InvalidText___init__ : Stmt := inClass (top 19) 0
abbrev s_is_name : Stmt := top 23
abbrev s_is_user_number : Stmt := top 25
abbrev s_Pin___init__ : Stmt := inClass (top 26) 0
abbrev s_Pin_told : Stmt := inClass (top 26) 1
abbrev s_Pin_allows : Stmt := inClass (top 26) 2
abbrev s_Pin___eq__ : Stmt := inClass (top 26) 3
abbrev s_Pin_of : Stmt := inClass (top 26) 4
abbrev s_Must___init__ : Stmt := inClass (top 27) 0
abbrev s_Must_told : Stmt := inClass (top 27) 1
abbrev s_Must_allows : Stmt := inClass (top 27) 2
abbrev s_Never___init__ : Stmt := inClass (top 28) 0
abbrev s_Never_told : Stmt := inClass (top 28) 1
abbrev s_Never_allows : Stmt := inClass (top 28) 2
abbrev s_Stay_told : Stmt := inClass (top 29) 0
abbrev s_Stay_allows : Stmt := inClass (top 29) 1
abbrev s__law_begin : Stmt := top 31
abbrev s__law_take : Stmt := top 32
abbrev s__law_pick : Stmt := top 33
abbrev s__law_names : Stmt := top 34
abbrev s__law_parents : Stmt := top 35
abbrev s__law_path : Stmt := top 36
abbrev s__law_places : Stmt := top 37
abbrev s__law_spots : Stmt := top 38
abbrev s__law_sizes : Stmt := top 39
abbrev s__law_rooms : Stmt := top 40
abbrev s__law_allows : Stmt := top 41
abbrev s__law_apart : Stmt := top 42
abbrev s__law_costs : Stmt := top 43
abbrev s__law_bound : Stmt := top 44
abbrev s__law_too_many : Stmt := top 45
abbrev s__law_tolds : Stmt := top 46
abbrev s__law_pin : Stmt := top 47
abbrev s__law_error : Stmt := top 48
abbrev s__law_is_told : Stmt := top 49
abbrev s__law_changed : Stmt := top 50
abbrev s__law_allowed_right : Stmt := top 51
abbrev s__law_made_right : Stmt := top 52
abbrev s_law : Stmt := top 53
end FT


/-! y = {k: v for ..}, y a local; an expression whose answer is locked -/
namespace L2
open PySem PySem.Spec PyProof.Rows
section
variable {X : Cx} {i : Nat} {y : Str} {py : Pos} {kx vx tg iter : Expr} {ifs : List Expr} {scope : Scope} {own : List (Str × Nat)} {pos spos : Pos} {wi : TI} {g : TG} {tt : TT} {tk tv : TE}
/-- e, its answer locked from then on -/
def tLk (te : TE) : TE := fun σ H Q => te σ H fun x H1 => ∃ d u, x = .ref d ∧ H1 d = some u ∧ Mut (some u) ∧ ∀ od, Q (.ref d) (upd H1 d (.frz od u))
end
end L2


/-! raise C(..) where C's own __init__ writes no attribute -/
namespace L2
open PySem PySem.Spec PyProof.Rows
section
variable {X : Cx} {o e : Expr} {es : List Expr} {to te : TE} {ta : TA} {f : Str} {p p' p1 p2 pos : Pos}
/-- C(e, ..), C's own __init__ keeping sp; no attribute is written -/
def tMkO0 (C : Addr) (sp : Sp) (dvs : List V) (ta : TA) : St → Hp → XK → Prop := fun σ H Q => ta σ H fun vs H1 => vs.length ≤ 1000 ∧ ∀ a, H1 a = none → sp (.ref a :: (vs ++ dvs)) (upd H1 a (exo a C none))
  (fun v H2 => v = .non ∧ H2 a = some (exo a C none) ∧ Q (.ref C) none (del H2 a)) (fun _ _ _ => False)
variable {CX : CXT} {x : Str} {C fI : Addr} {k : Nat} {fd : FuncData} {ps : List Str} {sp : Sp} {ds : List Value} {dvs : List V}
end
end L2


/-! sorted(a dict of texts, key=a lambda of one parameter that gives (int, text)) -/
namespace SrtKy
open PySem PyProof.Rows Srt SrtO
/-- a tuple of a number and a text -/
def IsIS (h : Heap) (v : Value) (x : Int) (z : Str) : Prop := ∃ a o t u n, v = .ref a ∧ h.get? a = some o ∧ o.cls = .type "tuple" ∧ o.data = .seq #[.int x t, .str z u] n
theorem IsIS.keeps {h h' : Heap} {v : Value} {x : Int} {z : Str} (p : IsIS h v x z) (k : ∀ b o, h.get? b = some o → o.cls = .type "tuple" → h'.get? b = some o) : IsIS h' v x z := by
  obtain ⟨a, o, t, u, n, e, ho, hc, hd⟩ := p
  exact ⟨a, o, t, u, n, e, k _ _ ho hc, hc, hd⟩
def isLt (p q : Int × Str) : Bool := if p.1 = q.1 then decide (p.2.cps.toList < q.2.cps.toList) else decide (p.1 < q.1)
section
variable {prog : Program} {w : World} {s : Shared} {A : Around} {E : Value → Shared → Prop}
end
end SrtKy


namespace L2
open PySem PySem.Spec PyProof.Rows
section
variable {X : Cx} {pins : List (Addr × Obj)} {σ : St} {H : Hp} {s : Shared} {h' : Heap}
/-- no cell of ours is a list -/
theorem Inv.nocell {a : Addr} {u : Obj} (I : Inv X pins σ H s) (h : s.heap.get? a = some u) (d : ∀ v, u.data ≠ .cell v) : ∀ x c, X.env.cells.lookup x = some c → c ≠ a := fun x c e z => by
  obtain ⟨v, o, ho, hd⟩ := I.cell x c e
  rw [z, h] at ho
  cases ho
  exact d _ hd
end
/-- what the keys of the first items are -/
def KysAt (H : Hp) (key : V → Int × Str) (xs : List V) (kA : List Value) : Prop := ∀ (j : Nat) (kv : Value), kA[j]? = some kv → ∃ (t : Addr) (x : V), kv = Value.ref t ∧ xs[j]? = some x ∧ H t = some (.tup [.int (key x).1, .str (key x).2])
theorem KysAt.up {H H' : Hp} {key : V → Int × Str} {xs : List V} {kA : List Value} (h : KysAt H key xs kA) (t : ∀ b ys, H b = some (.tup ys) → H' b = some (.tup ys)) : KysAt H' key xs kA := fun j kv e => by
  obtain ⟨a, x, e1, e2, e3⟩ := h j kv e
  exact ⟨a, x, e1, e2, t _ _ e3⟩
theorem KysAt.snoc {H : Hp} {key : V → Int × Str} {xs : List V} {kA : List Value} {t : Addr} {x : V} (h : KysAt H key xs kA) (hx : xs[kA.length]? = some x) (ht : H t = some (.tup [.int (key x).1, .str (key x).2])) : KysAt H key xs (kA ++ [.ref t]) := fun j kv e => by
  by_cases hj : j < kA.length
  · rw [List.getElem?_append_left hj] at e
    exact h j kv e
  · rw [List.getElem?_append_right (by omega)] at e
    have h0 : j - kA.length = 0 := by
      have := (List.getElem?_eq_some_iff.mp e).1
      rw [List.length_singleton] at this
      omega
    rw [h0] at e
    have e' : Value.ref t = kv := Option.some.inj e
    have : j = kA.length := by omega
    subst this
    exact ⟨t, x, e'.symm, hx, ht⟩
/-- the key that stands at an address -/
def keyOfL (H : Hp) : Value → Int × Str
  | .ref t => match H t with
    | some (.tup [.int n, .str z]) => (n, z)
    | _ => (0, "")
  | _ => (0, "")
theorem keyOfL_at {H : Hp} {t : Addr} {n : Int} {z : Str} (h : H t = some (.tup [.int n, .str z])) : keyOfL H (.ref t) = (n, z) := by
  show (match H t with
    | some (.tup [.int n, .str z]) => (n, z)
    | _ => ((0 : Int), ("" : Str))) = (n, z)
  rw [h]
theorem KysAt.is {X : Cx} {pins : List (Addr × Obj)} {σ : St} {H : Hp} {s : Shared} {key : V → Int × Str} {xs : List V} {kA : List Value} (I : Inv X pins σ H s) (h : KysAt H key xs kA) : ∀ v ∈ kA, SrtKy.IsIS s.heap v (keyOfL H v).1 (keyOfL H v).2 := fun v hv => by
  obtain ⟨j, hj⟩ := List.mem_iff_getElem?.mp hv
  obtain ⟨t, x, rfl, _, e⟩ := h j v hj
  rw [keyOfL_at e]
  obtain ⟨_, its, r, o, ho, hc, n, hd⟩ := I.hok _ _ e
  obtain ⟨u1, u2, rfl, ri, rj⟩ := vals2 r
  obtain ⟨t1, rfl⟩ := ri
  obtain ⟨t2, rfl⟩ := rj
  exact ⟨t, o, t1, t2, n, rfl, ho, hc, hd⟩
section
variable {X : Cx} {pins : List (Addr × Obj)} {σ : St} {H : Hp} {s : Shared}
end
end L2


namespace L2
open PySem PySem.Spec PyProof.Rows LamX NdefX
/-- all that was told stays -/
def HKeep (H H' : Hp) : Prop := ∀ b o, H b = some o → H' b = some o
/-- the lambda as a function of the layer (its body is an expression: none of the statements' field is read) -/
def lamF (X : Cx) (params : Arguments) (scope : Scope) (c' : Addr) : NF := ⟨"<lambda>", X.env.qual ++ "<lambda>", params, [], scope, cloFrom X.env.cells scope.names [], c'⟩
/-- sorted(e, key=lambda ..): js: where the captured names stand among ours -/
def tSortLam (T : List (Addr × Str)) (q : Str) (N : List Str) (js : List Nat) (ta : TA) (tb : TE) : TE := fun σ H Q => ta σ H fun vs H1 => ∃ x : V, vs = [x] ∧ Tabs T H1 ∧ ∀ (c' : Addr) (H2 : Hp), ExtN H1 H2 → Tabs T H2 → H2 c' = some (CodeO c' q) →
  ∃ (a : Addr) (kvs : List (Key × V)) (ks : List Str) (key : Str → Int × Str), x = .ref a ∧ Rd H2 a (.dK kvs) ∧ kvs.map (·.1) = ks.map Sum.inr ∧ ks.length ≤ sizeLine ∧
    (∀ k ∈ ks, ∀ H, HKeep H2 H → tb (startF N [.str k] (js.map (NdefX.slotAt σ))) H fun v H3 => HKeep H H3 ∧ ∃ t, v = .ref t ∧ H3 t = some (.tup [.int (key k).1, .str (key k).2])) ∧
    ∀ (ys : List Str) (H3 : Hp) (p : Addr), ys.Perm ks → ys.Pairwise (fun x y => SrtKy.isLt (key y) (key x) = false) → HKeep H2 H3 → H3 p = none → Q (.ref p) (upd H3 p (.lst (ys.map V.str)))
section
variable {X : Cx}
end
end L2


/-! heaps, lists, texts: what all the laws' proofs share. -/
namespace FT
open PySem L2 TL
abbrev Same (H H' : Hp) : Prop := ∀ b o, H b = some o → H' b = some o
theorem Same.refl {H : Hp} : Same H H := fun _ _ e => e
theorem Same.trans {H H1 H2 : Hp} (a : Same H H1) (b : Same H1 H2) : Same H H2 := fun x o e => b x o (a x o e)
theorem Same.free {H H' : Hp} {p : Addr} (s : Same H H') (n : H' p = none) : H p = none := by
  cases e : H p with
  | none => rfl
  | some o =>
    rw [s p o e] at n
    cases n
theorem Same.sql {K : PySem.W.Frag} {H H' : Hp} {a : Addr} {xs : List V} (e : Same H H') (h : SqL K H a xs) : SqL K H' a xs := by
  rcases h with (h | ⟨o, h⟩) | h
  · exact .inl (.inl (e _ _ h))
  · exact .inl (.inr ⟨o, e _ _ h⟩)
  · exact .inr h
theorem Same.sqt {K : PySem.W.Frag} {H H' : Hp} {a : Addr} {xs : List V} (e : Same H H') (h : SqT K H a xs) : SqT K H' a xs := by
  rcases h with (h | ⟨o, h⟩) | h
  · exact .inl (.inl (e _ _ h))
  · exact .inl (.inr ⟨o, e _ _ h⟩)
  · exact .inr h
theorem same_new {H : Hp} {p : Addr} {o : HO} (n : H p = none) : Same H (upd H p o) := fun b u e => by
  rw [upd_ne (ne_of_none e n)]
  exact e
theorem Same.put {H H' : Hp} {p : Addr} {o : HO} (s : Same H H') (n : H p = none) : Same H (upd H' p o) := fun b u e => by
  rw [upd_ne (ne_of_none e n)]
  exact s b u e
/-- what the text finds among the module's names -/
structure Nm (mg : Str → Option Value) : Prop where
  abs : mg "abs" = none
  len : mg "len" = none
  rng : mg "range" = none
  enu : mg "enumerate" = none
  zip : mg "zip" = none
  isi : mg "isinstance" = none
  all : mg "all" = none
  srt : mg "sorted" = none
  lst : mg "list" = none
  dct : mg "dict" = none
  str : mg "str" = none
  int : mg "int" = none
  tup : mg "tuple" = none
  sum : mg "sum" = none
  min : mg "min" = none
  max : mg "max" = none
  rep : mg "repr" = none
  bool : mg "bool" = none
  any : mg "any" = none
  vE : mg "ValueError" = none
theorem take_more {α : Type} {l : List α} {i : Nat} {x : α} (h : l[i]? = some x) : l.take (i + 1) = l.take i ++ [x] := by
  rw [List.take_succ, h] <;> rfl
theorem cut_take {xs : List V} {j : Nat} (h : j ≤ xs.length) : cutV xs none (some (j : Int)) = xs.take j := by
  have e : HT.sIx xs.length xs.length (some (j : Int)) = min j xs.length := HT.sIx_nat _ _ j
  show (xs.drop 0).take (HT.sIx xs.length xs.length (some (j : Int)) - 0) = xs.take j
  rw [e, List.drop_zero, Nat.sub_zero, Nat.min_eq_left h]
theorem map_at {α : Type} {f : α → V} {cells : List α} {j : Nat} {z : α} (h : cells[j]? = some z) : (cells.map f)[j]? = some (f z) := by
  rw [List.getElem?_map, h] <;> rfl
theorem map_of {α : Type} {f : α → V} {l : List α} {j : Nat} {x : V} (h : (l.map f)[j]? = some x) : ∃ z, l[j]? = some z ∧ x = f z := by
  rw [List.getElem?_map] at h
  obtain ⟨z, hz, rfl⟩ := Option.map_eq_some_iff.mp h
  exact ⟨z, hz, rfl⟩
theorem ixN_nat {n j : Nat} (h : j < n) : ixN n (j : Int) = some j := by
  unfold ixN
  rw [if_pos (by omega), if_pos (by omega)]
  simp
/-- how many items stand there -/
def many (H : Hp) (a : Addr) : Nat := match H a with
  | some (.lst xs) => xs.length
  | _ => 0
theorem inV_strs (x : Str) : ∀ fs : List Str, inV (.str x) (fs.map V.str) = decide (x ∈ fs)
  | [] => rfl
  | y :: fs => by
    show (eqV (.str y) (.str x) || inV (.str x) (fs.map V.str)) = _
    rw [inV_strs x fs]
    have e : eqV (.str y) (.str x) = decide (x = y) := by
      show (y == x) = decide (x = y)
      rw [Bool.eq_iff_iff, beq_iff_eq, decide_eq_true_eq]
      exact eq_comm
    rw [e, Bool.eq_iff_iff]
    simp only [Bool.or_eq_true, decide_eq_true_eq, List.mem_cons]
theorem flat_strs : ∀ fs : List Str, (fs.map V.str).all flatV = true
  | [] => rfl
  | _ :: fs => flat_strs fs
/-! ### texts -/
/-- a name: letters, one to eight, not self -/
def NameL (z : Str) : Prop := (∀ c ∈ tl z, 97 ≤ c ∧ c ≤ 122) ∧ 1 ≤ (tl z).length ∧ (tl z).length ≤ 8 ∧ z ≠ "self"
instance (z : Str) : Decidable (NameL z) := by unfold NameL; infer_instance
theorem NameL.len {z : Str} (h : NameL z) : 1 ≤ z.length ∧ z.length ≤ 8 := by
  rw [len_tl]
  exact ⟨h.2.1, h.2.2.1⟩
theorem NameL.self {z : Str} (h : NameL z) : z ≠ "self" := h.2.2.2
theorem NameL.ne {z : Str} (h : NameL z) : z ≠ "" := fun e => by
  subst e
  have := h.2.1
  revert this
  decide +kernel
theorem strOk_name {z : Str} (h : NameL z) : PyData.strOk z = true := by
  unfold PyData.strOk
  simp only [Bool.and_eq_true, decide_eq_true_eq, Array.all_eq_true_iff_forall_mem]
  intro c hc
  have := h.1 c (Array.mem_toList_iff.mpr hc)
  omega
/-! ### order -/
theorem rising_all : ∀ (l : List Str) (p : Str), PyProof.Rows.risingS p l = true → (∀ y ∈ l, tl p ≤ tl y) ∧ l.Pairwise (fun a b => tl a ≤ tl b)
  | [], p, _ => ⟨fun y h => (by cases h), List.Pairwise.nil⟩
  | x :: r, p, h => by
    have h' : (!PySem.Spec.ltCps x.cps.toList p.cps.toList && PyProof.Rows.risingS x r) = true := h
    rw [Bool.and_eq_true, PyProof.Rows.ltCps_eq] at h'
    obtain ⟨h1, h2⟩ := h'
    have px : tl p ≤ tl x := by
      show ¬ (tl x < tl p)
      intro z
      rw [decide_eq_true z] at h1
      cases h1
    obtain ⟨i1, i2⟩ := rising_all r x h2
    refine ⟨fun y hy => ?_, List.pairwise_cons.mpr ⟨i1, i2⟩⟩
    rcases List.mem_cons.mp hy with rfl | hy
    · exact px
    · exact List.le_trans px (i1 y hy)
theorem sorted_pw {l : List Str} (h : PyProof.Rows.sortedS l = true) : l.Pairwise (fun a b => tl a ≤ tl b) := by
  cases l with
  | nil => exact .nil
  | cons x r =>
    obtain ⟨i1, i2⟩ := rising_all r x h
    exact List.pairwise_cons.mpr ⟨i1, i2⟩
/-- one order of the same texts -/
theorem sorted_one {l m : List Str} (p : l.Perm m) (hl : PyProof.Rows.sortedS l = true) (hm : PyProof.Rows.sortedS m = true) : l = m :=
  List.Perm.eq_of_pairwise (le := fun a b => tl a ≤ tl b) (fun a b _ _ h1 h2 => ext_tl (List.le_antisymm h1 h2)) (sorted_pw hl) (sorted_pw hm) p
/-! ### comprehensions of dicts, locks -/
/-! ### dicts with text keys, by any values -/
/-- a dict of values by texts -/
def kvT (t : List (Str × V)) : List (Key × V) := t.map fun p => (Sum.inr p.1, p.2)
theorem kvT_len (t : List (Str × V)) : (kvT t).length = t.length := by unfold kvT; rw [List.length_map]
theorem kvT_app (t : List (Str × V)) (f : Str) (z : V) : kvT t ++ [(Sum.inr f, z)] = kvT (t ++ [(f, z)]) := by
  unfold kvT
  rw [List.map_append] <;> rfl
theorem kvT_any (t : List (Str × V)) (f : Str) : ((kvT t).any fun kv => decide (kv.1 = Sum.inr f)) = decide (f ∈ t.map Prod.fst) := by
  induction t with
  | nil => rfl
  | cons p t ih =>
    show (decide ((Sum.inr p.1 : Key) = Sum.inr f) || ((kvT t).any fun kv => decide (kv.1 = Sum.inr f))) = _
    rw [ih, Bool.eq_iff_iff]
    simp only [Bool.or_eq_true, decide_eq_true_eq, List.map_cons, List.mem_cons]
    constructor
    · rintro (h | h)
      · exact .inl (Sum.inr.inj h).symm
      · exact .inr h
    · rintro (h | h)
      · exact .inl (by rw [h])
      · exact .inr h
theorem kvT_put {t : List (Str × V)} {f : Str} {z : V} (n : f ∉ t.map Prod.fst) : putK (kvT t) (Sum.inr f) z = kvT (t ++ [(f, z)]) := by
  unfold putK
  rw [kvT_any, decide_eq_false n, if_neg (by decide), kvT_app]
/-- the value of a key -/
def look (t : List (Str × V)) (f : Str) : Option V := (t.find? fun p => decide (p.1 = f)).map Prod.snd
theorem look_cons (p : Str × V) (t : List (Str × V)) (f : Str) : look (p :: t) f = if p.1 = f then some p.2 else look t f := by
  unfold look
  rw [List.find?_cons]
  by_cases e : p.1 = f
  · rw [if_pos e, decide_eq_true e] <;> rfl
  · rw [if_neg e, decide_eq_false e]
theorem kvT_val : ∀ (t : List (Str × V)) (f : Str), valV (kvT t) (Sum.inr f) = look t f
  | [], f => rfl
  | p :: t, f => by
    rw [look_cons]
    by_cases e : p.1 = f
    · rw [if_pos e]
      exact valV_pos (by show (Sum.inr p.1 : Key) = Sum.inr f; rw [e])
    · rw [if_neg e]
      exact (valV_neg (p := (Sum.inr p.1, p.2)) (fun z => e (Sum.inr.inj z))).trans (kvT_val t f)
/-- a key's value, written anew -/
def putT (t : List (Str × V)) (f : Str) (z : V) : List (Str × V) := if f ∈ t.map Prod.fst then t.map fun p => if p.1 = f then (p.1, z) else p else t ++ [(f, z)]
end FT


/-! forests as pairs of a flag and its parent, in any order. -/
namespace FT
open PySem L2 TL
/-- a dict of texts by texts -/
def prs (t : List (Str × Str)) : List (Key × V) := kvT (t.map fun p => (p.1, V.str p.2))
theorem prs_len (t : List (Str × Str)) : (prs t).length = t.length := by unfold prs; rw [kvT_len, List.length_map]
theorem prs_fst (t : List (Str × Str)) : (t.map fun p => (p.1, V.str p.2)).map Prod.fst = t.map Prod.fst := by rw [List.map_map] <;> rfl
theorem prs_keys (t : List (Str × Str)) : (prs t).map (·.1) = (t.map Prod.fst).map Sum.inr := by unfold prs kvT; rw [List.map_map, List.map_map, List.map_map] <;> rfl
theorem put_new {t : List (Str × Str)} {f z : Str} (n : f ∉ t.map Prod.fst) : putK (prs t) (Sum.inr f) (V.str z) = prs (t ++ [(f, z)]) := by
  unfold prs
  rw [kvT_put (by rw [prs_fst]; exact n), List.map_append] <;> rfl
/-- the parent of a flag -/
def par (t : List (Str × Str)) (a : Str) : Option Str := (t.find? fun p => decide (p.1 = a)).map Prod.snd
theorem par_cons (p : Str × Str) (t : List (Str × Str)) (a : Str) : par (p :: t) a = if p.1 = a then some p.2 else par t a := by
  unfold par
  rw [List.find?_cons]
  by_cases e : p.1 = a
  · rw [if_pos e, decide_eq_true e] <;> rfl
  · rw [if_neg e, decide_eq_false e]
theorem val_prs (a : Str) : ∀ t : List (Str × Str), valV (prs t) (Sum.inr a) = (par t a).map V.str
  | [] => rfl
  | p :: t => by
    have ih := val_prs a t
    unfold prs at ih ⊢
    rw [List.map_cons, kvT_val, look_cons, par_cons]
    rw [kvT_val] at ih
    by_cases e : p.1 = a
    · rw [if_pos e, if_pos e] <;> rfl
    · rw [if_neg e, if_neg e, ih]
theorem par_mem {t : List (Str × Str)} {a z : Str} (h : par t a = some z) : (a, z) ∈ t := by
  induction t with
  | nil => cases h
  | cons p t ih =>
    rw [par_cons] at h
    by_cases e : p.1 = a
    · rw [if_pos e] at h
      cases h
      exact List.mem_cons.mpr (.inl (by rw [← e]))
    · rw [if_neg e] at h
      exact List.mem_cons_of_mem _ (ih h)
theorem par_of {t : List (Str × Str)} {a z : Str} (nd : (t.map Prod.fst).Nodup) (h : (a, z) ∈ t) : par t a = some z := by
  induction t with
  | nil => cases h
  | cons p t ih =>
    obtain ⟨n1, n2⟩ := List.nodup_cons.mp nd
    rw [par_cons]
    rcases List.mem_cons.mp h with e | h
    · subst e
      exact if_pos rfl
    · rw [if_neg fun e => n1 (by rw [e]; exact List.mem_map.mpr ⟨_, h, rfl⟩)]
      exact ih n2 h
theorem par_some {t : List (Str × Str)} {a : Str} (nd : (t.map Prod.fst).Nodup) (h : a ∈ t.map Prod.fst) : ∃ z, par t a = some z := by
  obtain ⟨p, hp, rfl⟩ := List.mem_map.mp h
  exact ⟨p.2, par_of nd hp⟩
/-- each parent has a lower rank -/
def Rk (t : List (Str × Str)) (rk : Str → Nat) : Prop := ∀ p ∈ t, rk p.1 < t.length ∧ (p.2 = "" ∨ (p.2 ∈ t.map Prod.fst ∧ rk p.2 < rk p.1))
/-- a forest of one to twelve flags -/
structure TreeOk (t : List (Str × Str)) : Prop where
  one : 1 ≤ t.length
  few : t.length ≤ 12
  nd : (t.map Prod.fst).Nodup
  nm : ∀ z ∈ t.map Prod.fst, NameL z
  up : ∃ rk : Str → Nat, Rk t rk
theorem TreeOk.root {t : List (Str × Str)} (o : TreeOk t) : ("" : Str) ∉ t.map Prod.fst := fun h => (o.nm _ h).ne rfl
/-- the step up -/
theorem TreeOk.step {t : List (Str × Str)} (o : TreeOk t) {rk : Str → Nat} (r : Rk t rk) {a : Str} (h : a ∈ t.map Prod.fst) : ∃ p : Str, par t a = some p ∧ (p = "" ∨ (p ∈ t.map Prod.fst ∧ rk p < rk a)) ∧ rk a < t.length := by
  obtain ⟨z, hz⟩ := par_some o.nd h
  obtain ⟨h1, h2⟩ := r _ (par_mem hz)
  exact ⟨z, hz, h2, h1⟩
/-! ### paths -/
/-- the flags from the top down to a place; n bounds the steps -/
def upN (t : List (Str × Str)) : Nat → Str → List Str
  | 0, _ => []
  | n + 1, a => if a = "" then [] else upN t n ((par t a).getD "") ++ [a]
def pathOf (t : List (Str × Str)) (a : Str) : List Str := upN t t.length a
/-- a place: the root or a flag -/
def Pl (t : List (Str × Str)) (a : Str) : Prop := a = "" ∨ a ∈ t.map Prod.fst
theorem upN_root (t : List (Str × Str)) (n : Nat) : upN t n "" = [] := by
  cases n with
  | zero => rfl
  | succ n => exact if_pos rfl
theorem upN_eq {t : List (Str × Str)} (o : TreeOk t) {rk : Str → Nat} (r : Rk t rk) : ∀ (n m : Nat) (a : Str), Pl t a → (a ≠ "" → rk a < n) → (a ≠ "" → rk a < m) → upN t n a = upN t m a := by
  intro n
  induction n with
  | zero =>
    intro m a hp h1 h2
    by_cases e : a = ""
    · subst e
      rw [upN_root, upN_root]
    · exact absurd (h1 e) (Nat.not_lt_zero _)
  | succ n ih =>
    intro m a hp h1 h2
    by_cases e : a = ""
    · subst e
      rw [upN_root, upN_root]
    · cases m with
      | zero => exact absurd (h2 e) (Nat.not_lt_zero _)
      | succ m =>
        obtain ⟨p, ep, hp2, _⟩ := o.step r (hp.resolve_left e)
        have q1 := h1 e
        have q2 := h2 e
        show (if a = "" then [] else upN t n ((par t a).getD "") ++ [a]) = if a = "" then [] else upN t m ((par t a).getD "") ++ [a]
        rw [if_neg e, if_neg e, ep]
        show upN t n p ++ [a] = upN t m p ++ [a]
        rw [ih m p (hp2.imp id And.left) (fun z => by have := (hp2.resolve_left z).2; omega) (fun z => by have := (hp2.resolve_left z).2; omega)]
theorem path_root (t : List (Str × Str)) : pathOf t "" = [] := upN_root _ _
theorem path_step {t : List (Str × Str)} (o : TreeOk t) {a p : Str} (h : a ∈ t.map Prod.fst) (e : par t a = some p) : pathOf t a = pathOf t p ++ [a] := by
  obtain ⟨rk, r⟩ := o.up
  have ne : a ≠ "" := fun z => o.root (by rw [← z]; exact h)
  obtain ⟨p', e', hp, la⟩ := o.step r h
  cases e.symm.trans e'
  have lt := o.one
  obtain ⟨n, hn⟩ : ∃ n, t.length = n + 1 := ⟨t.length - 1, by omega⟩
  unfold pathOf
  rw [hn]
  show (if a = "" then [] else upN t n ((par t a).getD "") ++ [a]) = _
  rw [if_neg ne, e]
  show upN t n p ++ [a] = _
  rw [upN_eq o r n (n + 1) p (hp.imp id And.left) (fun z => by have := (hp.resolve_left z).2; omega) (fun z => by have := (hp.resolve_left z).2; omega)]
theorem upN_len (t : List (Str × Str)) : ∀ (n : Nat) (a : Str), (upN t n a).length ≤ n
  | 0, _ => Nat.le_refl _
  | n + 1, a => by
    show (if a = "" then [] else upN t n ((par t a).getD "") ++ [a]).length ≤ n + 1
    by_cases e : a = ""
    · rw [if_pos e]
      exact Nat.zero_le _
    · rw [if_neg e, List.length_append]
      have := upN_len t n ((par t a).getD "")
      show _ + 1 ≤ n + 1
      omega
theorem path_len (t : List (Str × Str)) (a : Str) : (pathOf t a).length ≤ t.length := upN_len _ _ _
theorem upN_all {t : List (Str × Str)} (o : TreeOk t) : ∀ (n : Nat) (a : Str), Pl t a → ∀ z ∈ upN t n a, z ∈ t.map Prod.fst
  | 0, _, _, z, h => by cases h
  | n + 1, a, hp, z, h => by
    have h' : z ∈ (if a = "" then [] else upN t n ((par t a).getD "") ++ [a]) := h
    by_cases e : a = ""
    · rw [if_pos e] at h'
      cases h'
    · rw [if_neg e] at h'
      have ha := hp.resolve_left e
      obtain ⟨rk, r⟩ := o.up
      obtain ⟨p, ep, hp2, _⟩ := o.step r ha
      rw [ep] at h'
      rcases List.mem_append.mp h' with h' | h'
      · exact upN_all o n p (hp2.imp id And.left) z h'
      · rw [List.mem_singleton.mp h']
        exact ha
theorem path_all {t : List (Str × Str)} (o : TreeOk t) {a : Str} (h : Pl t a) : ∀ z ∈ pathOf t a, z ∈ t.map Prod.fst := upN_all o _ _ h
/-! ### sums over children -/
/-- the sum of sizes of the children of a place -/
def kids (t : List (Str × Str)) (p : Str) : List Str := (t.filter fun q => decide (q.2 = p)).map Prod.fst
def resid (t : List (Str × Str)) (n : Int) (sz : Str → Int) (p : Str) : Int := (if p = "" then n else sz p) - ((kids t p).map sz).sum
end FT


namespace FT
open PySem L2 TL ClX
def letters : Str := "abcdefghijklmnopqrstuvwxyz"
theorem in_letters {c : Nat} (h0 : 97 ≤ c) (h1 : c ≤ 122) : c ∈ letters.cps.toList := by
  have all : ∀ i : Fin 26, (97 + i.1) ∈ letters.cps.toList := by decide +kernel
  have q := all ⟨c - 97, by omega⟩
  rw [show 97 + (⟨c - 97, by omega⟩ : Fin 26).1 = c by show 97 + (c - 97) = c; omega] at q
  exact q
/-- the module's own constants -/
structure Cs (mg : Str → Option Value) : Prop where
  long : ∃ t, mg "LONGEST" = some (.int 8 t)
  lett : ∃ t, mg "LETTERS" = some (.str letters t)
/-- the class Forest: its two constants -/
structure Fc (K : PySem.W.Frag) (mg : Str → Option Value) (CF : Addr) (mc : Value) : Prop where
  gF : mg "Forest" = some (.ref CF)
  rd : CRead K CF mc
  most : ∃ u, CVal K CF mc "MOST" (.int 12) u
  root : ∃ u, CVal K CF mc "ROOT" (.str "") u
/-- one of the text's defs, called by place -/
structure Dn (P : Program) (w : World) (K : PySem.W.Frag) (mg : Str → Option Value) (base : Heap) (CX : CXT) (k : Nat) (x : Str) (ps : List Str) (sp : Sp) (f : Addr) (fd : FuncData) : Prop where
  ok : FnOk P w K mg base CX k f fd ps sp
  kp : PySem.W.keepIn K (.ref f) = true
  bn : Binds K fd ps []
  mgn : mg x = some (.ref f)
def spIsName : Sp := fun vs H Q _ => ∃ z : Str, vs = [.str z] ∧ NameL z ∧ ∀ H', Same H H' → Q (.bl true) H'
def spIsAnc : Sp := fun vs H Q _ => ∃ (q : Addr) (f : Str) (t : List (Str × Str)), vs = [.ref q, .str f] ∧ H q = some (.dK (prs t)) ∧ TreeOk t ∧ f ∈ t.map Prod.fst ∧ ∀ H', Same H H' → Q (.bl false) H'
def spNeed : Sp := fun vs H Q _ => ∃ (q : Addr) (t : List (Str × Str)), vs = [.ref q] ∧ H q = some (.dK (prs t)) ∧ TreeOk t ∧ ∀ H', Same H H' → Q .non H'
section
variable {P : Program} {w : World} {K : PySem.W.Frag} {mg : Str → Option Value} {base : Heap}
theorem scIsName : FnScope ["value", "letter"] ["value"] (defScope s_is_name) := ⟨rfl, rfl, rfl, by decide +kernel, rfl, by decide +kernel, by decide +kernel⟩
def rankS (t : List (Str × Str)) (rk : Str → Nat) (σ : St) : Nat := match σ[3]? with
  | some (some (V.str a)) => if a ∈ t.map Prod.fst then rk a + 1 else 0
  | _ => 0
/-! ### Forest -/
/-- a forest at x, its pairs ts -/
def FAt (CF : Addr) (H : Hp) (x : Addr) (ts : List (Str × Str)) : Prop := ∃ dx dq, H x = some (.ins CF dx [("above", .ref dq)]) ∧ H dq = some (.dK (prs ts))
theorem FAt.mono {CF x : Addr} {H H' : Hp} {ts : List (Str × Str)} (s : Same H H') (h : FAt CF H x ts) : FAt CF H' x ts := let ⟨dx, dq, e1, e2⟩ := h; ⟨dx, dq, s _ _ e1, s _ _ e2⟩
/-- in ascending order -/
def Asc (ts : List (Str × Str)) : Prop := PyProof.Rows.sortedS (ts.map Prod.fst) = true
/-- facts of a class of the text -/
structure FoC (K : PySem.W.Frag) (CF : Addr) : Prop where
  cl : Cls K CF
  nA : NoAttr K CF "above"
def spFInit (CF : Addr) : Sp := fun vs H Q _ => ∃ (x q dx : Addr) (t : List (Str × Str)), vs = [.ref x, .ref q] ∧ H x = some (.ins CF dx []) ∧ H q = some (.dK (prs t)) ∧ TreeOk t ∧
  ∀ (H' : Hp) (ts : List (Str × Str)), ts.Perm t → Asc ts → FAt CF H' x ts → (∀ b o, b ≠ x → H b = some o → H' b = some o) → Q .non H'
def spFFlags (CF : Addr) : Sp := fun vs H Q _ => ∃ (x : Addr) (ts : List (Str × Str)), vs = [.ref x] ∧ FAt CF H x ts ∧ ∀ p, H p = none → Q (.ref p) (upd H p (.lst ((ts.map Prod.fst).map V.str)))
def spFParents (CF : Addr) : Sp := fun vs H Q _ => ∃ (x : Addr) (ts : List (Str × Str)), vs = [.ref x] ∧ FAt CF H x ts ∧ ∀ p, H p = none → Q (.ref p) (upd H p (.dK (prs ts)))
/-- a property of a class -/
structure Pr1 (P : Program) (w : World) (K : PySem.W.Frag) (mg : Str → Option Value) (base : Heap) (CF : Addr) (x : Str) (sp : Sp) (p g : Addr) (fd : FuncData) : Prop where
  pr : PropOf K CF x p g
  fn : FnOk P w K mg base CX0 1 g fd ["self"] sp
  bn : Binds K fd ["self"] []
def spPlacesOf (CF : Addr) : Sp := fun vs H Q _ => ∃ (x : Addr) (ts : List (Str × Str)), vs = [.ref x] ∧ FAt CF H x ts ∧ ts.length ≤ 12 ∧ ∀ p H', Same H H' → H p = none → H' p = some (.lst ((("" : Str) :: ts.map Prod.fst).map V.str)) → Q (.ref p) H'
end
end FT


/-! the package's errors: their __init__, how they are raised. -/
namespace FT
open PySem L2 TL ClX
/-- what the top has written of an error class at C, its __init__ at I; f its attribute, or the empty text -/
structure Er (K : PySem.W.Frag) (mg : Str → Option Value) (nm f : Str) (C I : Addr) : Prop where
  g : mg nm = some (.ref C)
  x : XCls K C
  ini : PySem.W.findIn K (.ref C) "__init__" = some (some (.ref I))
  ity : PySem.W.typeIn K (.ref I) = some (.type "function")
  no : PySem.W.findIn K (.ref C) f = some none
/-- the base class -/
structure Rt (K : PySem.W.Frag) (mg : Str → Option Value) (R : Addr) : Prop where
  g : mg "RolloutError" = some (.ref R)
  ini : XIni K R
def spInit1 (C : Addr) (f : Str) : Sp := fun vs H Q _ => ∃ (a : Addr) (v : V), vs = [.ref a, v] ∧ H a = some (exo a C none) ∧ ∀ d, H d = none → d ≠ a → Q .non (upd (upd H d (exd d [(f, v)])) a (exo a C (some d)))
def spInit0 (C : Addr) : Sp := fun vs H Q _ => ∃ (a : Addr), vs = [.ref a] ∧ H a = some (exo a C none) ∧ Q .non H
/-- C(v): what is asked -/
theorem raise1 {C : Addr} {f : Str} {H1 : Hp} {Q : XK} {v : V} (k : ∀ d, H1 d = none → Q (.ref C) (some d) (upd H1 d (.xd [(f, v)]))) :
    [v].length ≤ 1000 ∧ ∀ a, H1 a = none → spInit1 C f (.ref a :: ([v] ++ [])) (upd H1 a (exo a C none))
      (fun w H2 => w = .non ∧ ∃ (d : Addr) (fs : List (Str × V)), H2 a = some (exo a C (some d)) ∧ H2 d = some (exd d fs) ∧ H1 d = none ∧ Q (.ref C) (some d) (upd (del H2 a) d (.xd fs))) (fun _ _ _ => False) := by
  refine ⟨by show 1 ≤ 1000; omega, fun a na => ⟨a, v, rfl, upd_same, fun d nd nda => ⟨rfl, d, [(f, v)], upd_same, by rw [upd_ne nda, upd_same], ?_, ?_⟩⟩⟩
  · rw [upd_ne nda] at nd
    exact nd
  · rw [upd_ne nda] at nd
    have e : upd (del (upd (upd (upd H1 a (exo a C none)) d (exd d [(f, v)])) a (exo a C (some d))) a) d (.xd [(f, v)]) = upd H1 d (.xd [(f, v)]) := by
      funext b
      by_cases h1 : b = d
      · subst h1
        rw [upd_same, upd_same]
      · rw [upd_ne h1, upd_ne h1]
        by_cases h2 : b = a
        · subst h2
          rw [del_same, na]
        · rw [del_ne h2, upd_ne h2, upd_ne h1, upd_ne h2]
    rw [e]
    exact k d nd
/-- an error class with its __init__, as a whole: with one value -/
structure Er1 (P : Program) (w : World) (K : PySem.W.Frag) (mg : Str → Option Value) (base : Heap) (nm f : Str) (C I : Addr) (fd : FuncData) : Prop where
  e : Er K mg nm f C I
  fn : FnOk P w K mg base CX0 1 I fd ["self", f] (spInit1 C f)
  bn : Binds K fd ["self", f] []
structure Er0 (P : Program) (w : World) (K : PySem.W.Frag) (mg : Str → Option Value) (base : Heap) (nm : Str) (C I : Addr) (fd : FuncData) : Prop where
  e : Er K mg nm "" C I
  fn : FnOk P w K mg base CX0 1 I fd ["self"] (spInit0 C)
  bn : Binds K fd ["self"] []
section
variable {X : Cx} {W : WX} {nm f : Str} {C I : Addr} {fd : FuncData} {ex : Expr} {te : TE} {p pos pos2 : Pos}
/-- raise C(e) -/
theorem ps_err1 (L : Er1 X.prog X.w X.K X.mg X.base nm f C I fd) (hc : X.calm = true) (tk : Takes X W) (hr : Room 2 X.A) (hg : Gl X nm) (he : PE X ex te) (hdb : (nm == ("__debug__" : Str)) = false := by decide)
    (hse : starEach (ex :: []) X.env = (false, eval ex X.env) :: starEach [] X.env := by rfl) (hpl : (backTo pos (starEach [] X.env)).any (·.1) = false := by rfl) :
    PS X (.Raise (some (.Call (.Name nm p) [ex] [] pos)) none pos2) (fun _ σ H => tMkO C (spInit1 C f) [] (tCons te tNil) σ H fun cls d H' => W cls d σ H') :=
  ps_raise hc tk (pmk_oex L.e.x.oex L.e.ini L.e.ity L.fn hr L.bn .nil (fun _ _ _ _ _ _ _ h => h.elim) hg L.e.g (pa_cons (hs := hse) he pa_nil) hdb hse hpl)
end
end FT


namespace FT
open PySem L2 TL ClX
section
variable {P : Program} {w : World} {K : PySem.W.Frag} {mg : Str → Option Value} {base : Heap}
theorem sc_InvalidPin : FnScope ["self", "index"] ["self", "index"] (defScope s_InvalidPin___init__) := ⟨rfl, rfl, rfl, by decide +kernel, rfl, by decide +kernel, by decide +kernel⟩
theorem ok_InvalidPin {f R C I : Addr} {fd : FuncData} (F : Fun K "__init__" "InvalidPin.__init__" s_InvalidPin___init__ f fd) (T : Rt K mg R) (L : Er K mg "InvalidPin" "index" C I) : FnOk P w K mg base CX0 1 f fd ["self", "index"] (spInit1 C "index") := by
  refine F.ok sc_InvalidPin (fun vs H Q E h => ?_) (fun cdv A outer s H vs Q E hr h => ?_)
  · obtain ⟨a, v, rfl, _⟩ := h
    rfl
  · obtain ⟨a, v, rfl, ha, k⟩ := h
    refine ⟨_, pss_cons (ps_expr (pe_clsinit T.ini rfl T.g (pa_cons (pv 0) (pa_cons pe_str pa_nil)))) (pss_one (ps_ost (pv 0) (pv 1))), ?_⟩
    refine ⟨_, rfl, a, C, _, rfl, by show 1 ≤ 1000; omega, L.x.oex, ha, ?_⟩
    exact ⟨_, rfl, _, rfl, a, C, rfl, L.x.oex, L.no, .inl ⟨ha, fun d nd nda => k d nd nda⟩⟩
end
end FT


/-! data of any kind; what is raised; numbers by places -/
namespace FT
open PySem L2 TL ClX
/-! ### data of any kind -/
inductive Dat (K : PySem.W.Frag) (H : Hp) : V → String → Prop where
  | non : Dat K H .non "NoneType"
  | bl (b : Bool) : Dat K H (.bl b) "bool"
  | int (i : Int) : Dat K H (.int i) "int"
  | str (z : Str) : Dat K H (.str z) "str"
  | lst {a : Addr} {xs : List V} (h : H a = some (.lst xs)) : Dat K H (.ref a) "list"
  | tup {a : Addr} {xs : List V} (h : H a = some (.tup xs)) : Dat K H (.ref a) "tuple"
  | dct {a : Addr} {kvs : List (Key × V)} (h : H a = some (.dK kvs)) : Dat K H (.ref a) "dict"
theorem Dat.ty {K : PySem.W.Frag} {H : Hp} {v : V} {T : String} (d : Dat K H v T) : TyX K H v (.type T) := by
  cases d with
  | non => exact .base .non
  | bl b => exact .base (.bl b)
  | int i => exact .base (.int i)
  | str z => exact .base (.str z)
  | lst h => exact .base (.lst h)
  | tup h => exact .base (.tup h)
  | dct h => exact .base (.dK h)
theorem Dat.mono {K : PySem.W.Frag} {H H' : Hp} {v : V} {T : String} (s : Same H H') (d : Dat K H v T) : Dat K H' v T := by
  cases d with
  | non => exact .non
  | bl b => exact .bl b
  | int i => exact .int i
  | str z => exact .str z
  | lst h => exact .lst (s _ _ h)
  | tup h => exact .tup (s _ _ h)
  | dct h => exact .dct (s _ _ h)
def IsDat (K : PySem.W.Frag) (H : Hp) (v : V) : Prop := ∃ T, Dat K H v T
theorem IsDat.mono {K : PySem.W.Frag} {H H' : Hp} {v : V} (s : Same H H') (d : IsDat K H v) : IsDat K H' v := let ⟨T, d⟩ := d; ⟨T, d.mono s⟩
/-- isinstance(v, int) -/
def isIntV : V → Bool
  | .int _ => true
  | .bl _ => true
  | _ => false
def isBlV : V → Bool
  | .bl _ => true
  | _ => false
def isDictV (H : Hp) (v : V) : Bool := match v with
  | .ref a => match H a with
    | some (.dK _) => true
    | _ => false
  | _ => false
theorem Dat.int_ {K : PySem.W.Frag} {H : Hp} {v : V} {T : String} (d : Dat K H v T) : PySem.W.kitOne K (.type T) (.type "int") = some (isIntV v) := by
  cases d with
  | non => exact kit_ty (r := false) (by decide +kernel)
  | bl b => exact kit_ty (r := true) (by decide +kernel)
  | int i => exact kit_ty (r := true) (by decide +kernel)
  | str z => exact kit_ty (r := false) (by decide +kernel)
  | lst h => exact kit_ty (r := false) (by decide +kernel)
  | tup h => exact kit_ty (r := false) (by decide +kernel)
  | dct h => exact kit_ty (r := false) (by decide +kernel)
theorem Dat.bool_ {K : PySem.W.Frag} {H : Hp} {v : V} {T : String} (d : Dat K H v T) : PySem.W.kitOne K (.type T) (.type "bool") = some (isBlV v) := by
  cases d with
  | non => exact kit_ty (r := false) (by decide +kernel)
  | bl b => exact kit_ty (r := true) (by decide +kernel)
  | int i => exact kit_ty (r := false) (by decide +kernel)
  | str z => exact kit_ty (r := false) (by decide +kernel)
  | lst h => exact kit_ty (r := false) (by decide +kernel)
  | tup h => exact kit_ty (r := false) (by decide +kernel)
  | dct h => exact kit_ty (r := false) (by decide +kernel)
/-- an integer, no bool, of at least l -/
def isGe (v : V) (l : Int) : Bool := match v with
  | .int i => decide (l ≤ i)
  | _ => false
/-! ### what is raised -/
inductive Err where
  | e0 (C : Addr)
  | e1 (C : Addr) (f : Str) (v : V)
/-- the way out of such an error, from the heap H -/
def Out (H : Hp) (E : XK) : Err → Prop
  | .e0 C => ∀ H', Same H H' → E (.ref C) none H'
  | .e1 C f v => ∀ d H', Same H H' → H d = none → H' d = some (.xd [(f, v)]) → E (.ref C) (some d) H'
theorem Out.mono {H H1 : Hp} {E : XK} {e : Err} (s : Same H H1) (o : Out H E e) : Out H1 E e := by
  cases e with
  | e0 C => exact fun H' s' => o H' (s.trans s')
  | e1 C f v => exact fun d H' s' n => o d H' (s.trans s') (s.free n)
/-- raise C(v) in a def that lets it out -/
theorem out1 {C : Addr} {f : Str} {v : V} {H H1 : Hp} {E : XK} (o : Out H E (.e1 C f v)) (s : Same H H1) :
    [v].length ≤ 1000 ∧ ∀ a, H1 a = none → spInit1 C f (.ref a :: ([v] ++ [])) (upd H1 a (exo a C none))
      (fun w H2 => w = .non ∧ ∃ (d : Addr) (fs : List (Str × V)), H2 a = some (exo a C (some d)) ∧ H2 d = some (exd d fs) ∧ H1 d = none ∧ E (.ref C) (some d) (upd (del H2 a) d (.xd fs))) (fun _ _ _ => False) :=
  raise1 (Q := fun cls d H' => E cls d H') fun d nd => o d _ (s.trans (same_new nd)) (s.free nd) upd_same
/-! ### numbers by places -/
def tblI (l : List Str) (g : Str → Int) : List (Key × V) := kvT (l.map fun a => (a, V.int (g a)))
/-! ### feasible sizes -/
/-- sizes: a dict, its pairs told, or another value -/
def SzV (K : PySem.W.Frag) (H : Hp) (sv : V) : Option (List (Key × V)) → Prop
  | some kvs => ∃ q, sv = .ref q ∧ H q = some (.dK kvs) ∧ ∀ p ∈ kvs, IsDat K H p.2
  | none => ∃ T, Dat K H sv T ∧ T ≠ "dict"
theorem SzV.mono {K : PySem.W.Frag} {H H' : Hp} {sv : V} {o : Option (List (Key × V))} (s : Same H H') (h : SzV K H sv o) : SzV K H' sv o := by
  cases o with
  | none => exact let ⟨T, d, n⟩ := h; ⟨T, d.mono s, n⟩
  | some kvs => exact let ⟨q, e, h, a⟩ := h; ⟨q, e, s _ _ h, fun p hp => (a p hp).mono s⟩
def szOf (kvs : List (Key × V)) (a : Str) : Int := match valV kvs (Sum.inr a) with
  | some (.int i) => i
  | _ => 0
def badKey (kvs : List (Key × V)) (a : Str) : Bool := !isGe ((valV kvs (Sum.inr a)).getD .non) 0
/-- the place of the first fault, as the error tells it -/
def feas (ts : List (Str × Str)) (n : Int) : Option (List (Key × V)) → Option V
  | none => some .non
  | some kvs => if kvs.length ≠ ts.length then some .non else if (ts.map Prod.fst).all (fun a => (valV kvs (Sum.inr a)).isSome) = false then some .non else
    match (ts.map Prod.fst).find? (badKey kvs) with
    | some a => some (.str a)
    | none => ((("" : Str) :: ts.map Prod.fst).find? fun p => decide (resid ts n (szOf kvs) p < 0)).map V.str
def usersOk (v : V) (m : Int) : Bool := match v with
  | .int i => decide (1 ≤ i) && decide (i ≤ m)
  | _ => false
def feE (CS : Addr) (ts : List (Str × Str)) (n : Int) (o : Option (List (Key × V))) : Option Err := (feas ts n o).map fun v => .e1 CS "place" v
def szE (CU CS : Addr) (ts : List (Str × Str)) (uv : V) (o : Option (List (Key × V))) : Option Err := if usersOk uv (10 ^ 30) = true then feE CS ts (match uv with | .int n => n | _ => 0) o else some (.e0 CU)
/-- a def that hands back None, or raises -/
def Res (H : Hp) (Q : VK) (E : XK) : Option Err → Prop
  | none => ∀ H', Same H H' → Q .non H'
  | some e => Out H E e
theorem Res.mono {H H1 : Hp} {Q : VK} {E : XK} {o : Option Err} (s : Same H H1) (r : Res H Q E o) : Res H1 Q E o := by
  cases o with
  | none => exact fun H' s' => r H' (s.trans s')
  | some e => exact Out.mono s r
def spIsInt (K : PySem.W.Frag) : Sp := fun vs H Q _ => ∃ (v : V) (l : Int), vs = [v, .int l] ∧ IsDat K H v ∧ Q (.bl (isGe v l)) H
def spUsers (K : PySem.W.Frag) (CU : Addr) : Sp := fun vs H Q E => ∃ (v : V) (m : Int), vs = [v, .int m] ∧ IsDat K H v ∧ Res H Q E (if usersOk v m = true then none else some (.e0 CU))
def spResid (CF : Addr) : Sp := fun vs H Q _ => ∃ (x q : Addr) (n : Int) (ts : List (Str × Str)) (kvs : List (Key × V)), vs = [.ref x, .int n, .ref q] ∧ FAt CF H x ts ∧ TreeOk ts ∧ H q = some (.dK kvs) ∧ (∀ a ∈ ts.map Prod.fst, valV kvs (Sum.inr a) = some (.int (szOf kvs a))) ∧
  ∀ p H', Same H H' → H p = none → H' p = some (.dK (tblI ("" :: ts.map Prod.fst) (resid ts n (szOf kvs)))) → Q (.ref p) H'
def spFeas (K : PySem.W.Frag) (CF CS : Addr) : Sp := fun vs H Q E => ∃ (x : Addr) (n : Int) (sv : V) (ts : List (Str × Str)) (o : Option (List (Key × V))), vs = [.ref x, .int n, sv] ∧ FAt CF H x ts ∧ TreeOk ts ∧ SzV K H sv o ∧ Res H Q E (feE CS ts n o)
def spNSizes (K : PySem.W.Frag) (CF CU CS : Addr) : Sp := fun vs H Q E => ∃ (x : Addr) (uv sv : V) (ts : List (Str × Str)) (o : Option (List (Key × V))), vs = [.ref x, uv, sv] ∧ FAt CF H x ts ∧ TreeOk ts ∧ IsDat K H uv ∧ SzV K H sv o ∧ Res H Q E (szE CU CS ts uv o)
end FT


namespace FT
open PySem L2 TL ClX
end FT


namespace FT
open PySem L2 TL ClX
def kvsOf (o : Option (List (Key × V))) : List (Key × V) := o.getD []
def numV (v : V) : Int := match v with
  | .int n => n
  | _ => 0
/-- what amounts raises -/
def amE (CU CS : Addr) (ts : List (Str × Str)) (uv : V) (o1 o2 : Option (List (Key × V))) : Option Err := (szE CU CS ts uv o1).or (feE CS ts (numV uv) o2)
def amt (o1 o2 : Option (List (Key × V))) (a : Str) : Int := szOf (kvsOf o2) a - szOf (kvsOf o1) a
def absI (z : Int) : Int := if z < 0 then -z else z
def spAmtOf (CF : Addr) : Sp := fun vs H Q _ => ∃ (x q1 q2 : Addr) (ts : List (Str × Str)) (k1 k2 : List (Key × V)), vs = [.ref x, .ref q1, .ref q2] ∧ FAt CF H x ts ∧ TreeOk ts ∧ H q1 = some (.dK k1) ∧ H q2 = some (.dK k2) ∧
  (∀ a ∈ ts.map Prod.fst, valV k1 (Sum.inr a) = some (.int (szOf k1 a))) ∧ (∀ a ∈ ts.map Prod.fst, valV k2 (Sum.inr a) = some (.int (szOf k2 a))) ∧
  ∀ p H', Same H H' → H p = none → H' p = some (.dK (tblI (ts.map Prod.fst) fun a => szOf k2 a - szOf k1 a)) → Q (.ref p) H'
def spAmounts (K : PySem.W.Frag) (CF CU CS : Addr) : Sp := fun vs H Q E => ∃ (x : Addr) (uv sv nv : V) (ts : List (Str × Str)) (o1 o2 : Option (List (Key × V))), vs = [.ref x, uv, sv, nv] ∧ FAt CF H x ts ∧ TreeOk ts ∧ IsDat K H uv ∧ SzV K H sv o1 ∧ SzV K H nv o2 ∧
  match amE CU CS ts uv o1 o2 with
  | none => ∀ p H', Same H H' → H p = none → H' p = some (.dK (tblI (ts.map Prod.fst) (amt o1 o2))) → Q (.ref p) H'
  | some e => Out H E e
def spLeast (K : PySem.W.Frag) (CF CU CS : Addr) : Sp := fun vs H Q E => ∃ (x : Addr) (uv sv nv : V) (ts : List (Str × Str)) (o1 o2 : Option (List (Key × V))), vs = [.ref x, uv, sv, nv] ∧ FAt CF H x ts ∧ TreeOk ts ∧ IsDat K H uv ∧ SzV K H sv o1 ∧ SzV K H nv o2 ∧
  match amE CU CS ts uv o1 o2 with
  | none => ∀ H', Same H H' → Q (.int ((ts.map Prod.fst).map fun a => absI (amt o1 o2 a)).sum) H'
  | some e => Out H E e
end FT


namespace FT
open PySem L2 TL ClX LiI
/-! ### crossings -/
def crs (g : Str → Int) (ts : List (Str × Str)) : List (Str × Str × Int) := ts.flatMap fun p => if 0 < g p.1 then [(p.2, p.1, g p.1)] else if g p.1 < 0 then [(p.1, p.2, - g p.1)] else []
def EdG (H : Hp) (rs : List Addr) (es : List (Str × Str × Int)) : Prop := Paired (fun (r : Addr) (e : Str × Str × Int) => H r = some (.tup [.str e.1, .str e.2.1, .int e.2.2])) rs es
theorem EdG.mono {H H' : Hp} (s : Same H H') : ∀ {rs : List Addr} {es : List (Str × Str × Int)}, EdG H rs es → EdG H' rs es
  | _, _, .nil => .nil
  | _, _, .cons h t => .cons (s _ _ h) (EdG.mono s t)
theorem EdG.push {H : Hp} {D : Addr} {xs : List V} {o : HO} (e : H D = some (.lst xs)) : ∀ {rs : List Addr} {es : List (Str × Str × Int)}, EdG H rs es → EdG (upd H D o) rs es
  | _, _, .nil => .nil
  | _, _, .cons h t => .cons (by rw [upd_ne (ne_of h e (by intro z; cases z))]; exact h) (EdG.push e t)
theorem EdG.snoc {H : Hp} {r : Addr} {e : Str × Str × Int} (h : H r = some (.tup [.str e.1, .str e.2.1, .int e.2.2])) : ∀ {rs : List Addr} {es : List (Str × Str × Int)}, EdG H rs es → EdG H (rs ++ [r]) (es ++ [e])
  | _, _, .nil => .cons h .nil
  | _, _, .cons q t => .cons q (EdG.snoc h t)
theorem EdG.len {H : Hp} : ∀ {rs : List Addr} {es : List (Str × Str × Int)}, EdG H rs es → rs.length = es.length
  | _, _, .nil => rfl
  | _, _, .cons _ t => congrArg (· + 1) (EdG.len t)
theorem EdG.at_ {H : Hp} {rs : List Addr} {es : List (Str × Str × Int)} (p : EdG H rs es) {i : Nat} {r : Addr} (h : rs[i]? = some r) : ∃ e, es[i]? = some e ∧ H r = some (.tup [.str e.1, .str e.2.1, .int e.2.2]) := LiI.paired_get p h
def spCross (CF : Addr) : Sp := fun vs H Q _ => ∃ (x q : Addr) (ts : List (Str × Str)) (g : Str → Int), vs = [.ref x, .ref q] ∧ FAt CF H x ts ∧ TreeOk ts ∧ H q = some (.dK (tblI (ts.map Prod.fst) g)) ∧
  ∀ p rs H', Same H H' → H p = none → H' p = some (.lst (rs.map V.ref)) → EdG H' rs (crs g ts) → Q (.ref p) H'
end FT


/-! plain: lists of users by place, how a change of sizes moves them, that the way back restores them. No program here. -/
namespace FT
open PySem L2 TL
/-! ### sums -/
/-! ### places, neighbours -/
def pls (ts : List (Str × Str)) : List Str := "" :: ts.map Prod.fst
/-- the other ends of the edges of a place -/
def adj (ts : List (Str × Str)) (p : Str) : List Str := (if p = "" then [] else [(par ts p).getD ""]) ++ kids ts p
/-! ### how many users cross an edge -/
def lv (ts : List (Str × Str)) (c : Str → Int) (p o : Str) : Nat := if par ts o = some p ∧ 0 < c o then (c o).toNat else if par ts p = some o ∧ c p < 0 then (- c p).toNat else 0
/-! ### an order of the places that all moves follow -/
def sg (z : Int) : Int := if 0 < z then 1 else if z < 0 then -1 else 0
def phi (ts : List (Str × Str)) (c : Str → Int) (p : Str) : Int := ((pathOf ts p).map fun x => sg (c x)).sum
def lvl (ts : List (Str × Str)) (c : Str → Int) (p : Str) : Nat := (phi ts c p + 12).toNat
/-! ### a change moves the lists -/
/-- groups that come to a place, in the order in which they are put behind its list -/
def ins (ts : List (Str × Str)) (G : Str → Str → List Int) (p : Str) : List Int := ((adj ts p).reverse.map fun o => G o p).flatten
/-- groups that leave a place -/
def outs (ts : List (Str × Str)) (G : Str → Str → List Int) (p : Str) : List Int := ((adj ts p).reverse.map fun o => G p o).flatten
def Moved (ts : List (Str × Str)) (c : Str → Int) (L L' : Str → List Int) : Prop := ∃ G : Str → Str → List Int, (∀ p, Pl ts p → ∀ o ∈ adj ts p, (G p o).length = lv ts c p o) ∧ ∀ p, Pl ts p → L p ++ ins ts G p = L' p ++ outs ts G p
/-- the lengths are the residents -/
def Lens (ts : List (Str × Str)) (n : Int) (sz : Str → Int) (L : Str → List Int) : Prop := ∀ p, Pl ts p → ((L p).length : Int) = resid ts n sz p
end FT


/-! plain: sizes of lists; every user at one place; a user's way through the tree. -/
namespace FT
open PySem L2 TL
/-! ### sizes and lengths -/
def under (ts : List (Str × Str)) (a : Str) : List Str := (ts.map Prod.fst).filter fun b => decide (a ∈ pathOf ts b)
def lsz (ts : List (Str × Str)) (L : Str → List Int) (a : Str) : Int := ((under ts a).map fun b => ((L b).length : Int)).sum
def inP (ts : List (Str × Str)) (a x : Str) : Int := if a ∈ pathOf ts x then 1 else 0
/-! ### every user at one place -/
def usr (n : Nat) : List Int := (List.range n).map fun k : Nat => (k : Int)
def Val (ts : List (Str × Str)) (n : Nat) (L : Str → List Int) : Prop := ((pls ts).flatMap L).Perm (usr n)
/-- the place of a user -/
def plOf (ts : List (Str × Str)) (L : Str → List Int) (u : Int) : Str := ((pls ts).find? fun p => decide (u ∈ L p)).getD ""
/-! ### a user's way -/
inductive Rc (ts : List (Str × Str)) (c : Str → Int) (p : Str) : Str → Prop where
  | refl : Rc ts c p p
  | step {q x : Str} : Rc ts c p q → 0 < lv ts c q x → Rc ts c p x
end FT


/-! lists of pairs of a text and a value; dict(..) of them. -/
namespace FT
open PySem L2 TL ClX
/-- pairs (a, g a) at the addresses rs -/
def PrG (g : Str → V) (H : Hp) (rs : List Addr) (l : List Str) : Prop := Paired (fun (r : Addr) (a : Str) => H r = some (.tup [.str a, g a])) rs l
theorem PrG.imp {g : Str → V} {H H' : Hp} (m : ∀ r (a : Str), H r = some (.tup [.str a, g a]) → H' r = some (.tup [.str a, g a])) : ∀ {rs : List Addr} {l : List Str}, PrG g H rs l → PrG g H' rs l
  | _, _, .nil => .nil
  | _, _, .cons h t => .cons (m _ _ h) (PrG.imp m t)
theorem PrG.mono {g : Str → V} {H H' : Hp} {rs : List Addr} {l : List Str} (s : Same H H') (p : PrG g H rs l) : PrG g H' rs l := p.imp fun r a e => s _ _ e
theorem PrG.push {g : Str → V} {H : Hp} {rs : List Addr} {l : List Str} {D : Addr} {xs : List V} {o : HO} (e : H D = some (.lst xs)) (p : PrG g H rs l) : PrG g (upd H D o) rs l := p.imp fun r a q => by
  rw [upd_ne (ne_of q e (by intro z; cases z))]
  exact q
theorem PrG.snoc {g : Str → V} {H : Hp} {r : Addr} {a : Str} (h : H r = some (.tup [.str a, g a])) : ∀ {rs : List Addr} {l : List Str}, PrG g H rs l → PrG g H (rs ++ [r]) (l ++ [a])
  | _, _, .nil => .cons h .nil
  | _, _, .cons q t => .cons q (PrG.snoc h t)
theorem PrG.len {g : Str → V} {H : Hp} : ∀ {rs : List Addr} {l : List Str}, PrG g H rs l → rs.length = l.length
  | _, _, .nil => rfl
  | _, _, .cons _ t => congrArg (· + 1) (PrG.len t)
theorem PrG.at_ {g : Str → V} {H : Hp} {rs : List Addr} {l : List Str} (p : PrG g H rs l) {i : Nat} {r : Addr} (h : rs[i]? = some r) : ∃ a, l[i]? = some a ∧ H r = some (.tup [.str a, g a]) := LiI.paired_get p h
/-- as dict(..) asks it -/
theorem PrG.kvs {K : PySem.W.Frag} {g : Str → V} {H : Hp} : ∀ {rs : List Addr} {l : List Str}, PrG g H rs l → Paired (fun (p : Addr) (kv : Key × V) => SqT K H p [kV kv.1, kv.2]) rs (kvT (l.map fun a => (a, g a)))
  | _, _, .nil => .nil
  | _, _, .cons h t => .cons (.inl (.inl h)) (PrG.kvs t)
/-- the place of an item -/
theorem idx_at {l : List Str} {i : Nat} {a : Str} (nd : l.Nodup) (h : l[i]? = some a) : l.idxOf a = i := by
  have m : a ∈ l := List.mem_of_getElem? h
  have lt := List.idxOf_lt_length_of_mem m
  have e : l[l.idxOf a]? = some a := by rw [List.getElem?_eq_getElem lt, List.getElem_idxOf lt]
  exact (List.getElem?_inj lt nd).mp (e.trans h.symm)
/-- a tree from the order of its making -/
theorem tree_of {t : List (Str × Str)} (h1 : 1 ≤ t.length) (h2 : t.length ≤ 12) (nd : (t.map Prod.fst).Nodup) (nm : ∀ z ∈ t.map Prod.fst, NameL z) (up : ∀ (i : Nat) (p : Str × Str), t[i]? = some p → p.2 = "" ∨ p.2 ∈ (t.map Prod.fst).take i) : TreeOk t := by
  refine ⟨h1, h2, nd, nm, fun a => (t.map Prod.fst).idxOf a, fun p hp => ?_⟩
  obtain ⟨i, hi⟩ := List.mem_iff_getElem?.mp hp
  have il := (List.getElem?_eq_some_iff.mp hi).1
  have hk : (t.map Prod.fst)[i]? = some p.1 := by rw [List.getElem?_map, hi] <;> rfl
  refine ⟨by show (t.map Prod.fst).idxOf p.1 < _; rw [idx_at nd hk]; exact il, (up i p hi).imp id fun m => ⟨List.mem_of_mem_take m, ?_⟩⟩
  show (t.map Prod.fst).idxOf p.2 < (t.map Prod.fst).idxOf p.1
  rw [idx_at nd hk]
  obtain ⟨j, hj⟩ := List.mem_iff_getElem?.mp m
  have jl := (List.getElem?_eq_some_iff.mp hj).1
  rw [List.length_take] at jl
  rw [List.getElem?_take, if_pos (by omega)] at hj
  rw [idx_at nd hj]
  omega
end FT


/-! dicts from texts to any values; lists by place in the heap. -/
namespace FT
open PySem L2 TL ClX
def tblV (l : List Str) (g : Str → V) : List (Key × V) := kvT (l.map fun a => (a, g a))
theorem tblV_val {l : List Str} {g : Str → V} {a : Str} (h : a ∈ l) : valV (tblV l g) (Sum.inr a) = some (g a) := by
  unfold tblV
  rw [kvT_val]
  induction l with
  | nil => cases h
  | cons b l ih =>
    rw [List.map_cons, look_cons]
    by_cases e : b = a
    · subst e
      exact if_pos rfl
    · rw [if_neg e]
      exact ih ((List.mem_cons.mp h).resolve_left fun z => e z.symm)
/-- lists by place: the dict at q, the list of p at r p -/
def LsAt (H : Hp) (q : Addr) (l : List Str) (r : Str → Addr) (L : Str → List Int) : Prop := H q = some (.dK (tblV l fun p => .ref (r p))) ∧ ∀ p ∈ l, H (r p) = some (.lst ((L p).map V.int))
theorem LsAt.mono {H H' : Hp} {q : Addr} {l : List Str} {r : Str → Addr} {L : Str → List Int} (s : Same H H') (h : LsAt H q l r L) : LsAt H' q l r L := ⟨s _ _ h.1, fun p hp => s _ _ (h.2 p hp)⟩
theorem LsAt.congr {H : Hp} {q : Addr} {l : List Str} {r : Str → Addr} {L L' : Str → List Int} (h : LsAt H q l r L) (e : ∀ p ∈ l, L p = L' p) : LsAt H q l r L' := ⟨h.1, fun p hp => by rw [h.2 p hp, e p hp]⟩
theorem LsAt.get {H : Hp} {q : Addr} {l : List Str} {r : Str → Addr} {L : Str → List Int} (h : LsAt H q l r L) {p : Str} (hp : p ∈ l) : DGet H q (.str p) (some (.ref (r p))) := by
  have z := DGet.k (k := Sum.inr p) h.1
  rw [tblV_val hp] at z
  exact z
end FT


/-! sums -/
namespace FT
open PySem
end FT


/-! a parent read from a forest's dict -/
namespace FT
open PySem L2 TL ClX
theorem Rd.same {H H' : Hp} {a : Addr} {u : HO} (s : Same H H') (h : Rd H a u) : Rd H' a u := h.imp (fun e => s _ _ e) fun ⟨o, e⟩ => ⟨o, s _ _ e⟩
end FT


/-! path_in, need_place, Forest.under, edges_at -/
namespace FT
open PySem L2 TL ClX
def spPathIn : Sp := fun vs H Q _ => ∃ (q : Addr) (ts : List (Str × Str)) (a : Str), vs = [.ref q, .str a] ∧ Rd H q (.dK (prs ts)) ∧ TreeOk ts ∧ Pl ts a ∧ ∀ p H', Same H H' → H p = none → H' p = some (.tup ((pathOf ts a).map V.str)) → Q (.ref p) H'
def spNeedPl (CF : Addr) : Sp := fun vs H Q _ => ∃ (x : Addr) (ts : List (Str × Str)) (a : Str), vs = [.ref x, .str a] ∧ FAt CF H x ts ∧ TreeOk ts ∧ Pl ts a ∧ Q .non H
def spEdgesAt (CF : Addr) : Sp := fun vs H Q _ => ∃ (x : Addr) (ts : List (Str × Str)) (a : Str), vs = [.ref x, .str a] ∧ FAt CF H x ts ∧ TreeOk ts ∧ Pl ts a ∧ ∀ p H', Same H H' → H p = none → H' p = some (.lst ((adj ts a).map V.str)) → Q (.ref p) H'
def pathLen (ts : List (Str × Str)) (σ : St) : Nat := match σ[1]? with
  | some (some (V.str a)) => (pathOf ts a).length
  | _ => 0
section
variable {P : Program} {w : World} {K : PySem.W.Frag} {mg : Str → Option Value} {base : Heap}
abbrev NPi : List Str := ["above", "place", "path"]
abbrev NNp : List Str := ["forest", "place"]
end
end FT


/-! methods and properties, as a whole -/
namespace FT
open PySem L2 TL ClX
/-- a method of a class, as a whole -/
structure Mt (P : Program) (w : World) (K : PySem.W.Frag) (mg : Str → Option Value) (base : Heap) (CX : CXT) (k : Nat) (C : Addr) (m : Str) (ps : List Str) (sp : Sp) (f : Addr) (fd : FuncData) : Prop where
  mt : Meth K C m f
  fn : FnOk P w K mg base CX k f fd ps sp
  bn : Binds K fd ps []
/-- a property, at any level -/
structure PrN (P : Program) (w : World) (K : PySem.W.Frag) (mg : Str → Option Value) (base : Heap) (k : Nat) (C : Addr) (x : Str) (sp : Sp) (p g : Addr) (fd : FuncData) : Prop where
  pr : PropOf K C x p g
  fn : FnOk P w K mg base CX0 k g fd ["self"] sp
  bn : Binds K fd ["self"] []
end FT


/-! Assignment: made of valid places; its places -/
namespace FT
open PySem L2 TL ClX
/-- the class Assignment -/
structure Ac (K : PySem.W.Frag) (mg : Str → Option Value) (CA : Addr) (mc : Value) : Prop where
  gA : mg "Assignment" = some (.ref CA)
  rd : CRead K CA mc
  most : ∃ u, CVal K CA mc "MOST" (.int 60) u
  cl : Cls K CA
  nF : NoAttr K CA "own_forest"
  nP : NoAttr K CA "own_places"
/-- an assignment at y: its forest, its places -/
def AAt (CA : Addr) (H : Hp) (y x : Addr) (zs : List Str) : Prop := ∃ dy p, H y = some (.ins CA dy [("own_forest", .ref x), ("own_places", .ref p)]) ∧ H p = some (.lst (zs.map V.str))
theorem AAt.mono {CA y x : Addr} {H H' : Hp} {zs : List Str} (s : Same H H') (h : AAt CA H y x zs) : AAt CA H' y x zs := let ⟨dy, p, e1, e2⟩ := h; ⟨dy, p, s _ _ e1, s _ _ e2⟩
def spAInit (CF CA : Addr) : Sp := fun vs H Q _ => ∃ (y x l dy : Addr) (ts : List (Str × Str)) (zs : List Str), vs = [.ref y, .ref x, .ref l] ∧ H y = some (.ins CA dy []) ∧ FAt CF H x ts ∧ TreeOk ts ∧ H l = some (.lst (zs.map V.str)) ∧ 1 ≤ zs.length ∧ zs.length ≤ 60 ∧ (∀ z ∈ zs, Pl ts z) ∧
  ∀ H', AAt CA H' y x zs → (∀ b o, b ≠ y → H b = some o → H' b = some o) → Q .non H'
def spAPlaces (CA : Addr) : Sp := fun vs H Q _ => ∃ (y x : Addr) (zs : List Str), vs = [.ref y] ∧ AAt CA H y x zs ∧ ∀ p, H p = none → Q (.ref p) (upd H p (.lst (zs.map V.str)))
section
variable {P : Program} {w : World} {K : PySem.W.Frag} {mg : Str → Option Value} {base : Heap}
end
end FT


/-! Assignment: forest, total, sizes, users_of, at -/
namespace FT
open PySem L2 TL ClX LiI
/-- the numbers below n with a mark -/
def selU (n : Nat) (c : Nat → Bool) : List Int := ((List.range n).filter c).map fun i : Nat => (i : Int)
def atC (zs : List Str) (p : Str) (i : Nat) : Bool := decide (zs[i]? = some p)
def hasC (ts : List (Str × Str)) (zs : List Str) (a : Str) (i : Nat) : Bool := match zs[i]? with
  | some z => decide (a ∈ pathOf ts z)
  | none => false
/-- the users at a place; those that have a flag; how many -/
def atU (zs : List Str) (p : Str) : List Int := selU zs.length (atC zs p)
def hasU (ts : List (Str × Str)) (zs : List Str) (a : Str) : List Int := selU zs.length (hasC ts zs a)
def szZ (ts : List (Str × Str)) (zs : List Str) (a : Str) : Int := ((zs.filter fun z => decide (a ∈ pathOf ts z)).length : Int)
def spAForest (CA : Addr) : Sp := fun vs H Q _ => ∃ (y x : Addr) (zs : List Str), vs = [.ref y] ∧ AAt CA H y x zs ∧ Q (.ref x) H
def spATotal (CA : Addr) : Sp := fun vs H Q _ => ∃ (y x : Addr) (zs : List Str), vs = [.ref y] ∧ AAt CA H y x zs ∧ Q (.int (zs.length : Int)) H
def spSizesOf (CF : Addr) : Sp := fun vs H Q _ => ∃ (x l : Addr) (ts : List (Str × Str)) (zs : List Str), vs = [.ref x, .ref l] ∧ FAt CF H x ts ∧ TreeOk ts ∧ H l = some (.lst (zs.map V.str)) ∧ (∀ z ∈ zs, Pl ts z) ∧
  ∀ (p : Addr) (H' : Hp), Same H H' → H p = none → H' p = some (.dK (tblI (ts.map Prod.fst) (szZ ts zs))) → Q (.ref p) H'
def spASizes (CF CA : Addr) : Sp := fun vs H Q _ => ∃ (y x : Addr) (ts : List (Str × Str)) (zs : List Str), vs = [.ref y] ∧ AAt CA H y x zs ∧ FAt CF H x ts ∧ TreeOk ts ∧ (∀ z ∈ zs, Pl ts z) ∧
  ∀ (p : Addr) (H' : Hp), Same H H' → H p = none → H' p = some (.dK (tblI (ts.map Prod.fst) (szZ ts zs))) → Q (.ref p) H'
def spAAt (CF CA : Addr) : Sp := fun vs H Q _ => ∃ (y x : Addr) (ts : List (Str × Str)) (zs : List Str) (a : Str), vs = [.ref y, .str a] ∧ AAt CA H y x zs ∧ FAt CF H x ts ∧ TreeOk ts ∧ zs.length ≤ 1000 ∧ Pl ts a ∧
  ∀ (p : Addr) (H' : Hp), Same H H' → H p = none → H' p = some (.lst ((atU zs a).map V.int)) → Q (.ref p) H'
def spAUsers (CF CA : Addr) : Sp := fun vs H Q _ => ∃ (y x : Addr) (ts : List (Str × Str)) (zs : List Str) (a : Str), vs = [.ref y, .str a] ∧ AAt CA H y x zs ∧ FAt CF H x ts ∧ TreeOk ts ∧ (∀ z ∈ zs, Pl ts z) ∧ zs.length ≤ 1000 ∧ a ∈ ts.map Prod.fst ∧
  ∀ (p : Addr) (H' : Hp), Same H H' → H p = none → H' p = some (.lst ((hasU ts zs a).map V.int)) → Q (.ref p) H'
def spNeedFl (CF : Addr) : Sp := fun vs H Q _ => ∃ (x : Addr) (ts : List (Str × Str)) (a : Str), vs = [.ref x, .str a] ∧ FAt CF H x ts ∧ TreeOk ts ∧ a ∈ ts.map Prod.fst ∧ Q .non H
section
variable {P : Program} {w : World} {K : PySem.W.Frag} {mg : Str → Option Value} {base : Heap}
abbrev NSo : List Str := ["forest", "places", "name", "found", "place"]
end
end FT


/-! own __eq__; Forest.__eq__; (need_match: FtEqM) -/
namespace FT
open PySem L2 TL ClX LiI
def strKey (e : DictEntry) : Bool := match e.key with
  | .str _ _ => true
  | _ => false
/-- a class of the text with its own __eq__ and no __ne__ -/
structure EqF (K : PySem.W.Frag) (C f : Addr) : Prop where
  at_ : ∃ nm q N bs sn sub ab col dd k0 k1 k2 k3 k5 newId, K.lookup C = some (excClassObj nm q C N bs [.type "object"] true sn sub ab col dd k0 k1 k2 k3 k5 newId) ∧
    ∃ (oc : Value) (od : Option Addr) (es : Array DictEntry) (ep : Nat) (sl : Array (Option Value)), K.lookup N = some ⟨oc, od, .dict es ep, sl⟩ ∧ es.toList.all strKey = true ∧ nsFind es "__eq__" = some (.ref f) ∧ nsFind es "__ne__" = none
  ty : ∃ o : Obj, K.lookup f = some o ∧ o.cls = .type "function"
theorem EqF.own {K : PySem.W.Frag} {C f : Addr} (e : EqF K C f) {h : Heap} (X : K.In h) {a : Addr} {o : Obj} (ho : h.get? a = some o) (hc : o.cls = .ref C) : h.OwnEqNoNe a C f "object" [.type "object"] := by
  obtain ⟨nm, q, N, bs, sn, sub, ab, col, dd, k0, k1, k2, k3, k5, newId, hC, oc, od, es, ep, sl, hN, hk, h1, h2⟩ := e.at_
  obtain ⟨of, hf, tf⟩ := e.ty
  have keys : StrKeys es := fun x hx => by
    have := List.all_eq_true.mp hk x (Array.mem_toList_iff.mpr hx)
    unfold strKey at this
    cases ek : x.key with
    | str n t => exact ⟨n, t, rfl⟩
    | _ => rw [ek] at this; cases this
  exact ⟨o, of, nm, q, N, bs, true, sn, sub, ab, col, dd, k0, k1, k2, k3, k5, newId, nsFind es, _, ho, hc, X _ _ hC, ⟨_, es, ep, X _ _ hN, rfl, keys, fun _ => rfl⟩, h1, X _ _ hf, tf, PySem.F.cmp_object.mro, PySem.F.cmp_object.eq.lookup, h2⟩
/-- x != y, two instances that are equal by their own __eq__ -/
def rNeG (D : Eqv) : R2 := fun x y H Q => D x y H ∧ ∀ H', Ext H H' → Q (.bl false) H'
/-- what isinstance asks of an own class -/
structure IsF (K : PySem.W.Frag) (C : Addr) : Prop where
  ha : PySem.W.findIn K (.ref C) "__class__" = some (some (.builtin "object.__class__"))
  hn : PySem.W.specialIn K (.builtin "object.__class__") "__get__" = some (some (.builtin "getset_descriptor.__get__"))
  ht : PySem.W.takesIn K (.builtin "object.__class__") = some true
  hm : PySem.W.mroIn K C (.type "object") = some true
def RFo (CF : Addr) : Addr → Addr → Hp → Prop := fun a b H => ∃ ts, FAt CF H a ts ∧ FAt CF H b ts ∧ TreeOk ts
section
variable {P : Program} {w : World} {K : PySem.W.Frag} {mg : Str → Option Value} {base : Heap}
end
end FT


/-! Own: calls with keywords alone, two or four of them turned; pairs of a text and an int as data. -/
namespace FT
open PySem L2 TL ClX
def tCallK0 (m : Nat) (sp : Sp) (gV : List V → List V → List V) (E : XK) (tk : TA) : TE := fun σ H Q => tk σ H fun zs H1 => zs.length = m ∧ sp (gV [] zs) H1 Q E
/-- four values, turned -/
def turn4 {α : Type} : List α → List α
  | [a, b, c, d] => [d, c, b, a]
  | l => l
end FT


/-! Own: o.m(k = v), a method called by keyword alone. -/
namespace FT
open PySem L2 TL ClX
def tMethK (C : Addr) (m : Str) (n : Nat) (sp : Sp) (gV : List V → List V → List V) (E : XK) (ta : TE) (tk : TA) : TE := fun σ H Q => ta σ H fun x H1 => ∃ a dx fs, x = .ref a ∧ H1 a = some (.ins C dx fs) ∧ fs.lookup m = none ∧ tk σ H1 fun zs H2 => zs.length = n ∧ sp (gV [.ref a] zs) H2 Q E
theorem pe_methK {X : Cx} {CX : CXT} {k : Nat} {C f : Addr} {fd : FuncData} {ps ks : List Str} {sp : Sp} {E : XK} {m : Str} {o : Expr} {apos pos : Pos} {kw : Keyword} {kws : List Keyword} {ta : TE} {tk : TA} {g : List Value → List Value → List Value} {gV : List V → List V → List V} {pl : Sem Bool}
    (he : PE X o ta) (c : Cls X.K C) (hm : Meth X.K C m f) (F : FnOk X.prog X.w X.K X.mg X.base CX k f fd ps sp) (hr : Room k X.A) (hb : KBn X.K fd ps 1 ks g gV) (hx : Passes CX X E)
    (hkw : PK X (kw :: kws) tk) (hall : (backToKw pos (keywordEach (kw :: kws) X.env)).all (·.1.isSome) = true := by rfl) (hks : (backToKw pos (keywordEach (kw :: kws) X.env)).filterMap (·.1) = ks := by rfl)
    (hpl : ((backTo pos (starEach [] X.env)).any (·.1) || (backToKw pos (keywordEach (kw :: kws) X.env)).any (·.1.isNone)) = false := by rfl)
    (ht : eval (.Call (.Attribute o m apos) [] (kw :: kws) pos) X.env = (do
      let ov ← eval o X.env
      standAt apos.atName
      let (f, first) ← holding [ov] (getMethod ov m pl)
      callWith pos f first (backTo pos (starEach [] X.env)) (backToKw pos (keywordEach (kw :: kws) X.env))) := by rfl) :
    PE X (.Call (.Attribute o m apos) [] (kw :: kws) pos) (tMethK C m ks.length sp gV E ta tk) := by
  refine ⟨fun pins s σ H Q I h => ?_⟩
  refine PySem.W.methodCall_KW (pl := pl) (thn (he.run pins s σ H _ I h) fun u s1 ⟨x, H1, I1, rx, a, dx, fs, ex, ea, l, q⟩ => ?_) ht
  subst ex
  obtain rfl : u = Value.ref a := rx
  refine getmeth_ok I1 ea c hm l ?_
  refine PySem.W.callWith_KW0 (first := [.ref a]) (h₀ := X.base) I.ok.mod.kin hm.kp hall ?_ hpl
  refine thn (hkw.run pos pins s1 σ H1 _ I1 q) fun ws s2 ⟨zs, H2, J, rz, l2, want⟩ => ⟨J.kIn, ?_⟩
  rw [hks]
  exact run_fnN (us := [.ref a]) (vs := [.ref a]) F hr hb hx J (.cons rfl .nil) rz rfl l2 want
theorem kwM1 {K : PySem.W.Frag} {x qual b : Str} {st : Stmt} {f : Addr} {fd : FuncData} {ps : List Str} (F : L2.Fun K x qual st f fd)
    (h : ∀ (kV doc pm : Value) (an : Option Addr) (cdv ct u v : Value), bindArgs (PySem.W.fnOf x qual (defArgs st) (defBody st) (defScope st) .none kV doc pm an cdv ct) ⟨[u], [(b, v)]⟩ = pure (ps.zip [u, v])) :
    KBn K fd ps 1 [b] (fun us ws => us ++ ws) (fun vs zs => vs ++ zs) := by
  obtain ⟨oc, od, kV, doc, pm, an, cdv, ct, osl, rfl, lk, hcd⟩ := F.ex
  refine ⟨fun s us ws _ h1 h2 => ?_, fun r r' => r.append r'⟩
  match us, ws, h1, h2 with
  | [u], [v], _, _ => exact .of_eq (h kV doc pm an cdv ct u v)
end FT


/-! is_name of any text -/
namespace FT
open PySem L2 TL ClX
theorem of_letters {c : Nat} (h : c ∈ letters.cps.toList) : 97 ≤ c ∧ c ≤ 122 := by
  have all : letters.cps.toList.all (fun c => decide (97 ≤ c ∧ c ≤ 122)) = true := by decide +kernel
  exact of_decide_eq_true (List.all_eq_true.mp all c h)
/-- whether a text is a name -/
def nmB (z : Str) : Bool := decide (NameL z)
theorem nmB_no {z : Str} (h : ¬ NameL z) : nmB z = false := decide_eq_false h
theorem nmB_yes {z : Str} (h : NameL z) : nmB z = true := decide_eq_true h
def spIsNameW : Sp := fun vs H Q _ => ∃ z : Str, vs = [.str z] ∧ z.length ≤ 20000 ∧ ∀ H', Same H H' → Q (.bl (nmB z)) H'
section
variable {P : Program} {w : World} {K : PySem.W.Frag} {mg : Str → Option Value} {base : Heap}
theorem ok_isNameW {f : Addr} {fd : FuncData} (F : Fun K "is_name" "is_name" s_is_name f fd) (T : Nm mg) (C : Cs mg) : FnOk P w K mg base CX0 1 f fd ["value"] spIsNameW := by
  obtain ⟨t1, g1⟩ := C.long
  obtain ⟨t2, g2⟩ := C.lett
  refine F.ok scIsName (fun vs H Q E h => ?_) (fun cdv A outer s H vs Q E hr h => ?_)
  · obtain ⟨z, rfl, _⟩ := h
    rfl
  · obtain ⟨z, rfl, lz, k⟩ := h
    refine ⟨_, pss_cons (ps_if (PW.pt (pw_or (pt_not (pt_val (pe_callB call_isi (by rfl) T.isi (by decide +kernel) (pa_cons (pv 0) (pa_cons (pe_bltn (v := .ty "str") (u := .type "str") (by rfl) T.str (by decide +kernel) rfl) pa_nil)))))
        (pw_or (pt_not (pt_chain op_le op_le pe_int (pe_callB call_len_str (by rfl) T.len PySem.boot_len (pa_cons (pv 0) pa_nil)) (pe_glob (v := .int 8) (by rfl) g1 ⟨_, rfl⟩))) (pw_or1 (pt_cmpR op_eq (pv 0) pe_str (nomark _))))))
        (pss_one (ps_ret pe_bl)) pss_nil)
      (pss_one (ps_ret (pe_callB (cr_all rfl) (by rfl) T.all (by decide +kernel) (pa_cons (pe_lc (own := [("letter", 1)]) (g := gName 1) (tt := tYes) (te := tOp (fun x y H Q => ∃ (c : Nat) (z : Str), x = .str ⟨#[c]⟩ ∧ y = .str z ∧ Q (.bl (decide (c ∈ z.cps.toList))) H) (tVar 1) (tC (.str letters))) rfl scIsName.nd (pi_str (pv 0))
        (blkOk_by (N := ["value", "letter"]) (sc := defScope s_is_name) (by decide +kernel))
        (fun _ _ _ _ _ => pg_name (i := 1) scIsName.nd rfl (Or.inl rfl)) (fun _ _ _ _ _ => pts_nil) (fun _ _ _ _ _ => pe_cmpR op_in_sign (pv 1) (pe_glob (v := .str letters) (by rfl) g2 ⟨_, rfl⟩) rfl)) pa_nil)))), ?_⟩
    have big : 30000 ≤ sizeLine := by decide
    have k0 : ∀ H', Same H H' → nmB z = false → Q (.bl false) H' := fun H' s e => by have := k H' s; rw [e] at this; exact this
    refine ⟨_, rfl, .str z, _, _, _, true, rfl, .ty _, .base (.str z), kit_ty (by decide +kernel), true, rfl, ?_⟩
    refine iteF ?_
    refine ⟨_, rfl, z, rfl, by omega, _, _, rfl, rfl, _, rfl, ?_⟩
    by_cases l1 : 1 ≤ z.length
    case neg =>
      rw [if_neg (show ¬ decide ((1 : Int) ≤ (z.length : Int)) = true by rw [decide_eq_true_eq]; omega)]
      refine ⟨_, rfl, ?_⟩
      refine iteT ?_
      exact k0 H (fun _ _ h => h) (nmB_no fun nm => l1 nm.len.1)
    rw [if_pos (decide_eq_true (by omega))]
    refine ⟨_, _, rfl, rfl, _, rfl, ?_⟩
    by_cases l2 : z.length ≤ 8
    case neg =>
      rw [decide_eq_false (show ¬ (z.length : Int) ≤ 8 by omega)]
      refine iteT ?_
      exact k0 H (fun _ _ h => h) (nmB_no fun nm => l2 nm.len.2)
    rw [decide_eq_true (show (z.length : Int) ≤ 8 by omega)]
    refine iteF ?_
    refine ⟨_, rfl, rfl, _, rfl, ?_⟩
    by_cases es : z = "self"
    case pos =>
      subst es
      refine iteT ?_
      exact k0 H (fun _ _ h => h) (nmB_no fun nm => nm.self rfl)
    rw [decide_eq_false (show ¬ V.str z = V.str "self" from fun e => es (V.str.inj e))]
    refine iteF ?_
    refine ⟨_, rfl, z, rfl, fun D nD => lc_it walk_str (fun i H' => Same H H' ∧ H' D = some (.lst ((((tl z).take i).map fun c => decide (c ∈ letters.cps.toList)).map V.bl))) ⟨same_new nD, upd_same⟩ (fun _ _ _ _ => trivial) ?_ ?_⟩
    · intro i x Ha Hb hi ⟨q1, q2⟩ ⟨e, ch, hc, ex⟩
      subst e
      subst ex
      have hz : (tl z)[i]? = some ch := by
        rw [← Array.getElem?_toList] at hc
        exact hc
      have li := (List.getElem?_eq_some_iff.mp hz).1
      refine ⟨rfl, ?_⟩
      refine ⟨_, rfl, ch, letters, rfl, rfl, _, q2, ?_, ?_, ?_⟩
      · rw [List.length_map, List.length_map, List.length_take]
        have : z.cps.size = z.length := rfl
        omega
      · exact Same.put q1 nD
      · rw [upd_same, List.take_succ, hz, List.map_append, List.map_append] <;> rfl
    · intro H' ⟨q1, q2⟩
      refine ⟨D, _, rfl, SqL.of q2, ?_⟩
      have e : (List.map (fun c => decide (c ∈ letters.cps.toList)) (List.take z.cps.size (tl z))).all id = nmB z := by
        have full : List.take z.cps.size (tl z) = tl z := List.take_of_length_le (by rw [← len_tl]; exact Nat.le_refl _)
        rw [full]
        by_cases a : ∀ c ∈ tl z, 97 ≤ c ∧ c ≤ 122
        · rw [nmB_yes ⟨a, by rw [← len_tl]; exact l1, by rw [← len_tl]; exact l2, es⟩, List.all_eq_true]
          intro b hb
          obtain ⟨c, hc, rfl⟩ := List.mem_map.mp hb
          exact decide_eq_true (in_letters (a c hc).1 (a c hc).2)
        · rw [nmB_no fun nm => a nm.1]
          refine Bool.eq_false_iff.mpr fun al => a fun c hc => of_letters ?_
          exact of_decide_eq_true (List.all_eq_true.mp al _ (List.mem_map.mpr ⟨c, hc, rfl⟩))
      show Q (.bl _) H'
      rw [e]
      exact k H' q1
end
end FT


/-! pins: made, told, compared, allows -/
namespace FT
open PySem L2 TL ClX SupX
/-- a pin: Must, Never, Stay -/
inductive PinV where
  | must (u n : V)
  | never (u n : V)
  | stay (u : V)
def PinV.ix : PinV → Nat
  | .must _ _ => 0
  | .never _ _ => 1
  | .stay _ => 2
theorem PinV.lt (p : PinV) : p.ix < 3 := by
  cases p with
  | must u n => exact (by decide : 0 < 3)
  | never u n => exact (by decide : 1 < 3)
  | stay u => exact (by decide : 2 < 3)
def PinV.fs : PinV → List (Str × V)
  | .must u n => [("who", u), ("wanted_flag", n)]
  | .never u n => [("who", u), ("barred_flag", n)]
  | .stay u => [("who", u)]
/-- what it tells -/
def PinV.tv : PinV → List V
  | .must u n => [.str "must", u, n]
  | .never u n => [.str "never", u, n]
  | .stay u => [.str "stay", u]
def PnAt (C : Nat → Addr) (H : Hp) (x : Addr) (p : PinV) : Prop := ∃ dx, H x = some (.ins (C p.ix) dx p.fs)
theorem PnAt.mono {C : Nat → Addr} {H H' : Hp} {x : Addr} {p : PinV} (s : Same H H') (h : PnAt C H x p) : PnAt C H' x p := let ⟨dx, e⟩ := h; ⟨dx, s _ _ e⟩
/-- what the top says of the classes -/
structure PnF (K : PySem.W.Frag) (mg : Str → Option Value) (CP : Addr) (C : Nat → Addr) (fE : Addr) : Prop where
  cl : ∀ i, i < 3 → Cls K (C i)
  who : ∀ i, i < 3 → NoAttr K (C i) "who"
  fM : NoAttr K (C 0) "wanted_flag"
  fN : NoAttr K (C 1) "barred_flag"
  isf : ∀ i, i < 3 → IsF K (C i)
  kit : ∀ i, i < 3 → PySem.W.kitOne K (.ref (C i)) (.ref CP) = some true
  kitT : PySem.W.kitOne K (.type "tuple") (.ref CP) = some false
  kitI : PySem.W.kitOne K (.type "int") (.ref CP) = some false
  eqx : EqX K 3 C fE
  gP : mg "Pin" = some (.ref CP)
  gM : mg "Must" = some (.ref (C 0))
  gN : mg "Never" = some (.ref (C 1))
  gS : mg "Stay" = some (.ref (C 2))
def spPInit (K : PySem.W.Frag) : Sp := fun vs H Q _ => ∃ (x dx D : Addr) (u : V), vs = [.ref x, u] ∧ H x = some (.ins D dx []) ∧ Cls K D ∧ NoAttr K D "who" ∧ Q .non (upd H x (.ins D dx [("who", u)]))
def spMInit (C : Nat → Addr) (i : Nat) (fl : Str) : Sp := fun vs H Q _ => ∃ (x dx : Addr) (u n : V), vs = [.ref x, u, n] ∧ H x = some (.ins (C i) dx []) ∧ Q .non (upd (upd H x (.ins (C i) dx [("who", u)])) x (.ins (C i) dx [("who", u), (fl, n)]))
def spTold (C : Nat → Addr) (i : Nat) : Sp := fun vs H Q _ => ∃ (x : Addr) (p : PinV), vs = [.ref x] ∧ p.ix = i ∧ PnAt C H x p ∧ ∀ q, H q = none → Q (.ref q) (upd H q (.tup p.tv))
section
variable {P : Program} {w : World} {K : PySem.W.Frag} {mg : Str → Option Value} {base : Heap}
theorem scPI : FnScope ["self", "user"] ["self", "user"] (defScope s_Pin___init__) := ⟨rfl, rfl, rfl, by decide +kernel, rfl, by decide +kernel, by decide +kernel⟩
theorem ok_pinit {f : Addr} {fd : FuncData} (F : Fun K "__init__" "Pin.__init__" s_Pin___init__ f fd) : FnOk P w K mg base CX0 1 f fd ["self", "user"] (spPInit K) := by
  refine F.ok scPI (fun vs H Q E h => ?_) (fun cdv A outer s H vs Q E hr h => ?_)
  · obtain ⟨x, dx, D, u, rfl, _⟩ := h
    rfl
  · obtain ⟨x, dx, D, u, rfl, hx, cl, no, k⟩ := h
    refine ⟨_, pss_one (ps_fld (pv 0) (pv 1) rfl), ?_⟩
    exact ⟨_, rfl, _, rfl, x, D, dx, [], rfl, hx, cl, no, by decide, k⟩
theorem scMI : SupScope ["self", "user", "name"] ["self", "user", "name"] (defScope s_Must___init__) := ⟨rfl, rfl, rfl, by decide +kernel, rfl, by decide +kernel, by decide +kernel, by decide +kernel, rfl, rfl⟩
theorem scNI : SupScope ["self", "user", "name"] ["self", "user", "name"] (defScope s_Never___init__) := ⟨rfl, rfl, rfl, by decide +kernel, rfl, by decide +kernel, by decide +kernel, by decide +kernel, rfl, rfl⟩
theorem ok_minit {f g CP fE : Addr} {C : Nat → Addr} {fd fdg : FuncData} (F : FunS P K "__init__" "Must.__init__" s_Must___init__ (C 0) f fd) (L : PnF K mg CP C fE) (O : SupOk K (C 0) (C 0) "__init__" g) (G : FnOk P w K mg base CX0 1 g fdg ["self", "user"] (spPInit K)) (hG : Binds K fdg ["self", "user"] [])
    (hms : mg "super" = none) (htop : (P.main.scope.names.lookup ("super" : Str)).isSome = false) : FnOk P w K mg base CX0 2 f fd ["self", "user", "name"] (spMInit C 0 "wanted_flag") := by
  refine FunS.ok F scMI rfl rfl rfl O G hG hms htop (fun vs H Q E h => ?_) (Nat.le_refl 1) (by decide) (fun cd cc A outer s H vs Q E hr h => ?_) (fun _ _ _ => rfl) (fun _ _ _ => rfl) (fun _ _ _ => rfl) (fun _ _ _ => rfl) (fun _ _ _ _ => rfl)
  · obtain ⟨x, dx, u, n, rfl, _⟩ := h
    rfl
  · obtain ⟨x, dx, u, n, rfl, hx, k⟩ := h
    refine ⟨x, dx, [], _, _, ⟨rfl, hx⟩, pa_cons (pv 1) pa_nil, pss_one (ps_fld (pv 0) (pv 2) rfl), ?_⟩
    exact ⟨_, rfl, x, dx, C 0, u, rfl, hx, L.cl 0 (by decide), L.who 0 (by decide), _, rfl, _, rfl, x, C 0, dx, _, rfl, upd_same, L.cl 0 (by decide), L.fM, (by show 1 < 1000; decide), k⟩
theorem ok_ninit {f g CP fE : Addr} {C : Nat → Addr} {fd fdg : FuncData} (F : FunS P K "__init__" "Never.__init__" s_Never___init__ (C 1) f fd) (L : PnF K mg CP C fE) (O : SupOk K (C 1) (C 1) "__init__" g) (G : FnOk P w K mg base CX0 1 g fdg ["self", "user"] (spPInit K)) (hG : Binds K fdg ["self", "user"] [])
    (hms : mg "super" = none) (htop : (P.main.scope.names.lookup ("super" : Str)).isSome = false) : FnOk P w K mg base CX0 2 f fd ["self", "user", "name"] (spMInit C 1 "barred_flag") := by
  refine FunS.ok F scNI rfl rfl rfl O G hG hms htop (fun vs H Q E h => ?_) (Nat.le_refl 1) (by decide) (fun cd cc A outer s H vs Q E hr h => ?_) (fun _ _ _ => rfl) (fun _ _ _ => rfl) (fun _ _ _ => rfl) (fun _ _ _ => rfl) (fun _ _ _ _ => rfl)
  · obtain ⟨x, dx, u, n, rfl, _⟩ := h
    rfl
  · obtain ⟨x, dx, u, n, rfl, hx, k⟩ := h
    refine ⟨x, dx, [], _, _, ⟨rfl, hx⟩, pa_cons (pv 1) pa_nil, pss_one (ps_fld (pv 0) (pv 2) rfl), ?_⟩
    exact ⟨_, rfl, x, dx, C 1, u, rfl, hx, L.cl 1 (by decide), L.who 1 (by decide), _, rfl, _, rfl, x, C 1, dx, _, rfl, upd_same, L.cl 1 (by decide), L.fN, (by show 1 < 1000; decide), k⟩
theorem scTM : FnScope ["self"] ["self"] (defScope s_Must_told) := ⟨rfl, rfl, rfl, by decide +kernel, rfl, by decide +kernel, by decide +kernel⟩
theorem scTN : FnScope ["self"] ["self"] (defScope s_Never_told) := ⟨rfl, rfl, rfl, by decide +kernel, rfl, by decide +kernel, by decide +kernel⟩
theorem scTS : FnScope ["self"] ["self"] (defScope s_Stay_told) := ⟨rfl, rfl, rfl, by decide +kernel, rfl, by decide +kernel, by decide +kernel⟩
theorem ok_toldM {f CP fE : Addr} {C : Nat → Addr} {fd : FuncData} (F : Fun K "told" "Must.told" s_Must_told f fd) (L : PnF K mg CP C fE) : FnOk P w K mg base CX0 1 f fd ["self"] (spTold C 0) := by
  refine F.ok scTM (fun vs H Q E h => ?_) (fun cdv A outer s H vs Q E hr h => ?_)
  · obtain ⟨x, p, rfl, _⟩ := h
    rfl
  · obtain ⟨x, p, rfl, hp, ⟨dx, hx⟩, k⟩ := h
    refine ⟨_, pss_one (ps_ret (pe_tup (pa_cons pe_str (pa_cons (pe_fld (pv 0) rfl) (pa_cons (pe_fld (pv 0) rfl) pa_nil))))), ?_⟩
    cases p with
    | must u n => exact ⟨_, rfl, x, C 0, dx, _, u, rfl, hx, L.cl 0 (by decide), L.who 0 (by decide), rfl, _, rfl, x, C 0, dx, _, n, rfl, hx, L.cl 0 (by decide), L.fM, rfl, by show 3 ≤ sizeLine; decide, k⟩
    | never u n => exact absurd (show 1 = 0 from hp) (by decide)
    | stay u => exact absurd (show 2 = 0 from hp) (by decide)
theorem ok_toldN {f CP fE : Addr} {C : Nat → Addr} {fd : FuncData} (F : Fun K "told" "Never.told" s_Never_told f fd) (L : PnF K mg CP C fE) : FnOk P w K mg base CX0 1 f fd ["self"] (spTold C 1) := by
  refine F.ok scTN (fun vs H Q E h => ?_) (fun cdv A outer s H vs Q E hr h => ?_)
  · obtain ⟨x, p, rfl, _⟩ := h
    rfl
  · obtain ⟨x, p, rfl, hp, ⟨dx, hx⟩, k⟩ := h
    refine ⟨_, pss_one (ps_ret (pe_tup (pa_cons pe_str (pa_cons (pe_fld (pv 0) rfl) (pa_cons (pe_fld (pv 0) rfl) pa_nil))))), ?_⟩
    cases p with
    | never u n => exact ⟨_, rfl, x, C 1, dx, _, u, rfl, hx, L.cl 1 (by decide), L.who 1 (by decide), rfl, _, rfl, x, C 1, dx, _, n, rfl, hx, L.cl 1 (by decide), L.fN, rfl, by show 3 ≤ sizeLine; decide, k⟩
    | must u n => exact absurd (show 0 = 1 from hp) (by decide)
    | stay u => exact absurd (show 2 = 1 from hp) (by decide)
theorem ok_toldS {f CP fE : Addr} {C : Nat → Addr} {fd : FuncData} (F : Fun K "told" "Stay.told" s_Stay_told f fd) (L : PnF K mg CP C fE) : FnOk P w K mg base CX0 1 f fd ["self"] (spTold C 2) := by
  refine F.ok scTS (fun vs H Q E h => ?_) (fun cdv A outer s H vs Q E hr h => ?_)
  · obtain ⟨x, p, rfl, _⟩ := h
    rfl
  · obtain ⟨x, p, rfl, hp, ⟨dx, hx⟩, k⟩ := h
    refine ⟨_, pss_one (ps_ret (pe_tup (pa_cons pe_str (pa_cons (pe_fld (pv 0) rfl) pa_nil)))), ?_⟩
    cases p with
    | stay u => exact ⟨_, rfl, x, C 2, dx, _, u, rfl, hx, L.cl 2 (by decide), L.who 2 (by decide), rfl, by show 2 ≤ sizeLine; decide, k⟩
    | must u n => exact absurd (show 0 = 2 from hp) (by decide)
    | never u n => exact absurd (show 1 = 2 from hp) (by decide)
end
/-- the property told of each class -/
structure ToF (P : Program) (w : World) (K : PySem.W.Frag) (mg : Str → Option Value) (base : Heap) (C : Nat → Addr) (p g : Nat → Addr) (fd : Nat → FuncData) : Prop where
  pr : ∀ i, i < 3 → PropOf K (C i) "told" (p i) (g i)
  fn : ∀ i, i < 3 → FnOk P w K mg base CX0 1 (g i) (fd i) ["self"] (spTold C i)
  bn : ∀ i, i < 3 → Binds K (fd i) ["self"] []
def tTold (C : Nat → Addr) (te : TE) : TE := fun σ H Q => te σ H fun x H1 => ∃ a p, x = .ref a ∧ PnAt C H1 a p ∧ ∀ q, H1 q = none → Q (.ref q) (upd H1 q (.tup p.tv))
theorem pe_told {X : Cx} {e : Expr} {te : TE} {pos : Pos} {C : Nat → Addr} {p g : Nat → Addr} {fd : Nat → FuncData} (he : PE X e te) (cl : ∀ i, i < 3 → Cls X.K (C i)) (T : ToF X.prog X.w X.K X.mg X.base C p g fd) (hr : Room 2 X.A)
    (hab : attributeBase e "told" X.env (eval e X.env) = eval e X.env) : PE X (.Attribute e "told" pos) (tTold C te) := by
  refine ⟨fun pins s σ H Q I h => ?_⟩
  refine attr_of hab (thn (he.run pins s σ H _ I h) fun u s1 ⟨x, H1, I1, rx, a, pn, ex, ⟨dx, ea⟩, q⟩ => ?_)
  subst ex
  obtain rfl : u = Value.ref a := rx
  have hi := pn.lt
  exact getprop_ok I1 ea (cl _ hi) (T.pr _ hi) (T.fn _ hi) hr (T.bn _ hi) .nil pass0 ⟨a, pn, rfl, rfl, ⟨dx, ea⟩, q⟩
/-! ### told things as data -/
/-- an int or a text -/
def IS (x : V) : Prop := (∃ i, x = .int i) ∨ ∃ z, x = .str z ∧ PyData.strOk z = true
def pdV : V → PyData
  | .int i => .int i
  | .str z => .str z
  | _ => .none
theorem dp_is {K : PySem.W.Frag} {H : Hp} : ∀ {xs : List V}, (∀ x ∈ xs, IS x) → DpAll K H xs (xs.map pdV)
  | [], _ => .nil
  | x :: xs, h => by
    rcases h x List.mem_cons_self with ⟨i, rfl⟩ | ⟨z, rfl, ok⟩
    · exact .cons (.int i) (dp_is fun y hy => h y (List.mem_cons_of_mem _ hy))
    · exact .cons (.str z) (dp_is fun y hy => h y (List.mem_cons_of_mem _ hy))
theorem lay_is : ∀ {xs : List V}, (∀ x ∈ xs, IS x) → PyData.canLayAll0 (xs.map pdV) = true ∧ PyData.depthAll (xs.map pdV) ≤ 0
  | [], _ => ⟨rfl, Nat.le_refl _⟩
  | x :: xs, h => by
    obtain ⟨h1, h2⟩ := lay_is fun y hy => h y (List.mem_cons_of_mem _ hy)
    rcases h x List.mem_cons_self with ⟨i, rfl⟩ | ⟨z, rfl, ok⟩
    · constructor
      · show (true && PyData.canLayAll0 (xs.map pdV)) = true
        rw [h1] <;> rfl
      · show max 0 (PyData.depthAll (xs.map pdV)) ≤ 0
        omega
    · constructor
      · show (PyData.strOk z && PyData.canLayAll0 (xs.map pdV)) = true
        rw [h1, ok] <;> rfl
      · show max 0 (PyData.depthAll (xs.map pdV)) ≤ 0
        omega
theorem tup_shaped {xs : List V} (h : ∀ x ∈ xs, IS x) : SeqAt.shaped (.tuple (xs.map pdV)) = true := by
  obtain ⟨h1, h2⟩ := lay_is h
  have c : (PyData.tuple (xs.map pdV)).canLay0 = true := h1
  unfold SeqAt.shaped
  rw [c]
  have d : (PyData.tuple (xs.map pdV)).depth ≤ 64 := by
    show PyData.depthAll (xs.map pdV) + 1 ≤ 64
    omega
  rw [decide_eq_true d] <;> rfl
theorem eqv_is {x y : V} (hx : IS x) (hy : IS y) : PyData.eqv (pdV x) (pdV y) = decide (x = y) := by
  rcases hx with ⟨i, rfl⟩ | ⟨z, rfl, _⟩ <;> rcases hy with ⟨j, rfl⟩ | ⟨z', rfl, _⟩ <;> rw [Bool.eq_iff_iff] <;> simp [PyData.eqv, pdV]
theorem eqv_alls : ∀ {xs ys : List V}, (∀ x ∈ xs, IS x) → (∀ y ∈ ys, IS y) → PyData.eqvAll (xs.map pdV) (ys.map pdV) = decide (xs = ys)
  | [], [], _, _ => by simp [PyData.eqvAll]
  | [], _ :: _, _, _ => by simp [PyData.eqvAll]
  | _ :: _, [], _, _ => by simp [PyData.eqvAll]
  | x :: xs, y :: ys, hx, hy => by
    simp only [List.map_cons, PyData.eqvAll]
    rw [eqv_alls (fun z hz => hx z (List.mem_cons_of_mem _ hz)) (fun z hz => hy z (List.mem_cons_of_mem _ hz)), eqv_is (hx x List.mem_cons_self) (hy y List.mem_cons_self), Bool.eq_iff_iff, Bool.and_eq_true]
    simp
theorem eqv_tups {xs ys : List V} (hx : ∀ x ∈ xs, IS x) (hy : ∀ y ∈ ys, IS y) : PyData.eqv (.tuple (xs.map pdV)) (.tuple (ys.map pdV)) = decide (xs = ys) := by
  simp only [PyData.eqv]
  exact eqv_alls hx hy
/-- == and != of two tuples of ints and texts -/
theorem eq_tups {K : PySem.W.Frag} {H : Hp} {a b : Addr} {xs ys : List V} {Q : VK} (ha : SqT K H a xs) (hb : SqT K H b ys) (hx : ∀ x ∈ xs, IS x) (hy : ∀ y ∈ ys, IS y) (q : Q (.bl (decide (xs = ys))) H) : rEqD K (.ref a) (.ref b) H Q :=
  ⟨_, _, .tup ha (dp_is hx), .tup hb (dp_is hy), tup_shaped hx, tup_shaped hy, by rw [eqv_tups hx hy]; exact q⟩
theorem ne_tups {K : PySem.W.Frag} {H : Hp} {a b : Addr} {xs ys : List V} {Q : VK} (ha : SqT K H a xs) (hb : SqT K H b ys) (hx : ∀ x ∈ xs, IS x) (hy : ∀ y ∈ ys, IS y) (q : Q (.bl (!decide (xs = ys))) H) : rNeD K (.ref a) (.ref b) H Q :=
  ⟨_, _, .tup ha (dp_is hx), .tup hb (dp_is hy), tup_shaped hx, tup_shaped hy, by rw [eqv_tups hx hy]; exact q⟩
/-- a pin of ints and texts -/
def PinV.Is (p : PinV) : Prop := ∀ x ∈ p.tv, IS x
/-- what an __eq__ of pins answers -/
def RPn (C : Nat → Addr) : Addr → V → Bool → Hp → Prop := fun a y v H => ∃ p : PinV, PnAt C H a p ∧ p.Is ∧
  ((∃ (b : Addr) (p' : PinV), y = .ref b ∧ PnAt C H b p' ∧ p'.Is ∧ v = decide (p.tv = p'.tv)) ∨ ((∃ (b : Addr) (xs : List V), y = .ref b ∧ H b = some (.tup xs)) ∧ v = false) ∨ ((∃ i, y = .int i) ∧ v = false))
theorem scPE : FnScope ["self", "other"] ["self", "other"] (defScope s_Pin___eq__) := ⟨rfl, rfl, rfl, by decide +kernel, rfl, by decide +kernel, by decide +kernel⟩
theorem ok_peq {P : Program} {w : World} {K : PySem.W.Frag} {mg : Str → Option Value} {base : Heap} {f CP fE : Addr} {C p g : Nat → Addr} {fd : FuncData} {fdt : Nat → FuncData} (F : Fun K "__eq__" "Pin.__eq__" s_Pin___eq__ f fd) (N : Nm mg) (L : PnF K mg CP C fE) (T : ToF P w K mg base C p g fdt) : FnOk P w K mg base CX0 3 f fd ["self", "other"] (spEqX (RPn C)) := by
  refine F.ok scPE (fun vs H Q E h => ?_) (fun cdv A outer s H vs Q E hr h => ?_)
  · obtain ⟨a, y, v, rfl, _⟩ := h
    rfl
  · obtain ⟨a, y, v, rfl, ⟨pn, hp, is, rel⟩, k⟩ := h
    refine ⟨_, pss_one (ps_ret (pe_and (pe_callB call_isi (by rfl) N.isi (by decide +kernel) (pa_cons (pv 1) (pa_cons (pe_glob (v := .ref CP) (by rfl) L.gP rfl) pa_nil))) (pe_one (pe_cmpR (op_eqD hr.units) (pe_told (pv 0) L.cl T hr rfl) (pe_told (pv 1) L.cl T hr rfl) (nomark _))))), ?_⟩
    rcases rel with ⟨b, p', rfl, hp', is', rfl⟩ | ⟨⟨b, xs, rfl, hb⟩, rfl⟩ | ⟨⟨i, rfl⟩, rfl⟩
    · have S := L.isf _ p'.lt
      have hb := hp'
      obtain ⟨dy, hb⟩ := hb
      refine ⟨_, rfl, .ref b, _, .ref (C p'.ix), _, true, rfl, .own _, .base (.ins hb (L.cl _ p'.lt) S.ha S.hn S.ht S.hm), L.kit _ p'.lt, true, rfl, ?_⟩
      refine iteT ?_
      refine ⟨_, rfl, a, pn, rfl, hp, fun q nq => ?_⟩
      have s1 := same_new (o := .tup pn.tv) nq
      refine ⟨_, rfl, b, p', rfl, hp'.mono s1, fun q' nq' => ?_⟩
      have s2 := same_new (o := .tup p'.tv) nq'
      exact eq_tups (.inl (.inl (s2 _ _ upd_same))) (.inl (.inl upd_same)) is is' (k _ fun b o e => (s1.trans s2) b o e)
    · refine ⟨_, rfl, .ref b, _, .type "tuple", _, false, rfl, .own _, .base (.tup hb), L.kitT, false, rfl, ?_⟩
      exact iteF (k H fun _ _ e => e)
    · refine ⟨_, rfl, .int i, _, .type "int", _, false, rfl, .own _, .base (.int i), L.kitI, false, rfl, ?_⟩
      exact iteF (k H fun _ _ e => e)
end FT


/-! pins: allows -/
namespace FT
open PySem L2 TL ClX
/-- whether the user may have the path goal, from the path before, the flags known -/
def allowsB (p : PinV) (path goal flags : List Str) : Bool := match p with
  | .must _ (.str z) => decide (z ∈ goal)
  | .never _ (.str z) => !decide (z ∈ goal)
  | .stay _ => decide ((path.filter fun z => decide (z ∈ flags)).Perm goal)
  | _ => false
def StrL (l : List Str) : Prop := (∀ z ∈ l, PyData.strOk z = true) ∧ l.length < 60
theorem is_strs {l : List Str} (h : ∀ z ∈ l, PyData.strOk z = true) : ∀ x ∈ l.map V.str, IS x := fun x hx => by
  obtain ⟨z, hz, rfl⟩ := List.mem_map.mp hx
  exact .inr ⟨z, rfl, h z hz⟩
theorem list_shaped {xs : List V} (h : ∀ x ∈ xs, IS x) : SeqAt.shaped (.list (xs.map pdV)) = true := by
  obtain ⟨h1, h2⟩ := lay_is h
  have c : (PyData.list (xs.map pdV)).canLay0 = true := h1
  unfold SeqAt.shaped
  rw [c]
  have d : (PyData.list (xs.map pdV)).depth ≤ 64 := by
    show PyData.depthAll (xs.map pdV) + 1 ≤ 64
    omega
  rw [decide_eq_true d] <;> rfl
theorem eqv_lists {xs ys : List V} (hx : ∀ x ∈ xs, IS x) (hy : ∀ y ∈ ys, IS y) : PyData.eqv (.list (xs.map pdV)) (.list (ys.map pdV)) = decide (xs = ys) := by
  simp only [PyData.eqv]
  exact eqv_alls hx hy
theorem eq_lists {K : PySem.W.Frag} {H : Hp} {a b : Addr} {xs ys : List V} {Q : VK} (ha : SqL K H a xs) (hb : SqL K H b ys) (hx : ∀ x ∈ xs, IS x) (hy : ∀ y ∈ ys, IS y) (q : Q (.bl (decide (xs = ys))) H) : rEqD K (.ref a) (.ref b) H Q :=
  ⟨_, _, .lst ha (dp_is hx), .lst hb (dp_is hy), list_shaped hx, list_shaped hy, by rw [eqv_lists hx hy]; exact q⟩
/-- two sorted rows are one exactly if the rows have the same items -/
theorem sorted_perm {A B ys zs : List Str} (py : ys.Perm A) (pz : zs.Perm B) (hy : PyProof.Rows.sortedS ys = true) (hz : PyProof.Rows.sortedS zs = true) : decide (ys.map V.str = zs.map V.str) = decide (A.Perm B) := by
  rw [Bool.eq_iff_iff, decide_eq_true_iff, decide_eq_true_iff]
  constructor
  · intro e
    have e' : ys = zs := by
      have inj : ∀ a b : Str, V.str a = V.str b → a = b := fun a b h => V.str.inj h
      exact (List.map_inj_right inj).mp e
    exact py.symm.trans (e' ▸ pz)
  · intro p
    rw [sorted_one (py.trans (p.trans pz.symm)) hy hz]
def spAllow (K : PySem.W.Frag) (C : Nat → Addr) (i : Nat) : Sp := fun vs H Q _ => ∃ (x a b c : Addr) (p : PinV) (path goal flags : List Str), vs = [.ref x, .ref a, .ref b, .ref c] ∧ p.ix = i ∧ p.Is ∧ PnAt C H x p ∧ (∀ u n, p = .must u n ∨ p = .never u n → ∃ z, n = .str z) ∧
  SqT K H a (path.map V.str) ∧ SqT K H b (goal.map V.str) ∧ SqL K H c (flags.map V.str) ∧ StrL path ∧ StrL goal ∧ ∀ H', Same H H' → Q (.bl (allowsB p path goal flags)) H'
section
variable {P : Program} {w : World} {K : PySem.W.Frag} {mg : Str → Option Value} {base : Heap}
abbrev NAl : List Str := ["self", "path", "goal", "flags"]
abbrev NAs : List Str := ["self", "path", "goal", "flags", "name"]
theorem scAM : FnScope NAl NAl (defScope s_Must_allows) := ⟨rfl, rfl, rfl, by decide +kernel, rfl, by decide +kernel, by decide +kernel⟩
theorem scAN : FnScope NAl NAl (defScope s_Never_allows) := ⟨rfl, rfl, rfl, by decide +kernel, rfl, by decide +kernel, by decide +kernel⟩
theorem scAS : FnScope NAs NAl (defScope s_Stay_allows) := ⟨rfl, rfl, rfl, by decide +kernel, rfl, by decide +kernel, by decide +kernel⟩
theorem ok_allowM {f CP fE : Addr} {C : Nat → Addr} {fd : FuncData} (F : Fun K "allows" "Must.allows" s_Must_allows f fd) (L : PnF K mg CP C fE) : FnOk P w K mg base CX0 1 f fd NAl (spAllow K C 0) := by
  refine F.ok scAM (fun vs H Q E h => ?_) (fun cdv A outer s H vs Q E hr h => ?_)
  · obtain ⟨x, a, b, c, p, path, goal, flags, rfl, _⟩ := h
    rfl
  · obtain ⟨x, a, b, c, p, path, goal, flags, rfl, hi, is, ⟨dx, hx⟩, tx, ha, hb, hc, lp, lg, k⟩ := h
    refine ⟨_, pss_one (ps_ret (pe_cmpR op_in_seq (pe_fld (pv 0) rfl) (pv 2) rfl)), ?_⟩
    cases p with
    | must u n =>
      obtain ⟨z, rfl⟩ := tx u n (.inl rfl)
      refine ⟨_, rfl, x, C 0, dx, _, .str z, rfl, hx, L.cl 0 (by decide), L.fM, rfl, _, rfl, b, _, rfl, .inr hb, rfl, flat_strs goal, ?_⟩
      show Q (.bl (inV (.str z) (goal.map V.str))) H
      rw [inV_strs]
      exact k H (fun _ _ e => e)
    | never u n => exact absurd (show 1 = 0 from hi) (by decide)
    | stay u => exact absurd (show 2 = 0 from hi) (by decide)
theorem ok_allowN {f CP fE : Addr} {C : Nat → Addr} {fd : FuncData} (F : Fun K "allows" "Never.allows" s_Never_allows f fd) (L : PnF K mg CP C fE) : FnOk P w K mg base CX0 1 f fd NAl (spAllow K C 1) := by
  refine F.ok scAN (fun vs H Q E h => ?_) (fun cdv A outer s H vs Q E hr h => ?_)
  · obtain ⟨x, a, b, c, p, path, goal, flags, rfl, _⟩ := h
    rfl
  · obtain ⟨x, a, b, c, p, path, goal, flags, rfl, hi, is, ⟨dx, hx⟩, tx, ha, hb, hc, lp, lg, k⟩ := h
    refine ⟨_, pss_one (ps_ret (pe_cmpR op_notIn_seq (pe_fld (pv 0) rfl) (pv 2) rfl)), ?_⟩
    cases p with
    | never u n =>
      obtain ⟨z, rfl⟩ := tx u n (.inr rfl)
      refine ⟨_, rfl, x, C 1, dx, _, .str z, rfl, hx, L.cl 1 (by decide), L.fN, rfl, _, rfl, b, _, rfl, .inr hb, rfl, flat_strs goal, ?_⟩
      show Q (.bl (!inV (.str z) (goal.map V.str))) H
      rw [inV_strs]
      exact k H (fun _ _ e => e)
    | must u n => exact absurd (show 0 = 1 from hi) (by decide)
    | stay u => exact absurd (show 2 = 1 from hi) (by decide)
theorem ok_allowS {f CP fE : Addr} {C : Nat → Addr} {fd : FuncData} (F : Fun K "allows" "Stay.allows" s_Stay_allows f fd) (N : Nm mg) (L : PnF K mg CP C fE) : FnOk P w K mg base CX0 1 f fd NAl (spAllow K C 2) := by
  refine F.ok scAS (fun vs H Q E h => ?_) (fun cdv A outer s H vs Q E hr h => ?_)
  · obtain ⟨x, a, b, c, p, path, goal, flags, rfl, _⟩ := h
    rfl
  · obtain ⟨x, a, b, c, p, path, goal, flags, rfl, hi, is, ⟨dx, hx⟩, tx, ha, hb, hc, lp, lg, k⟩ := h
    have nd := scAS.nd
    have big : 1000 ≤ sizeLine := by decide
    refine ⟨_, pss_one (ps_ret (pe_cmpR (op_eqD hr.units) (pe_callB cr_sortedLT (by rfl) N.srt (by decide +kernel) (pa_cons (pe_lc (own := [("name", 4)]) (g := gName 4) (tt := tTest (tOp (rIn K false) (tVar 4) (tVar 3))) (te := tVar 4) rfl nd (pi_tup (pv 1))
      (blkOk_by (N := NAs) (sc := defScope s_Stay_allows) (by decide +kernel)) (fun _ _ _ _ _ => pg_name (i := 4) nd rfl (Or.inl rfl)) (fun _ _ _ _ _ => pts_one (pt_cmpR op_in_seq (pv 4) (pv 3) rfl)) (fun _ _ _ _ _ => pv 4)) pa_nil))
      (pe_callB cr_sortedLT (by rfl) N.srt (by decide +kernel) (pa_cons (pv 2) pa_nil)) (nomark _))), ?_⟩
    cases p with
    | must u n => exact absurd (show 0 = 2 from hi) (by decide)
    | never u n => exact absurd (show 1 = 2 from hi) (by decide)
    | stay u =>
      refine ⟨_, rfl, a, rfl, ⟨_, ha⟩, fun D nD => lc_it (walk_tup (xs := path.map V.str)) (fun i H' => Same H H' ∧ H' D = some (.lst (((path.take i).filter fun z => decide (z ∈ flags)).map V.str))) ⟨same_new nD, by rw [upd_same] <;> rfl⟩ (fun i H' _ q => Same.sqt q.1 ha) ?_ ?_⟩
      · intro i x Ha Hb hi ⟨q1, q2⟩ ⟨e, hx⟩
        subst e
        obtain ⟨z, hz, rfl⟩ := map_of hx
        refine ⟨rfl, ?_⟩
        refine ⟨_, rfl, _, rfl, c, _, rfl, .inl (Same.sql q1 hc), rfl, flat_strs flags, _, rfl, ?_⟩
        show if inV (.str z) (flags.map V.str) = true then _ else _
        rw [inV_strs]
        have ll := List.length_filter_le (fun z => decide (z ∈ flags)) (path.take i)
        rw [List.length_take] at ll
        have := lp.2
        refine ite2 (fun yes => ?_) (fun no => ?_)
        · refine ⟨_, rfl, _, q2, by rw [List.length_map]; omega, Same.put q1 nD, ?_⟩
          rw [upd_same, take_more hz, List.filter_append, List.filter_cons, if_pos yes, List.filter_nil, List.map_append] <;> rfl
        · refine ⟨q1, ?_⟩
          rw [q2, take_more hz, List.filter_append, List.filter_cons, if_neg no, List.filter_nil, List.append_nil]
      · intro H2 ⟨s2, q2⟩
        rw [List.length_map, List.take_length] at q2
        have ll := List.length_filter_le (fun z => decide (z ∈ flags)) path
        have l1 := lp.2
        have l2 := lg.2
        refine ⟨D, _, rfl, .inl (SqL.of q2), by omega, fun ys p1 py sy n1 => ?_⟩
        have s3 := same_new (o := .lst (ys.map V.str)) n1
        refine ⟨_, rfl, b, _, rfl, .inr (Same.sqt (s2.trans s3) hb), by omega, fun zs p2 pz sz n2 => ?_⟩
        have s4 := same_new (o := .lst (zs.map V.str)) n2
        have oky : ∀ z ∈ ys, PyData.strOk z = true := fun z hz => lp.1 z (List.mem_filter.mp (py.mem_iff.mp hz)).1
        have okz : ∀ z ∈ zs, PyData.strOk z = true := fun z hz => lg.1 z (pz.mem_iff.mp hz)
        refine eq_lists (SqL.of (s4 _ _ upd_same)) (SqL.of upd_same) (is_strs oky) (is_strs okz) ?_
        rw [sorted_perm py pz sy sz]
        exact k _ ((s2.trans s3).trans s4)
end
end FT


/-! things that may be told: Pin.of, _law_is_told -/
namespace FT
open PySem L2 TL ClX
def isStrV : V → Bool
  | .str _ => true
  | _ => false
theorem Dat.strV {K : PySem.W.Frag} {H : Hp} {v : V} {T : String} (d : Dat K H v T) : PySem.W.kitOne K (.type T) (.type "str") = some (isStrV v) := by
  cases d with
  | non => exact kit_ty (r := false) (by decide +kernel)
  | bl b => exact kit_ty (r := false) (by decide +kernel)
  | int i => exact kit_ty (r := false) (by decide +kernel)
  | str z => exact kit_ty (r := true) (by decide +kernel)
  | lst h => exact kit_ty (r := false) (by decide +kernel)
  | tup h => exact kit_ty (r := false) (by decide +kernel)
  | dct h => exact kit_ty (r := false) (by decide +kernel)
theorem Dat.tup_ {K : PySem.W.Frag} {H : Hp} {v : V} {T : String} (d : Dat K H v T) : PySem.W.kitOne K (.type T) (.type "tuple") = some (decide (T = "tuple")) := by
  cases d with
  | non => exact kit_ty (r := false) (by decide +kernel)
  | bl b => exact kit_ty (r := false) (by decide +kernel)
  | int i => exact kit_ty (r := false) (by decide +kernel)
  | str z => exact kit_ty (r := false) (by decide +kernel)
  | lst h => exact kit_ty (r := false) (by decide +kernel)
  | tup h => exact kit_ty (r := true) (by decide +kernel)
  | dct h => exact kit_ty (r := false) (by decide +kernel)
def Item (K : PySem.W.Frag) (H : Hp) (x : V) : Prop := IsDat K H x ∧ ∀ z, x = .str z → z.length ≤ 100
theorem Item.mono {K : PySem.W.Frag} {H H' : Hp} {x : V} (s : Same H H') (h : Item K H x) : Item K H' x := ⟨h.1.mono s, h.2⟩
/-- a thing that may be told: a tuple of these items, another thing -/
def ThV (K : PySem.W.Frag) (H : Hp) (v : V) : Option (List V) → Prop
  | none => ∃ T, Dat K H v T ∧ T ≠ "tuple"
  | some xs => ∃ a, v = .ref a ∧ H a = some (.tup xs) ∧ (∀ x ∈ xs, Item K H x) ∧ xs.length ≤ 12
theorem ThV.mono {K : PySem.W.Frag} {H H' : Hp} {v : V} {o : Option (List V)} (s : Same H H') (h : ThV K H v o) : ThV K H' v o := by
  cases o with
  | none => exact let ⟨T, d, n⟩ := h; ⟨T, d.mono s, n⟩
  | some xs => exact let ⟨a, e, ha, it, l⟩ := h; ⟨a, e, s _ _ ha, fun x hx => (it x hx).mono s, l⟩
def nmV : V → Bool
  | .str z => nmB z
  | _ => false
/-- the pin that a thing tells -/
def toldX (xs : List V) : Option PinV :=
  if ¬ (xs.length = 2 ∨ xs.length = 3) then none
  else if isStrV (xs.getD 0 .non) = false then none
  else if isGe (xs.getD 1 .non) 0 = false then none
  else if xs.length = 2 then (if xs.getD 0 .non = .str "stay" then some (.stay (xs.getD 1 .non)) else none)
  else if ¬ (xs.getD 0 .non = .str "must" ∨ xs.getD 0 .non = .str "never") then none
  else if nmV (xs.getD 2 .non) = false then none
  else if xs.getD 0 .non = .str "must" then some (.must (xs.getD 1 .non) (xs.getD 2 .non)) else some (.never (xs.getD 1 .non) (xs.getD 2 .non))
def toldOf : Option (List V) → Option PinV
  | none => none
  | some xs => toldX xs
theorem getD_at {xs : List V} {i : Nat} (h : i < xs.length) : xs[i]? = some (xs.getD i .non) := by
  rw [List.getD_eq_getElem?_getD, List.getElem?_eq_getElem h] <;> rfl
theorem getD_in {xs : List V} {i : Nat} (h : i < xs.length) : xs.getD i .non ∈ xs := List.mem_of_getElem? (getD_at h)
theorem isGe_int {v : V} (h : isGe v 0 = true) : ∃ i, v = .int i ∧ 0 ≤ i := by
  cases v with
  | int i => exact ⟨i, rfl, of_decide_eq_true h⟩
  | _ => cases h
theorem isStr_str {v : V} (h : isStrV v = true) : ∃ z, v = .str z := by
  cases v with
  | str z => exact ⟨z, rfl⟩
  | _ => cases h
theorem nmV_str {v : V} (h : nmV v = true) : ∃ z, v = .str z ∧ NameL z := by
  cases v with
  | str z => exact ⟨z, rfl, of_decide_eq_true h⟩
  | _ => cases h
theorem nfB {b : Bool} (h : ¬ b = false) : b = true := by
  cases b with
  | false => exact absurd rfl h
  | true => rfl
theorem len2 {xs : List V} (h : xs.length = 2) : ∃ a b, xs = [a, b] := by
  match xs, h with
  | [a, b], _ => exact ⟨a, b, rfl⟩
theorem len3 {xs : List V} (h : xs.length = 3) : ∃ a b c, xs = [a, b, c] := by
  match xs, h with
  | [a, b, c], _ => exact ⟨a, b, c, rfl⟩
/-- what is told is just the thing -/
theorem told_tv {xs : List V} {p : PinV} (h : toldX xs = some p) : p.tv = xs ∧ p.Is ∧ ∀ u n, p = .must u n ∨ p = .never u n → ∃ z, n = .str z := by
  unfold toldX at h
  by_cases c1 : xs.length = 2 ∨ xs.length = 3
  case neg => rw [if_pos c1] at h; cases h
  rw [if_neg (fun n => n c1)] at h
  by_cases c2 : isStrV (xs.getD 0 .non) = false
  · rw [if_pos c2] at h; cases h
  rw [if_neg c2] at h
  by_cases c3 : isGe (xs.getD 1 .non) 0 = false
  · rw [if_pos c3] at h; cases h
  rw [if_neg c3] at h
  obtain ⟨i, hi, i0⟩ := isGe_int (nfB c3)
  by_cases c4 : xs.length = 2
  · rw [if_pos c4] at h
    by_cases c5 : xs.getD 0 .non = .str "stay"
    · rw [if_pos c5] at h
      cases h
      obtain ⟨a, b, rfl⟩ := len2 c4
      · have ea : a = .str "stay" := c5
        have eb : b = .int i := hi
        subst ea eb
        refine ⟨rfl, fun x hx => ?_, fun u n z => by rcases z with z | z <;> cases z⟩
        simp only [PinV.tv, List.mem_cons, List.not_mem_nil, or_false] at hx
        rcases hx with rfl | rfl
        · exact .inr ⟨_, rfl, by decide +kernel⟩
        · exact .inl ⟨_, rfl⟩
    · rw [if_neg c5] at h; cases h
  rw [if_neg c4] at h
  by_cases c6 : xs.getD 0 .non = .str "must" ∨ xs.getD 0 .non = .str "never"
  case neg => rw [if_pos c6] at h; cases h
  rw [if_neg (fun n => n c6)] at h
  by_cases c7 : nmV (xs.getD 2 .non) = false
  · rw [if_pos c7] at h; cases h
  rw [if_neg c7] at h
  obtain ⟨z, hz, nm⟩ := nmV_str (nfB c7)
  obtain ⟨a, b, c, rfl⟩ := len3 (c1.resolve_left c4)
  · have eb : b = .int i := hi
    have ec : c = .str z := hz
    subst eb ec
    have h : (if a = V.str "must" then some (PinV.must (.int i) (.str z)) else some (PinV.never (.int i) (.str z))) = some p := h
    by_cases c8 : a = .str "must"
    · rw [if_pos c8] at h
      cases h
      refine ⟨by rw [c8] <;> rfl, fun x hx => ?_, fun u n q => ?_⟩
      · have hx : x ∈ [V.str "must", .int i, .str z] := hx
        simp only [List.mem_cons, List.not_mem_nil, or_false] at hx
        rcases hx with rfl | rfl | rfl
        · exact .inr ⟨_, rfl, by decide +kernel⟩
        · exact .inl ⟨_, rfl⟩
        · exact .inr ⟨_, rfl, strOk_name nm⟩
      · rcases q with q | q
        · have q : PinV.must (.int i) (.str z) = .must u n := q
          cases q
          exact ⟨z, rfl⟩
        · cases q
    · rw [if_neg c8] at h
      cases h
      have c9 : a = .str "never" := c6.resolve_left c8
      refine ⟨by rw [c9] <;> rfl, fun x hx => ?_, fun u n q => ?_⟩
      · have hx : x ∈ [V.str "never", .int i, .str z] := hx
        simp only [List.mem_cons, List.not_mem_nil, or_false] at hx
        rcases hx with rfl | rfl | rfl
        · exact .inr ⟨_, rfl, by decide +kernel⟩
        · exact .inl ⟨_, rfl⟩
        · exact .inr ⟨_, rfl, strOk_name nm⟩
      · rcases q with q | q
        · cases q
        · have q : PinV.never (.int i) (.str z) = .never u n := q
          cases q
          exact ⟨z, rfl⟩
theorem FnOk.or2 {P : Program} {w : World} {K : PySem.W.Frag} {mg : Str → Option Value} {base : Heap} {CX : CXT} {k : Nat} {f : Addr} {fd : FuncData} {ps : List Str} {sp sp' : Sp} (F : FnOk P w K mg base CX k f fd ps sp) (G : FnOk P w K mg base CX k f fd ps sp') :
    FnOk P w K mg base CX k f fd ps (fun vs H Q E => sp vs H Q E ∨ sp' vs H Q E) :=
  ⟨fun vs H Q E q => q.elim (F.len vs H Q E) (G.len vs H Q E), fun A outer s H args us vs Q E hr he hb hv hs => hs.elim (F.run A outer s H args us vs Q E hr he hb hv) (G.run A outer s H args us vs Q E hr he hb hv)⟩
def spUserNo (K : PySem.W.Frag) : Sp := fun vs H Q _ => ∃ v : V, vs = [v] ∧ IsDat K H v ∧ Q (.bl (isGe v 0)) H
def spNoName (K : PySem.W.Frag) : Sp := fun vs H Q _ => ∃ (v : V) (T : String), vs = [v] ∧ Dat K H v T ∧ isStrV v = false ∧ Q (.bl false) H
def spNameV (K : PySem.W.Frag) : Sp := fun vs H Q _ => ∃ v : V, vs = [v] ∧ Item K H v ∧ ∀ H', Same H H' → Q (.bl (nmV v)) H'
section
variable {P : Program} {w : World} {K : PySem.W.Frag} {mg : Str → Option Value} {base : Heap}
theorem scUN : FnScope ["value"] ["value"] (defScope s_is_user_number) := ⟨rfl, rfl, rfl, by decide +kernel, rfl, by decide +kernel, by decide +kernel⟩
theorem ok_userNo {f : Addr} {fd : FuncData} (F : Fun K "is_user_number" "is_user_number" s_is_user_number f fd) (T : Nm mg) : FnOk P w K mg base CX0 1 f fd ["value"] (spUserNo K) := by
  refine F.ok scUN (fun vs H Q E h => ?_) (fun cdv A outer s H vs Q E hr h => ?_)
  · obtain ⟨v, rfl, _⟩ := h
    rfl
  · obtain ⟨v, rfl, ⟨t, d⟩, k⟩ := h
    refine ⟨_, pss_one (ps_ret (pe_and (pe_callB call_isi (by rfl) T.isi (by decide +kernel) (pa_cons (pv 0) (pa_cons (pe_bltn (v := .ty "int") (u := .type "int") (by rfl) T.int (by decide +kernel) rfl) pa_nil)))
      (pe_and (pe_not (pe_callB call_isi (by rfl) T.isi (by decide +kernel) (pa_cons (pv 0) (pa_cons (pe_bltn (v := .ty "bool") (u := .type "bool") (by rfl) T.bool (by decide +kernel) rfl) pa_nil)))) (pe_one (pe_cmpR op_ge (pv 0) pe_int (nomark _)))))), ?_⟩
    refine ⟨_, rfl, v, _, _, _, _, rfl, .ty _, d.ty, d.int_, _, rfl, ?_⟩
    refine ite2 (fun yes => ⟨_, rfl, v, _, _, _, _, rfl, .ty _, d.ty, d.bool_, _, rfl, _, rfl, ?_⟩) (fun no => ?_)
    · refine ite2 (fun yes2 => ?_) (fun no2 => ?_)
      · cases v with
        | int i => exact ⟨_, rfl, i, 0, rfl, rfl, k⟩
        | bl b => cases yes2
        | _ => cases yes
      · cases v with
        | int i => exact absurd rfl no2
        | bl b => exact k
        | _ => cases yes
    · cases v with
      | int i => exact absurd rfl no
      | bl b => exact absurd rfl no
      | _ => exact k
theorem ok_noName {f : Addr} {fd : FuncData} (F : Fun K "is_name" "is_name" s_is_name f fd) (T : Nm mg) (C : Cs mg) : FnOk P w K mg base CX0 1 f fd ["value"] (spNoName K) := by
  obtain ⟨t1, g1⟩ := C.long
  refine F.ok scIsName (fun vs H Q E h => ?_) (fun cdv A outer s H vs Q E hr h => ?_)
  · obtain ⟨v, t, rfl, _⟩ := h
    rfl
  · obtain ⟨v, t, rfl, d, no, k⟩ := h
    refine ⟨_, pss_cons (ps_if (PW.pt (pw_or (pt_not (pt_val (pe_callB call_isi (by rfl) T.isi (by decide +kernel) (pa_cons (pv 0) (pa_cons (pe_bltn (v := .ty "str") (u := .type "str") (by rfl) T.str (by decide +kernel) rfl) pa_nil)))))
        (pw_or (pt_not (pt_chain op_le op_le pe_int (pe_callB call_len_str (by rfl) T.len PySem.boot_len (pa_cons (pv 0) pa_nil)) (pe_glob (v := .int 8) (by rfl) g1 ⟨_, rfl⟩))) (pw_or1 (pt_cmpR op_eq (pv 0) pe_str (nomark _))))))
        (pss_one (ps_ret pe_bl)) pss_nil) pss_never, ?_⟩
    refine ⟨_, rfl, v, _, _, _, _, rfl, .ty _, d.ty, d.strV, _, rfl, ?_⟩
    rw [no]
    exact iteT (iteT k)
theorem ok_nameV {f : Addr} {fd : FuncData} (F : Fun K "is_name" "is_name" s_is_name f fd) (T : Nm mg) (C : Cs mg) : FnOk P w K mg base CX0 1 f fd ["value"] (spNameV K) :=
  (FnOk.imp (FnOk.or2 (ok_isNameW F T C) (ok_noName (K := K) F T C))) fun vs H Q E ⟨v, e, it, k⟩ => by
    cases hs : isStrV v with
    | true =>
      obtain ⟨z, rfl⟩ := isStr_str hs
      exact .inl ⟨z, e, by have := it.2 z rfl; omega, k⟩
    | false =>
      obtain ⟨T, d⟩ := it.1
      refine .inr ⟨v, T, e, d, hs, ?_⟩
      have : nmV v = false := by
        cases v with
        | str z => cases hs
        | _ => rfl
      have q := k H (fun _ _ e => e)
      rw [this] at q
      exact q
theorem inV23 (n : Nat) : inV (.int (n : Int)) [V.int 2, V.int 3] = decide (n = 2 ∨ n = 3) := by
  have e : inV (.int (n : Int)) [V.int 2, V.int 3] = (eqV (.int 2) (.int (n : Int)) || (eqV (.int 3) (.int (n : Int)) || false)) := rfl
  have h : ∀ m : Int, eqV (.int m) (.int (n : Int)) = decide (m = (n : Int)) := fun m => by
    by_cases q : m = (n : Int)
    · subst q
      simp [eqV]
    · simp [eqV, q]
  rw [e, h, h, Bool.eq_iff_iff]
  simp
  omega
/-- where the way out of Pin.of lies -/
def OfO (C : Nat → Addr) (CI : Addr) (H : Hp) (Q : VK) (E : XK) : Option PinV → Prop
  | none => Out H E (.e1 CI "index" (.int 0))
  | some p => ∀ y H', Same H H' → H y = none → PnAt C H' y p → Q (.ref y) H'
def spOf (K : PySem.W.Frag) (C : Nat → Addr) (CI : Addr) : Sp := fun vs H Q E => ∃ (v : V) (o : Option (List V)), vs = [v] ∧ ThV K H v o ∧ OfO C CI H Q E (toldOf o)
theorem scOf : FnScope ["value"] ["value"] (defScope s_Pin_of) := ⟨rfl, rfl, rfl, by decide +kernel, rfl, by decide +kernel, by decide +kernel⟩
theorem ok_of {f fU fI CP fE fP CI IT : Addr} {C fi : Nat → Addr} {fd fdU fdI fdP dT : FuncData} {fdi : Nat → FuncData} (F : Fun K "of" "Pin.of" s_Pin_of f fd) (T : Nm mg) (L : PnF K mg CP C fE)
    (UN : Dn P w K mg base CX0 1 "is_user_number" ["value"] (spUserNo K) fU fdU) (NI : Dn P w K mg base CX0 1 "is_name" ["value"] (spNameV K) fI fdI)
    (GP : FnOk P w K mg base CX0 1 fP fdP ["self", "user"] (spPInit K)) (bP : Binds K fdP ["self", "user"] []) (MS : Mk K (C 2) fP)
    (GM : FnOk P w K mg base CX0 2 (fi 0) (fdi 0) ["self", "user", "name"] (spMInit C 0 "wanted_flag")) (GN : FnOk P w K mg base CX0 2 (fi 1) (fdi 1) ["self", "user", "name"] (spMInit C 1 "barred_flag"))
    (bi : ∀ i, i < 2 → Binds K (fdi i) ["self", "user", "name"] []) (Mi : ∀ i, i < 2 → Mk K (C i) (fi i))
    (ET : Er1 P w K mg base "InvalidPin" "index" CI IT dT) : FnOk P w K mg base (L2.CX P w) 4 f fd ["value"] (spOf K C CI) := by
  refine F.okX scOf (fun vs H Q E h => ?_) (fun cdv A outer s H vs Q E hr h => ?_)
  · obtain ⟨v, o, rfl, _⟩ := h
    rfl
  · obtain ⟨v, o, rfl, th, k⟩ := h
    have hr1 : Room 1 _ := hr.mono (by decide)
    have hr2 : Room (1 + 1) _ := hr.mono (by decide)
    have nd := scOf.nd
    have big : 20000 ≤ sizeLine := by decide
    refine ⟨_, pss_cons (ps_if (PW.pt (pw_or (pt_not (pt_val (pe_callB call_isi (by rfl) T.isi (by decide +kernel) (pa_cons (pv 0) (pa_cons (pe_bltn (v := .ty "tuple") (u := .type "tuple") (by rfl) T.tup (by decide +kernel) rfl) pa_nil)))))
          (pw_or (pt_cmpR op_notIn_seq (pe_callB call_len (by rfl) T.len PySem.boot_len (pa_cons (pv 0) pa_nil)) (pe_tup (pa_cons pe_int (pa_cons pe_int pa_nil))) rfl)
          (pw_or1 (pt_not (pt_val (pe_callB call_isi (by rfl) T.isi (by decide +kernel) (pa_cons (pe_ix ix_tup (pv 0) pe_int (fun _ _ => rfl)) (pa_cons (pe_bltn (v := .ty "str") (u := .type "str") (by rfl) T.str (by decide +kernel) rfl) pa_nil)))))))))
        (pss_one (ps_err1 ET rfl (takes_of rfl rfl rfl rfl) hr2 rfl pe_int)) pss_nil)
      (pss_cons (ps_if (pt_not (pt_val (pe_call UN.ok hr1 rfl UN.mgn UN.kp UN.bn .nil pass0 (pa_cons (pe_ix ix_tup (pv 0) pe_int (fun _ _ => rfl)) pa_nil)))) (pss_one (ps_err1 ET rfl (takes_of rfl rfl rfl rfl) hr2 rfl pe_int)) pss_nil)
      (pss_cons (ps_if (pt_cmpR op_eq (pe_callB call_len (by rfl) T.len PySem.boot_len (pa_cons (pv 0) pa_nil)) pe_int (nomark _))
          (pss_cons (ps_if (pt_cmpR op_ne (pe_ix ix_tup (pv 0) pe_int (fun _ _ => rfl)) pe_str (nomark _)) (pss_one (ps_err1 ET rfl (takes_of rfl rfl rfl rfl) hr2 rfl pe_int)) pss_nil)
          (pss_one (ps_ret (pe_make MS GP hr2 (by rfl) L.gS bP .nil pass0 (pa_cons (pe_ix ix_tup (pv 0) pe_int (fun _ _ => rfl)) pa_nil))))) pss_nil)
      (pss_cons (ps_if (PW.pt (pw_or (pt_cmpR op_notIn_seq (pe_ix ix_tup (pv 0) pe_int (fun _ _ => rfl)) (pe_tup (pa_cons pe_str (pa_cons pe_str pa_nil))) rfl)
          (pw_or1 (pt_not (pt_val (pe_call NI.ok hr1 rfl NI.mgn NI.kp NI.bn .nil pass0 (pa_cons (pe_ix ix_tup (pv 0) pe_int (fun _ _ => rfl)) pa_nil))))))) (pss_one (ps_err1 ET rfl (takes_of rfl rfl rfl rfl) hr2 rfl pe_int)) pss_nil)
      (pss_one (ps_ret (pe_ifExp (pt_cmpR op_eq (pe_ix ix_tup (pv 0) pe_int (fun _ _ => rfl)) pe_str (nomark _))
        (pe_make (Mi 0 (by decide)) GM hr (by rfl) L.gM (bi 0 (by decide)) .nil pass0 (pa_cons (pe_ix ix_tup (pv 0) pe_int (fun _ _ => rfl)) (pa_cons (pe_ix ix_tup (pv 0) pe_int (fun _ _ => rfl)) pa_nil)))
        (pe_make (Mi 1 (by decide)) GN hr (by rfl) L.gN (bi 1 (by decide)) .nil pass0 (pa_cons (pe_ix ix_tup (pv 0) pe_int (fun _ _ => rfl)) (pa_cons (pe_ix ix_tup (pv 0) pe_int (fun _ _ => rfl)) pa_nil))))))))), ?_⟩
    cases o with
    | none =>
      obtain ⟨T', d, nT⟩ := th
      refine ⟨_, rfl, v, _, _, _, _, rfl, .ty _, d.ty, d.tup_, _, rfl, ?_⟩
      rw [decide_eq_false nT]
      exact iteT (iteT (out1 k Same.refl))
    | some xs =>
      obtain ⟨a, rfl, ha, it, l12⟩ := th
      refine ⟨_, rfl, .ref a, _, _, _, true, rfl, .ty _, .base (.tup ha), kit_ty (by decide +kernel), true, rfl, iteF ?_⟩
      refine ⟨_, rfl, _, xs.length, rfl, .inr ⟨xs, .inl (.inl ha), rfl⟩, by show 2 ≤ sizeLine; omega, fun q nq => ⟨q, _, rfl, .inr (.inl (.inl upd_same)), rfl, rfl, _, rfl, ?_⟩⟩
      have s1 := same_new (o := .tup [V.int 2, V.int 3]) nq
      obtain ⟨H1, e1⟩ : ∃ X, X = upd H q (.tup [V.int 2, V.int 3]) := ⟨_, rfl⟩
      rw [← e1] at s1 ⊢
      have h1 : SqT K H1 a xs := .inl (.inl (s1 _ _ ha))
      show if (!inV (.int (xs.length : Int)) [V.int 2, V.int 3]) = true then _ else _
      rw [inV23]
      have kk : toldOf (some xs) = toldX xs := rfl
      rw [kk] at k
      unfold toldX at k
      by_cases c1 : xs.length = 2 ∨ xs.length = 3
      case neg =>
        rw [if_pos c1] at k
        rw [decide_eq_false c1]
        exact iteT (iteT (out1 k s1))
      rw [if_neg (fun n => n c1)] at k
      rw [decide_eq_true c1]
      refine iteF ?_
      have l2 : 2 ≤ xs.length := by omega
      have a0 := atI_nat (getD_at (xs := xs) (i := 0) (by omega))
      have a1 := atI_nat (getD_at (xs := xs) (i := 1) (by omega))
      obtain ⟨⟨T0, d0⟩, z0⟩ := (it _ (getD_in (xs := xs) (i := 0) (by omega))).mono s1
      have d1 := ((it _ (getD_in (xs := xs) (i := 1) (by omega))).mono s1).1
      refine ⟨_, rfl, a, xs, 0, _, rfl, rfl, h1, a0, _, _, _, _, _, rfl, .ty _, d0.ty, d0.strV, _, rfl, ?_⟩
      by_cases c2 : isStrV (xs.getD 0 .non) = false
      · rw [if_pos c2] at k
        rw [c2]
        exact iteT (out1 k s1)
      rw [if_neg c2] at k
      rw [nfB c2]
      refine iteF ?_
      refine ⟨_, rfl, a, xs, 1, _, rfl, rfl, h1, a1, _, rfl, d1, _, rfl, ?_⟩
      by_cases c3 : isGe (xs.getD 1 .non) 0 = false
      · rw [if_pos c3] at k
        rw [c3]
        exact iteT (out1 k s1)
      rw [if_neg c3] at k
      rw [nfB c3]
      refine iteF ?_
      obtain ⟨w0, ew⟩ := isStr_str (nfB c2)
      refine ⟨_, rfl, _, xs.length, rfl, .inr ⟨xs, h1, rfl⟩, rfl, _, rfl, ?_⟩
      by_cases c4 : xs.length = 2
      · rw [if_pos c4] at k
        rw [decide_eq_true (show V.int (xs.length : Int) = V.int 2 by rw [c4] <;> rfl)]
        refine iteT ?_
        rw [ew] at a0 k
        refine ⟨_, rfl, a, xs, 0, _, rfl, rfl, h1, a0, rfl, _, rfl, ?_⟩
        by_cases c5 : w0 = "stay"
        · subst c5
          rw [if_pos rfl] at k
          refine iteF ?_
          refine ⟨_, rfl, a, xs, 1, _, rfl, rfl, h1, a1, fun x dx nx nd ne => ⟨x, dx, C 2, _, rfl, upd_same, L.cl 2 (by decide), L.who 2 (by decide), rfl, ?_⟩⟩
          exact k x _ (((s1.put (s1.free nd)).put (s1.free nx)).put (s1.free nx)) (s1.free nx) ⟨dx, upd_same⟩
        · rw [if_neg (fun e => c5 (V.str.inj e))] at k
          rw [decide_eq_false (show ¬ V.str w0 = V.str "stay" from fun e => c5 (V.str.inj e))]
          exact iteT (out1 k s1)
      · rw [if_neg c4] at k
        have l3 : xs.length = 3 := c1.resolve_left c4
        rw [decide_eq_false (show ¬ V.int (xs.length : Int) = V.int 2 from fun e => c4 (by have := V.int.inj e; omega))]
        refine iteF ?_
        have a2 := atI_nat (getD_at (xs := xs) (i := 2) (by omega))
        have i2 := it _ (getD_in (xs := xs) (i := 2) (by omega))
        rw [ew] at a0 k
        refine ⟨_, rfl, a, xs, 0, _, rfl, rfl, h1, a0, by show 2 ≤ sizeLine; omega, fun q2 nq2 => ⟨q2, _, rfl, .inr (.inl (.inl upd_same)), rfl, rfl, _, rfl, ?_⟩⟩
        have s2 := s1.trans (same_new (o := .tup [V.str "must", V.str "never"]) nq2)
        obtain ⟨H2, e2⟩ : ∃ X, X = upd H1 q2 (.tup [V.str "must", V.str "never"]) := ⟨_, rfl⟩
        rw [← e2] at s2 ⊢
        show if (!inV (.str w0) ((["must", "never"] : List Str).map V.str)) = true then _ else _
        rw [inV_strs]
        by_cases c6 : w0 = "must" ∨ w0 = "never"
        case neg =>
          rw [if_pos (fun n => c6 (n.imp V.str.inj V.str.inj))] at k
          rw [decide_eq_false (by simpa using c6)]
          exact iteT (iteT (out1 k s2))
        rw [if_neg (fun n => n (c6.imp (congrArg V.str) (congrArg V.str)))] at k
        rw [decide_eq_true (by simpa using c6)]
        refine iteF ?_
        refine ⟨_, rfl, a, xs, 2, _, rfl, rfl, .inl (.inl (s2 _ _ ha)), a2, _, rfl, i2.mono s2, fun H3 s3 => ⟨_, rfl, ?_⟩⟩
        have s03 := s2.trans s3
        have h3 : SqT K H3 a xs := .inl (.inl (s03 _ _ ha))
        by_cases c7 : nmV (xs.getD 2 .non) = false
        · rw [if_pos c7] at k
          rw [c7]
          exact iteT (out1 k s03)
        rw [if_neg c7] at k
        rw [nfB c7]
        refine iteF ?_
        refine ⟨_, rfl, a, xs, 0, _, rfl, rfl, h3, a0, rfl, _, rfl, ?_⟩
        by_cases c8 : w0 = "must"
        · subst c8
          rw [if_pos rfl] at k
          refine iteT ?_
          refine ⟨_, rfl, a, xs, 1, _, rfl, rfl, h3, a1, _, rfl, a, xs, 2, _, rfl, rfl, h3, a2, fun x dx nx nd ne => ⟨x, dx, _, _, rfl, upd_same, rfl, ?_⟩⟩
          exact k x _ ((((s03.put (s03.free nd)).put (s03.free nx)).put (s03.free nx)).put (s03.free nx)) (s03.free nx) ⟨dx, upd_same⟩
        · rw [if_neg (fun e => c8 (V.str.inj e))] at k
          rw [decide_eq_false (show ¬ V.str w0 = V.str "must" from fun e => c8 (V.str.inj e))]
          refine iteF ?_
          refine ⟨_, rfl, a, xs, 1, _, rfl, rfl, h3, a1, _, rfl, a, xs, 2, _, rfl, rfl, h3, a2, fun x dx nx nd ne => ⟨x, dx, _, _, rfl, upd_same, rfl, ?_⟩⟩
          exact k x _ ((((s03.put (s03.free nd)).put (s03.free nx)).put (s03.free nx)).put (s03.free nx)) (s03.free nx) ⟨dx, upd_same⟩
end
end FT


/-! all objects but some are as they were -/
namespace FT
open PySem L2 TL ClX
/-- all but Ex is as it was -/
def KeepX (Ex : List Addr) (H H' : Hp) : Prop := ∀ b u, b ∉ Ex → H b = some u → H' b = some u
theorem KeepX.of_same {Ex : List Addr} {H H' : Hp} (s : Same H H') : KeepX Ex H H' := fun b u _ e => s b u e
theorem KeepX.trans {Ex : List Addr} {H H1 H2 : Hp} (a : KeepX Ex H H1) (b : KeepX Ex H1 H2) : KeepX Ex H H2 := fun x u n e => b x u n (a x u n e)
end FT


/-! lists of numbers as data -/
namespace FT
open PySem L2 TL ClX LiI
theorem dp_ints {K : PySem.W.Frag} {H : Hp} : ∀ ns : List Int, DpAll K H (ns.map V.int) (ns.map PyData.int)
  | [] => .nil
  | n :: ns => .cons (.int n) (dp_ints ns)
theorem lay_ints : ∀ ns : List Int, PyData.canLayAll0 (ns.map PyData.int) = true ∧ PyData.depthAll (ns.map PyData.int) ≤ 0
  | [] => ⟨rfl, Nat.le_refl _⟩
  | n :: ns => by
    obtain ⟨h1, h2⟩ := lay_ints ns
    constructor
    · show (true && PyData.canLayAll0 (ns.map PyData.int)) = true
      rw [h1] <;> rfl
    · show max 0 (PyData.depthAll (ns.map PyData.int)) ≤ 0
      omega
theorem ints_shaped (ns : List Int) : (PyData.list (ns.map PyData.int)).canLay0 = true ∧ SeqAt.shaped (.list (ns.map PyData.int)) = true := by
  obtain ⟨h1, h2⟩ := lay_ints ns
  have c : (PyData.list (ns.map PyData.int)).canLay0 = true := h1
  refine ⟨c, ?_⟩
  unfold SeqAt.shaped
  rw [c]
  have d : (PyData.list (ns.map PyData.int)).depth ≤ 64 := by
    show PyData.depthAll (ns.map PyData.int) + 1 ≤ 64
    omega
  rw [decide_eq_true d] <;> rfl
end FT


/-! family D (laws k29 to k34, k40 to k49, k52, k56, k57): the drawing state as a dict of 'large', 'rest', 'small', 'turn'; begin, take, pick. -/
namespace FT
open PySem L2 TL ClX LiI
def stD (l i : Addr) (rs tn : Int) : List (Key × V) := [(Sum.inr "large", .ref l), (Sum.inr "rest", .int rs), (Sum.inr "small", .ref i), (Sum.inr "turn", .int tn)]
/-- b: a bound on the turns that were taken -/
def DrawD (H : Hp) (d l i : Addr) (b : Int) : Prop := ∃ (rs tn : Int) (lg sm : List Int), H d = some (.dK (stD l i rs tn)) ∧ H l = some (.lst (lg.map V.int)) ∧ H i = some (.lst (sm.map V.int)) ∧ l ≠ i ∧ (∀ z ∈ lg, 0 ≤ z) ∧ (∀ z ∈ sm, 0 ≤ z) ∧ lg.length ≤ 63 ∧ sm.length ≤ 63 ∧ 0 ≤ rs ∧ 0 ≤ tn ∧ tn ≤ b
theorem DrawD.more {H : Hp} {d l i : Addr} {b b' : Int} (x : DrawD H d l i b) (h : b ≤ b') : DrawD H d l i b' := by
  obtain ⟨lf, tn, lg, it, a1, a2, a3, a4, a5, a6, a7, a8, a9, a10, a11⟩ := x
  exact ⟨lf, tn, lg, it, a1, a2, a3, a4, a5, a6, a7, a8, a9, a10, by omega⟩
theorem DrawD.mono {H H' : Hp} {d l i : Addr} {b : Int} (s : Same H H') (x : DrawD H d l i b) : DrawD H' d l i b := by
  obtain ⟨lf, tn, lg, it, a1, a2, a3, r⟩ := x
  exact ⟨lf, tn, lg, it, s _ _ a1, s _ _ a2, s _ _ a3, r⟩
theorem DrawD.apart {H : Hp} {d l i p : Addr} {b : Int} (x : DrawD H d l i b) (n : H p = none) : p ≠ d ∧ p ≠ l ∧ p ≠ i := by
  obtain ⟨lf, tn, lg, it, a1, a2, a3, r⟩ := x
  exact ⟨(ne_of_none a1 n).symm, (ne_of_none a2 n).symm, (ne_of_none a3 n).symm⟩
theorem DrawD.ne {H : Hp} {d l i : Addr} {b : Int} (x : DrawD H d l i b) : l ≠ d ∧ i ≠ d ∧ l ≠ i := by
  obtain ⟨lf, tn, lg, it, a1, a2, a3, a4, _⟩ := x
  exact ⟨ne_of a2 a1 (by intro z; cases z), ne_of a3 a1 (by intro z; cases z), a4⟩
theorem DrawD.ex {H : Hp} {d l i : Addr} {b : Int} (x : DrawD H d l i b) : ∀ y ∈ [d, l], ∃ u, H y = some u := fun y hy => by
  obtain ⟨lf, tn, lg, it, a1, a2, a3, a4, _⟩ := x
  simp only [List.mem_cons, List.not_mem_nil, or_false] at hy
  rcases hy with rfl | rfl
  · exact ⟨_, a1⟩
  · exact ⟨_, a2⟩
/-- a store elsewhere -/
theorem DrawD.off {H : Hp} {d l i p : Addr} {b : Int} {o : HO} (x : DrawD H d l i b) (n1 : p ≠ d) (n2 : p ≠ l) (n3 : p ≠ i) : DrawD (upd H p o) d l i b := by
  obtain ⟨lf, tn, lg, it, a1, a2, a3, r⟩ := x
  exact ⟨lf, tn, lg, it, by rw [upd_ne n1.symm]; exact a1, by rw [upd_ne n2.symm]; exact a2, by rw [upd_ne n3.symm]; exact a3, r⟩
theorem kx_put {d l p : Addr} {H H' : Hp} {o : HO} (k : KeepX [d, l] H H') (n : H p = none) : KeepX [d, l] H (upd H' p o) := fun b u nb e => by
  rw [upd_ne (ne_of_none e n)]
  exact k b u nb e
theorem kx_free {d l p : Addr} {H H' : Hp} (k : KeepX [d, l] H H') (n : H' p = none) (n1 : p ≠ d) (n2 : p ≠ l) : H p = none := by
  cases e : H p with
  | none => rfl
  | some u =>
    rw [k p u (by simp [n1, n2]) e] at n
    cases n
theorem stD_get {H : Hp} {d l i : Addr} {lf tn : Int} (h : H d = some (.dK (stD l i lf tn))) : DGet H d (.str "large") (some (.ref l)) ∧ DGet H d (.str "rest") (some (.int lf)) ∧ DGet H d (.str "small") (some (.ref i)) ∧ DGet H d (.str "turn") (some (.int tn)) := by
  refine ⟨?_, ?_, ?_, ?_⟩
  · exact .inl ⟨_, Sum.inr "large", .inl h, rfl, rfl⟩
  · exact .inl ⟨_, Sum.inr "rest", .inl h, rfl, rfl⟩
  · exact .inl ⟨_, Sum.inr "small", .inl h, rfl, rfl⟩
  · exact .inl ⟨_, Sum.inr "turn", .inl h, rfl, rfl⟩
theorem stD_rest (l i : Addr) (lf tn z : Int) : putK (stD l i lf tn) (Sum.inr "rest") (.int z) = stD l i z tn := rfl
theorem stD_turn (l i : Addr) (lf tn z : Int) : putK (stD l i lf tn) (Sum.inr "turn") (.int z) = stD l i lf z := rfl
def absZ (z : Int) : Int := if z < 0 then -z else z
/-- the large numbers, the small ones -/
def lgD (ns : List Int) : List Int := (ns.filter fun z => decide (absZ z ≥ 10 ^ 18)).map fun z => absZ z - 10 ^ 18
def smD (ns : List Int) : List Int := ns.map fun z => absZ z % 10 ^ 18
theorem lgD_len (ns : List Int) : (lgD ns).length ≤ ns.length := by
  unfold lgD
  rw [List.length_map]
  exact List.length_filter_le _ _
theorem lgD_nn (ns : List Int) : ∀ z ∈ lgD ns, 0 ≤ z := fun z h => by
  unfold lgD at h
  obtain ⟨y, hy, rfl⟩ := List.mem_map.mp h
  have := of_decide_eq_true (List.mem_filter.mp hy).2
  omega
theorem smD_nn (ns : List Int) : ∀ z ∈ smD ns, 0 ≤ z := fun z h => by
  obtain ⟨y, _, rfl⟩ := List.mem_map.mp h
  exact Int.emod_nonneg _ (by decide)
def spBeginD (K : PySem.W.Frag) : Sp := fun vs H Q _ => ∃ (a : Addr) (ns : List Int), vs = [.ref a] ∧ SqL K H a (ns.map V.int) ∧ ns.length ≤ 63 ∧
  ∀ (H' : Hp) (d l i : Addr), Same H H' → H d = none → H l = none → H i = none → DrawD H' d l i 0 → Q (.ref d) H'
def spTakeD : Sp := fun vs H Q _ => ∃ (d l i : Addr) (b n : Int), vs = [.ref d, .int n] ∧ DrawD H d l i b ∧ b ≤ 10 ^ 12 ∧ 0 < n ∧ n.natAbs < 2 ^ 200 ∧ ∀ (k : Int) (H' : Hp), 0 ≤ k → k < n → DrawD H' d l i (b + 1) → KeepX [d, l] H H' → Q (.int k) H'
/-- an item of a list, a sign of a text -/
def ItemsD (H : Hp) (l : Addr) (v : V) (n : Nat) (P : Nat → V → Prop) : Prop :=
  (∃ (a : Addr) (xs : List V), v = .ref a ∧ a ≠ l ∧ H a = some (.lst xs) ∧ xs.length = n ∧ ∀ i x, xs[i]? = some x → P i x) ∨
  (∃ z : Str, v = .str z ∧ z.length = n ∧ ∀ i s, z.cps.toList[i]? = some s → P i (.str ⟨#[s]⟩))
def spPickD : Sp := fun vs H Q _ => ∃ (d l i : Addr) (b : Int) (v : V) (n : Nat) (P : Nat → V → Prop), vs = [.ref d, v] ∧ DrawD H d l i b ∧ b ≤ 10 ^ 12 ∧ ItemsD H l v n P ∧ 0 < n ∧ n ≤ 1000 ∧
  ∀ (j : Nat) (x : V) (H' : Hp), P j x → DrawD H' d l i (b + 1) → KeepX [d, l] H H' → Q x H'
section
variable {P : Program} {w : World} {K : PySem.W.Frag} {mg : Str → Option Value} {base : Heap}
abbrev NBd : List Str := ["_law_script", "_law_large", "_law_cell"]
theorem scBd : FnScope NBd ["_law_script"] (defScope s__law_begin) := ⟨rfl, rfl, rfl, by decide +kernel, rfl, by decide +kernel, by decide +kernel⟩
theorem ok_beginD {f : Addr} {fd : FuncData} (F : Fun K "_law_begin" "_law_begin" s__law_begin f fd) (T : Nm mg) : FnOk P w K mg base CX0 1 f fd ["_law_script"] (spBeginD K) := by
  refine F.ok scBd (fun vs H Q E h => ?_) (fun cdv A outer s H vs Q E hr h => ?_)
  · obtain ⟨a, ns, rfl, _⟩ := h
    rfl
  · obtain ⟨a, ns, rfl, hS, hlen, k⟩ := h
    have nd := scBd.nd
    have big : 1000 ≤ sizeLine := by decide
    refine ⟨_, pss_cons (ps_setLc (i := 1) (own := [("_law_cell", 2)]) (g := gName 2) (tt := _) rfl nd rfl rfl (sw_true rfl rfl rfl (by decide +kernel)) (pi_list (pv 0))
        (blkOk_by (N := NBd) (sc := defScope s__law_begin) (by decide +kernel)) (fun _ _ _ _ _ => pg_name (i := 2) nd rfl (Or.inl rfl)) (fun _ _ _ _ _ => pts_one (pt_cmpR op_ge (pe_callB call_abs (by rfl) T.abs (by decide +kernel) (pa_cons (pv 2) pa_nil)) (pe_op op_pow pe_int pe_int) (nomark _))) (fun _ _ _ _ _ => pe_op op_sub (pe_callB call_abs (by rfl) T.abs (by decide +kernel) (pa_cons (pv 2) pa_nil)) (pe_op op_pow pe_int pe_int)))
      (pss_one (ps_ret (pe_disp (pps_cons pe_str (pv 1) (pps_cons pe_str pe_int
        (pps_cons pe_str (pe_lc (own := [("_law_cell", 2)]) (g := gName 2) (tt := tYes) rfl nd (pi_list (pv 0)) (blkOk_by (N := NBd) (sc := defScope s__law_begin) (by decide +kernel)) (fun _ _ _ _ _ => pg_name (i := 2) nd rfl (Or.inl rfl)) (fun _ _ _ _ _ => pts_nil)
          (fun _ _ _ _ _ => pe_op op_mod (pe_callB call_abs (by rfl) T.abs (by decide +kernel) (pa_cons (pv 2) pa_nil)) (pe_op op_pow pe_int pe_int)))
        (pps_cons pe_str pe_int pps_nil)))) (by rfl) (by rfl) (fun z => by cases z) (by decide)))), ?_⟩
    refine ⟨_, rfl, a, rfl, ⟨_, hS⟩, fun D nD => lc_list (xs := ns.map V.int) (fun i H' => Same H H' ∧ H' D = some (.lst ((lgD (ns.take i)).map V.int))) ⟨same_new nD, by rw [upd_same] <;> rfl⟩ (fun i H' _ q => Same.sql q.1 hS) ?_ ?_⟩
    · intro i x H' hx ⟨q1, q2⟩
      obtain ⟨z, hz, rfl⟩ := map_of hx
      refine ⟨rfl, ?_⟩
      refine ⟨_, rfl, z, rfl, 10, _, rfl, rfl, ⟨by decide, by decide, by decide⟩, _, _, rfl, rfl, _, rfl, ?_⟩
      have ll := lgD_len (ns.take i)
      rw [List.length_take] at ll
      refine ite2 (fun yes => ?_) (fun no => ?_)
      · have yes : decide (absZ z ≥ 10 ^ 18) = true := yes
        refine ⟨_, rfl, z, rfl, 10, _, rfl, rfl, ⟨by decide, by decide, by decide⟩, _, _, rfl, rfl, _, q2, by rw [List.length_map]; omega, Same.put q1 nD, ?_⟩
        rw [upd_same, take_more hz]
        unfold lgD
        rw [List.filter_append, List.filter_cons, if_pos yes, List.filter_nil, List.map_append, List.map_append] <;> rfl
      · have no : ¬ decide (absZ z ≥ 10 ^ 18) = true := no
        refine ⟨q1, ?_⟩
        rw [q2, take_more hz]
        unfold lgD
        rw [List.filter_append, List.filter_cons, if_neg no, List.filter_nil, List.append_nil]
    intro H2 ⟨s2, q2⟩
    rw [List.length_map, List.take_length] at q2
    refine fun dq ndq => ?_
    have sd := same_new (o := .dK []) ndq
    have sS : SqL K (upd H2 dq (.dK [])) a (ns.map V.int) := Same.sql (s2.trans sd) hS
    refine ⟨_, rfl, _, rfl, a, rfl, ⟨_, sS⟩, fun D2 nD2 => lc_list (xs := ns.map V.int) (fun i H' => Same (upd H2 dq (.dK [])) H' ∧ H' D2 = some (.lst ((smD (ns.take i)).map V.int))) ⟨same_new nD2, by rw [upd_same] <;> rfl⟩ (fun i H' _ q => Same.sql q.1 sS) ?_ ?_⟩
    · intro i x H' hx ⟨z1, z2⟩
      obtain ⟨z, hz, rfl⟩ := map_of hx
      refine ⟨rfl, ?_⟩
      refine ⟨_, rfl, z, rfl, 10, _, rfl, rfl, ⟨by decide, by decide, by decide⟩, _, _, rfl, rfl, (by show (0 : Int) < 10 ^ 18; decide), _, z2, ?_, Same.put z1 nD2, ?_⟩
      · rw [List.length_map]
        unfold smD
        rw [List.length_map, List.length_take]
        omega
      · rw [upd_same, take_more hz]
        unfold smD
        rw [List.map_append, List.map_append] <;> rfl
    intro H3 ⟨z1, z2⟩
    rw [List.length_map, List.take_length] at z2
    have hdq : H3 dq = some (.dK []) := z1 _ _ upd_same
    have nD2' : H2 D2 = none := sd.free nD2
    refine ⟨hdq, stD D D2 0 0, rfl, by show 4 ≤ 15; omega, ?_⟩
    have Dd : D ≠ dq := ne_of_none q2 ndq
    have D2d : D2 ≠ dq := (ne_of_none upd_same nD2).symm
    have DD2 : D ≠ D2 := ne_of_none (sd _ _ q2) nD2
    have s3 : Same H (upd H3 dq (.dK (stD D D2 0 0))) := fun b u e => by
      have e2 := s2 b u e
      have nb : b ≠ dq := ne_of_none e2 ndq
      rw [upd_ne nb]
      exact z1 _ _ (by rw [upd_ne nb]; exact e2)
    have ll := lgD_len ns
    refine k _ dq D D2 s3 (s2.free ndq) nD (s2.free nD2') ⟨0, 0, lgD ns, smD ns, upd_same, by rw [upd_ne Dd]; exact z1 _ _ (sd _ _ q2), by rw [upd_ne D2d]; exact z2, DD2, lgD_nn ns, smD_nn ns, by omega, ?_, by omega, by omega, by omega⟩
    unfold smD
    rw [List.length_map]
    exact hlen
abbrev NTk : List Str := ["_law_draw", "_law_size", "_law_found", "_law_turn", "_law_number", "_law_mixed"]
theorem scTk : FnScope NTk ["_law_draw", "_law_size"] (defScope s__law_take) := ⟨rfl, rfl, rfl, by decide +kernel, rfl, by decide +kernel, by decide +kernel⟩
theorem at_modD {cells : List Int} {nx : Int} (ne : cells ≠ []) : ∃ (j : Nat) (z : Int), nx % ((cells.map V.int).length : Int) = (j : Int) ∧ j < cells.length ∧ cells[j]? = some z ∧ z ∈ cells := by
  have l0 : 0 < cells.length := List.length_pos_iff.mpr ne
  rw [List.length_map]
  have h1 : 0 ≤ nx % (cells.length : Int) := Int.emod_nonneg _ (by omega)
  have h2 : nx % (cells.length : Int) < (cells.length : Int) := Int.emod_lt_of_pos _ (by omega)
  refine ⟨(nx % (cells.length : Int)).toNat, cells[(nx % (cells.length : Int)).toNat]'(by omega), by omega, by omega, by simp, List.getElem_mem _⟩
theorem ps_toD {X : Cx} {st : Stmt} {t t' : TS} (h : PS X st t) (m : ∀ D σ H, t' D σ H → t D σ H) : PS X st t' := ⟨fun pins s σ H D I q => h.run pins s σ H D I (m _ _ _ q)⟩
theorem pss_toD {X : Cx} {ss : List Stmt} {t t' : TS} (h : PSs X ss t) (m : ∀ D σ H, t' D σ H → t D σ H) : PSs X ss t' := ⟨fun pins s σ H D I q => h.run pins s σ H D I (m _ _ _ q)⟩
/-- large numbers are popped until one is left over -/
def tWhD : TS := fun D σ H => ∃ (d l i : Addr) (b n : Int), σ = [some (.ref d), some (.int n), none, none, none, none] ∧ DrawD H d l i b ∧ ∀ H', DrawD H' d l i b → KeepX [d, l] H H' → D.nx σ H'
theorem ok_takeD {f : Addr} {fd : FuncData} (F : Fun K "_law_take" "_law_take" s__law_take f fd) (T : Nm mg) : FnOk P w K mg base CX0 2 f fd ["_law_draw", "_law_size"] spTakeD := by
  refine F.ok scTk (fun vs H Q E h => ?_) (fun cdv A outer s H vs Q E hr h => ?_)
  · obtain ⟨d, l, i, b, n, rfl, _⟩ := h
    rfl
  · obtain ⟨d, l, i, b, n, rfl, hD, bb, n0, n1, k⟩ := h
    have hu := hu_of hr
    have nd := scTk.nd
    have big : 1000 ≤ sizeLine := by decide
    refine ⟨_, pss_cons (ps_toD (t' := tWhD) (ps_while PassesOwn.never (PW.pt (pw_and (pt_cmpR op_eq (pe_dget hu (pv 0) pe_str (fun _ _ => rfl)) pe_int (nomark _)) (pw_and1 (pt_cmpR (op_neD hr.units) (pe_dget hu (pv 0) pe_str (fun _ _ => rfl)) (pe_lst pa_nil) (nomark _)))))
        (pss_one (ps_dput hu (pv 0) pe_str (pe_bm PySem.F.plainAttrs_list PySem.F.slot_list_pop PySem.F.type_list_pop mt_popAt (pe_dget hu (pv 0) pe_str (fun _ _ => rfl)) (pa_cons pe_int pa_nil)) rfl))) ?_)
      (pss_cons (ps_if (pt_cmpR op_gt (pe_dget hu (pv 0) pe_str (fun _ _ => rfl)) pe_int (nomark _))
        (pss_cons (ps_set (i := 2) nd rfl (.inl rfl) (pe_op op_mod (pe_dget hu (pv 0) pe_str (fun _ _ => rfl)) (pv 1)))
        (pss_cons (ps_dput hu (pv 0) pe_str (pe_op op_fdivW (pe_dget hu (pv 0) pe_str (fun _ _ => rfl)) (pv 1)) rfl)
        (pss_one (ps_ret (pv 2))))) pss_nil)
      (pss_cons (ps_dput hu (pv 0) pe_str (pe_op op_add (pe_dget hu (pv 0) pe_str (fun _ _ => rfl)) pe_int) rfl)
      (pss_cons (ps_par (i := 3) (j := 4) rfl nd rfl rfl (by decide) rfl rfl (pa_cons (pe_dget hu (pv 0) pe_str (fun _ _ => rfl)) (pa_cons pe_int pa_nil)) (by rfl))
      (pss_cons (ps_if (pt_cmpR (op_neD hr.units) (pe_dget hu (pv 0) pe_str (fun _ _ => rfl)) (pe_lst pa_nil) (nomark _))
        (pss_one (ps_set (i := 4) nd rfl (.inl rfl) (pe_ix ix_list (pe_dget hu (pv 0) pe_str (fun _ _ => rfl)) (pe_op op_mod (pv 3) (pe_callB call_len_seq (by rfl) T.len PySem.boot_len (pa_cons (pe_dget hu (pv 0) pe_str (fun _ _ => rfl)) pa_nil))) (fun _ _ => rfl)))) pss_nil)
      (pss_cons (ps_set (i := 5) nd rfl (.inl rfl) (pe_op op_mod (pe_op op_pow (pe_op op_add (pe_op op_add (pe_op op_mod (pv 4) pe_int) (pe_op op_mul pe_int (pv 3))) pe_int) pe_int) pe_int))
      (pss_one (ps_ret (pe_op op_mod (pe_op op_fdiv (pe_op op_mod (pe_op op_pow (pe_op op_add (pv 5) (pe_op op_mul pe_int (pv 3))) pe_int) pe_int) pe_int) (pv 1))))))))), ?_⟩
    · rintro D σ H ⟨d, l, i, b, n, rfl, hD, k⟩
      have hdne := hD.ne
      obtain ⟨rs0, tn, lg0, sm, a1, a2, a3, a4, lgn, smn, lgl, sml, rsn, tn0, tnb⟩ := hD
      refine ⟨fun m σ H' => σ = [some (.ref d), some (.int n), none, none, none, none] ∧ ∃ (rs : Int) (lg : List Int), lg.length = m ∧ H' d = some (.dK (stD l i rs tn)) ∧ H' l = some (.lst (lg.map V.int)) ∧ (∀ z ∈ lg, 0 ≤ z) ∧ lg.length ≤ 63 ∧ 0 ≤ rs ∧ KeepX [d, l] H H', ⟨_, rfl, rs0, lg0, rfl, a1, a2, lgn, lgl, rsn, fun _ _ _ e => e⟩, ?_⟩
      rintro m σ H1 ⟨rfl, rs, lg, em, b1, b2, b3, b4, b5, k1⟩
      have b6 : H1 i = some (.lst (sm.map V.int)) := k1 i _ (by simp [hdne.2.1, a4.symm]) a3
      have g := stD_get b1
      have out : DrawD H1 d l i b := ⟨rs, tn, lg, sm, b1, b2, b6, a4, b3, smn, b4, sml, b5, tn0, tnb⟩
      refine ⟨_, rfl, d, _, rfl, g.2.1, rfl, _, rfl, ?_⟩
      refine ite2 (fun _ => ?_) (fun _ => k H1 out k1)
      refine ⟨_, rfl, d, _, rfl, g.1, by show 0 ≤ sizeLine; omega, fun e ne => ⟨_, _, .lst (SqL.of (by rw [upd_ne (ne_of_none b2 ne)]; exact b2)) (dp_ints lg), .lst (SqL.of upd_same) .nil, (ints_shaped lg).2, rfl, ?_⟩⟩
      have s2 := same_new (o := .lst []) ne
      refine ⟨_, rfl, ite2 (fun t => ?_) (fun t => k _ (out.mono s2) (kx_put k1 (kx_free k1 ne (out.apart ne).1 (out.apart ne).2.1)))⟩
      cases lg with
      | nil => cases t
      | cons z lg =>
        obtain ⟨sx, _, _, _⟩ := ixN_seq (ixN_nat (n := ((z :: lg).map V.int).length) (j := 0) (by rw [List.length_map, List.length_cons]; omega))
        refine ⟨fun σ' H' => ∃ m', m' < m ∧ (σ' = [some (.ref d), some (.int n), none, none, none, none] ∧ ∃ (rs : Int) (lg : List Int), lg.length = m' ∧ H' d = some (.dK (stD l i rs tn)) ∧ H' l = some (.lst (lg.map V.int)) ∧ (∀ z ∈ lg, 0 ≤ z) ∧ lg.length ≤ 63 ∧ 0 ≤ rs ∧ KeepX [d, l] H H'), fun σ' H' q => q, ?_⟩
        obtain ⟨H2, e2⟩ : ∃ X, X = upd H1 e (.lst []) := ⟨_, rfl⟩
        rw [← e2]
        rw [← e2] at s2
        have kx2 : KeepX [d, l] H H2 := e2 ▸ kx_put k1 (kx_free k1 ne (out.apart ne).1 (out.apart ne).2.1)
        have g2 := stD_get (s2 _ _ b1)
        refine ⟨_, rfl, d, _, rfl, g2.1, .inl ⟨rfl, _, SqL.of (s2 _ _ b2)⟩, l, _, 0, 0, _, rfl, rfl, s2 _ _ b2, by decide, by decide, sx, rfl, ?_⟩
        have hd3 : (upd H2 l (.lst (((z :: lg).map V.int).eraseIdx 0))) d = some (.dK (stD l i rs tn)) := by rw [upd_ne hdne.1.symm]; exact s2 _ _ b1
        refine ⟨_, rfl, d, _, rfl, DPut.k (k := Sum.inr "rest") hd3 (by show 4 < sizeLine; omega), ?_⟩
        rw [stD_rest]
        refine ⟨lg.length, by rw [← em, List.length_cons]; omega, rfl, z, lg, rfl, upd_same, by rw [upd_ne hdne.1, upd_same] <;> rfl, fun y hy => b3 y (List.mem_cons_of_mem _ hy), by rw [List.length_cons] at b4; omega, b3 z (List.mem_cons_self ..), fun b u nb e => ?_⟩
        rw [upd_ne fun w => nb (by rw [w]; exact List.mem_cons_self ..), upd_ne fun w => nb (by rw [w]; simp)]
        exact kx2 _ _ nb e
    refine ⟨d, l, i, b, n, rfl, hD, fun H1 hD1 k1 => ?_⟩
    have hdne := hD1.ne
    obtain ⟨rs, tn, lg, sm, a1, a2, a3, a4, lgn, smn, lgl, sml, rsn, tn0, tnb⟩ := hD1
    have g := stD_get a1
    refine ⟨_, rfl, d, _, rfl, g.2.1, _, _, rfl, rfl, _, rfl, ite2 (fun t => ?_) (fun t => ?_)⟩
    · refine ⟨_, rfl, d, _, rfl, g.2.1, _, rfl, _, _, rfl, rfl, n0, ?_⟩
      refine ⟨_, rfl, d, _, rfl, g.2.1, _, rfl, _, _, rfl, rfl, wide_div n0 n1 (by decide) (by decide), _, rfl, d, _, rfl, DPut.k (k := Sum.inr "rest") a1 (by show 4 < sizeLine; omega), ?_⟩
      rw [stD_rest]
      refine ⟨_, rfl, k (rs % n) _ (Int.emod_nonneg _ (by omega)) (Int.emod_lt_of_pos _ n0) ⟨rs / n, tn, lg, sm, upd_same, by rw [upd_ne hdne.1]; exact a2, by rw [upd_ne hdne.2.1]; exact a3, a4, lgn, smn, lgl, sml, Int.ediv_nonneg rsn (by omega), tn0, by omega⟩ fun b u nb e => ?_⟩
      rw [upd_ne fun z => nb (by rw [z]; exact List.mem_cons_self ..)]
      exact k1 b u nb e
    · refine ⟨_, rfl, d, _, rfl, g.2.2.2, _, _, rfl, rfl, _, rfl, d, _, rfl, DPut.k (k := Sum.inr "turn") a1 (by show 4 < sizeLine; omega), ?_⟩
      rw [stD_turn]
      obtain ⟨H2, e2⟩ : ∃ X, X = upd H1 d (.dK (stD l i rs (tn + 1))) := ⟨_, rfl⟩
      have d2 : H2 d = some (.dK (stD l i rs (tn + 1))) := by rw [e2, upd_same]
      have l2 : H2 l = some (.lst (lg.map V.int)) := by rw [e2, upd_ne hdne.1]; exact a2
      have i2 : H2 i = some (.lst (sm.map V.int)) := by rw [e2, upd_ne hdne.2.1]; exact a3
      have k2 : KeepX [d, l] H H2 := fun b u nb e => by
        rw [e2, upd_ne fun z => nb (by rw [z]; exact List.mem_cons_self ..)]
        exact k1 b u nb e
      rw [← e2]
      have g2 := stD_get d2
      have D2 : DrawD H2 d l i (b + 1) := ⟨rs, tn + 1, lg, sm, d2, l2, i2, a4, lgn, smn, lgl, sml, rsn, by omega, by omega⟩
      refine ⟨_, rfl, d, _, rfl, g2.2.2.2, ?_⟩
      refine ⟨_, _, rfl, _, rfl, d, _, rfl, g2.2.2.1, by show 0 ≤ sizeLine; omega, fun e ne => ⟨_, _, .lst (SqL.of (by rw [upd_ne (ne_of_none i2 ne)]; exact i2)) (dp_ints sm), .lst (SqL.of upd_same) .nil, (ints_shaped sm).2, rfl, ?_⟩⟩
      have s3 := same_new (o := .lst []) ne
      obtain ⟨H3, e3⟩ : ∃ X, X = upd H2 e (.lst []) := ⟨_, rfl⟩
      rw [← e3]
      rw [← e3] at s3
      have D3 := D2.mono s3
      have g3 := stD_get (s3 _ _ d2)
      have i3 := s3 _ _ i2
      have k3 : KeepX [d, l] H H3 := e3 ▸ kx_put k2 (kx_free k2 ne (D2.apart ne).1 (D2.apart ne).2.1)
      refine ⟨_, rfl, ite2 (fun t => ?_) (fun t => ?_)⟩
      · have sne : sm ≠ [] := fun z => by
          subst z
          cases t
        obtain ⟨j, z, ej, jl, hz, zm⟩ := at_modD (nx := tn + 1) sne
        have l0 : (0 : Int) < ((sm.map V.int).length : Int) := by
          have := List.length_pos_iff.mpr sne
          rw [List.length_map]
          omega
        refine ⟨_, rfl, d, _, rfl, g3.2.2.1, _, rfl, _, rfl, d, _, rfl, g3.2.2.1, i, _, rfl, .inl (SqL.of i3), _, _, rfl, rfl, l0, i, _, _, .int z, rfl, rfl, SqL.of i3, by rw [ej]; exact atI_nat (map_at hz), ?_⟩
        have m0 : 0 ≤ z % 2147483629 := Int.emod_nonneg _ (by decide)
        have m1 : z % 2147483629 < 2147483629 := Int.emod_lt_of_pos _ (by decide)
        obtain ⟨y, ey⟩ : ∃ y, y = (z % 2147483629 + 69621 * (tn + 1) + 12345) ^ (3 : Int).toNat % 2147483647 := ⟨_, rfl⟩
        have y0 : 0 ≤ y := by rw [ey]; exact Int.emod_nonneg _ (by decide)
        have y1 : y < 2147483647 := by rw [ey]; exact Int.emod_lt_of_pos _ (by decide)
        refine ⟨_, rfl, _, _, rfl, rfl, (by show (0 : Int) < 2147483629; decide), _, rfl, _, _, rfl, rfl, .inl ⟨by decide, by decide⟩, _, _, rfl, rfl, _, _, rfl, rfl, _, _, rfl, rfl, ⟨by decide, by decide, by omega⟩, _, _, rfl, rfl, (by show (0 : Int) < 2147483647; decide), _, rfl, ?_⟩
        have cp : CPow (y + 104729 * (tn + 1)) 5 := ⟨by decide, by decide, by omega⟩
        rw [ey] at cp
        refine ⟨_, rfl, _, _, rfl, rfl, .inl ⟨by decide, by decide⟩, _, _, rfl, rfl, _, _, rfl, rfl, cp, _, _, rfl, rfl, (by show (0 : Int) < 2147483587; decide), _, _, rfl, rfl, ⟨by decide, by decide⟩, _, rfl, _, _, rfl, rfl, n0, ?_⟩
        exact k _ _ (Int.emod_nonneg _ (by omega)) (Int.emod_lt_of_pos _ n0) D3 k3
      · have m0 : 0 ≤ (0 : Int) % 2147483629 := Int.emod_nonneg _ (by decide)
        have m1 : (0 : Int) % 2147483629 < 2147483629 := Int.emod_lt_of_pos _ (by decide)
        obtain ⟨y, ey⟩ : ∃ y, y = ((0 : Int) % 2147483629 + 69621 * (tn + 1) + 12345) ^ (3 : Int).toNat % 2147483647 := ⟨_, rfl⟩
        have y0 : 0 ≤ y := by rw [ey]; exact Int.emod_nonneg _ (by decide)
        have y1 : y < 2147483647 := by rw [ey]; exact Int.emod_lt_of_pos _ (by decide)
        refine ⟨_, rfl, _, _, rfl, rfl, (by show (0 : Int) < 2147483629; decide), _, rfl, _, _, rfl, rfl, .inl ⟨by decide, by decide⟩, _, _, rfl, rfl, _, _, rfl, rfl, _, _, rfl, rfl, ⟨by decide, by decide, by omega⟩, _, _, rfl, rfl, (by show (0 : Int) < 2147483647; decide), _, rfl, ?_⟩
        have cp : CPow (y + 104729 * (tn + 1)) 5 := ⟨by decide, by decide, by omega⟩
        rw [ey] at cp
        refine ⟨_, rfl, _, _, rfl, rfl, .inl ⟨by decide, by decide⟩, _, _, rfl, rfl, _, _, rfl, rfl, cp, _, _, rfl, rfl, (by show (0 : Int) < 2147483587; decide), _, _, rfl, rfl, ⟨by decide, by decide⟩, _, rfl, _, _, rfl, rfl, n0, ?_⟩
        exact k _ _ (Int.emod_nonneg _ (by omega)) (Int.emod_lt_of_pos _ n0) D3 k3
abbrev NPk : List Str := ["_law_draw", "_law_some"]
theorem scPk : FnScope NPk ["_law_draw", "_law_some"] (defScope s__law_pick) := ⟨rfl, rfl, rfl, by decide +kernel, rfl, by decide +kernel, by decide +kernel⟩
theorem ok_pickD {f fT : Addr} {fd fdT : FuncData} (F : Fun K "_law_pick" "_law_pick" s__law_pick f fd) (T : Nm mg) (DT : Dn P w K mg base CX0 2 "_law_take" ["_law_draw", "_law_size"] spTakeD fT fdT) : FnOk P w K mg base CX0 3 f fd ["_law_draw", "_law_some"] spPickD := by
  refine F.ok scPk (fun vs H Q E h => ?_) (fun cdv A outer s H vs Q E hr h => ?_)
  · obtain ⟨d, l, i, b, v, n, Pr, rfl, _⟩ := h
    rfl
  · obtain ⟨d, l, i, b, v, n, Pr, rfl, hD, bb, it, x0, x1, k⟩ := h
    refine ⟨_, pss_one (ps_ret (pe_ix ix_seq (pv 1) (pe_call DT.ok hr rfl DT.mgn DT.kp DT.bn .nil pass0 (pa_cons (pv 0) (pa_cons (pe_callB call_len (by rfl) T.len PySem.boot_len (pa_cons (pv 1) pa_nil)) pa_nil))) (fun _ _ => rfl))), ?_⟩
    have small : ((n : Int)).natAbs < 2 ^ 200 := by
      rw [Int.natAbs_natCast]
      exact Nat.lt_of_le_of_lt x1 (by decide)
    rcases it with ⟨a, xs, rfl, al, ha, en, hp⟩ | ⟨z, rfl, en, hp⟩
    · have ad : ∀ (rs tn : Int), H d = some (.dK (stD l i rs tn)) → a ≠ d := fun _ _ a1 => ne_of ha a1 (by intro z; cases z)
      have ad : a ≠ d := by
        obtain ⟨rs, tn, lg, sm, a1, _⟩ := hD
        exact ad _ _ a1
      subst en
      refine ⟨_, rfl, _, rfl, _, rfl, _, xs.length, rfl, .inl ⟨xs, SqL.of ha, rfl⟩, d, l, i, b, _, rfl, hD, bb, by omega, small, fun j H' j0 j1 hD' off => ?_⟩
      have hj : j.toNat < xs.length := by omega
      have e : xs[j.toNat]? = some xs[j.toNat] := List.getElem?_eq_getElem hj
      have e2 := atI_nat e
      rw [show ((j.toNat : Nat) : Int) = j by omega] at e2
      exact .inl ⟨a, xs, j, xs[j.toNat], rfl, rfl, SqL.of (off a _ (by simp [ad, al]) ha), e2, k j.toNat _ H' (hp _ _ e) hD' off⟩
    · have zl : z.length ≤ sizeLine := Nat.le_trans (by omega : z.length ≤ 1000) (by decide)
      subst en
      refine ⟨_, rfl, _, rfl, _, rfl, _, z.length, rfl, ⟨zl, rfl⟩, d, l, i, b, _, rfl, hD, bb, by omega, small, fun j H' j0 j1 hD' off => ?_⟩
      have hj : j.toNat < z.cps.toList.length := by
        have : z.length = z.cps.toList.length := by simp [Str.length]
        omega
      have e : z.cps.toList[j.toNat]? = some z.cps.toList[j.toNat] := List.getElem?_eq_getElem hj
      have e2 := atI_nat e
      rw [show ((j.toNat : Nat) : Int) = j by omega] at e2
      exact .inr (.inr ⟨z, j, _, rfl, rfl, zl, e2, k j.toNat _ H' (hp _ _ e) hD' off⟩)
end
end FT


/-! family D: _law_names -/
namespace FT
open PySem L2 TL ClX LiI
def wordsD : List Str := ["new", "old", "pay", "size", "must", "never", "stay", "undo", "start", "free", "users", "steps"]
def WdD (w : Str) : Prop := w ∈ wordsD ∨ ((∀ c ∈ tl w, 97 ≤ c ∧ c ≤ 112) ∧ 1 ≤ (tl w).length ∧ (tl w).length ≤ 8)
def signsD : List Nat := [97, 98, 99, 100, 101, 102, 103, 104, 105, 106, 107, 108, 109, 110, 111, 112, 113]
def cndD (w : Str) (c : Nat) : Str := cutS w none (some 7) ++ ⟨#[c]⟩
theorem no_self {w : Str} (h : ∀ c ∈ tl w, c ≠ 115) : w ≠ "self" := fun e => by
  subst e
  exact h 115 (by decide +kernel) rfl
theorem WdD.name {w : Str} (h : WdD w) : NameL w := by
  rcases h with h | ⟨h, l1, l2⟩
  · have all : ∀ w ∈ wordsD, NameL w := by decide +kernel
    exact all w h
  · exact ⟨fun c hc => ⟨(h c hc).1, by have := (h c hc).2; omega⟩, l1, l2, no_self fun c hc e => by have := (h c hc).2; omega⟩
theorem tl_cut7 (z : Str) : tl (cutS z none (some 7)) = (tl z).take 7 := by
  have e : HT.sIx z.length z.length (some 7) = min 7 z.length := HT.sIx_nat _ _ 7
  show ((tl z).drop 0).take (HT.sIx z.length z.length (some 7) - 0) = (tl z).take 7
  rw [e, List.drop_zero, Nat.sub_zero, len_tl, ← List.take_take, List.take_length]
theorem tl_cnd (w : Str) (c : Nat) : tl (cndD w c) = (tl w).take 7 ++ [c] := by
  unfold cndD
  rw [tl_append, tl_cut7] <;> rfl
theorem signs_in {c : Nat} (h : c ∈ signsD) : 97 ≤ c ∧ c ≤ 113 := by
  have all : ∀ c ∈ signsD, 97 ≤ c ∧ c ≤ 113 := by decide
  exact all c h
theorem cndD_name {w : Str} (h : WdD w) {c : Nat} (hc : c ∈ signsD) : NameL (cndD w c) := by
  rcases h with h | ⟨h, l1, l2⟩
  · have all : ∀ w ∈ wordsD, ∀ c ∈ signsD, NameL (cndD w c) := by decide +kernel
    exact all w h c hc
  · obtain ⟨c0, c1⟩ := signs_in hc
    have ch : ∀ y ∈ tl (cndD w c), 97 ≤ y ∧ y ≤ 113 := fun y hy => by
      rw [tl_cnd] at hy
      rcases List.mem_append.mp hy with q | q
      · have := h y (List.mem_of_mem_take q)
        omega
      · rw [List.mem_singleton.mp q]
        exact ⟨c0, c1⟩
    refine ⟨fun y hy => ⟨(ch y hy).1, by have := (ch y hy).2; omega⟩, ?_, ?_, no_self fun y hy e => by have := (ch y hy).2; omega⟩
    · rw [tl_cnd, List.length_append] <;> simp
    · rw [tl_cnd, List.length_append, List.length_take]
      show min 7 _ + 1 ≤ 8
      omega
theorem sub_lenD {α : Type} [DecidableEq α] : ∀ (l m : List α), l.Nodup → (∀ x ∈ l, x ∈ m) → l.length ≤ m.length
  | [], m, _, _ => Nat.zero_le _
  | a :: l, m, nd, h => by
    have ha : a ∈ m := h a (List.mem_cons_self ..)
    obtain ⟨na, nl⟩ := List.nodup_cons.mp nd
    have := sub_lenD l (m.erase a) nl fun x hx => (List.mem_erase_of_ne (fun e : x = a => na (by rw [← e]; exact hx))).mpr (h x (List.mem_cons_of_mem _ hx))
    rw [List.length_erase_of_mem ha] at this
    have : 1 ≤ m.length := List.length_pos_of_mem ha
    show l.length + 1 ≤ m.length
    omega
theorem cndsD_nodup (w : Str) : (signsD.map (cndD w)).Nodup := by
  have nd : signsD.Nodup := by decide
  refine List.pairwise_map.mpr (nd.imp fun ne e => ne ?_)
  have e' := congrArg tl e
  rw [tl_cnd, tl_cnd] at e'
  have := List.append_cancel_left e'
  exact List.cons.inj this |>.1
/-- the names that are still free, in their order -/
def freeD (fs : List Str) (l : List Str) : List Str := l.filter fun x => !decide (x ∈ fs)
theorem freeD_some {w : Str} {fs : List Str} (hw : WdD w) (few : fs.length ≤ 16) : ∃ x r, freeD fs (w :: signsD.map (cndD w)) = x :: r ∧ NameL x ∧ x ∉ fs := by
  have ne : freeD fs (w :: signsD.map (cndD w)) ≠ [] := fun e => by
    have all : ∀ x ∈ signsD.map (cndD w), x ∈ fs := fun x hx => by
      refine Decidable.byContradiction fun n => ?_
      have : x ∈ freeD fs (w :: signsD.map (cndD w)) := List.mem_filter.mpr ⟨List.mem_cons_of_mem _ hx, by rw [decide_eq_false n] <;> rfl⟩
      rw [e] at this
      cases this
    have := sub_lenD _ _ (cndsD_nodup w) all
    rw [List.length_map] at this
    have : signsD.length = 17 := rfl
    omega
  cases e : freeD fs (w :: signsD.map (cndD w)) with
  | nil => exact absurd e ne
  | cons x r =>
    have hx : x ∈ freeD fs (w :: signsD.map (cndD w)) := by rw [e]; exact List.mem_cons_self ..
    obtain ⟨h1, h2⟩ := List.mem_filter.mp hx
    refine ⟨x, r, rfl, ?_, fun hm => ?_⟩
    · rcases List.mem_cons.mp h1 with rfl | h1
      · exact hw.name
      · obtain ⟨c, hc, rfl⟩ := List.mem_map.mp h1
        exact cndD_name hw hc
    · rw [decide_eq_true hm] at h2
      cases h2
theorem freeD_step {fs cs : List Str} {i : Nat} {x : Str} (h : cs[i]? = some x) : freeD fs (cs.take (i + 1)) = freeD fs (cs.take i) ++ (if x ∈ fs then [] else [x]) := by
  rw [take_more h]
  unfold freeD
  rw [List.filter_append]
  by_cases e : x ∈ fs
  · rw [if_pos e, List.filter_cons, decide_eq_true e, List.filter_nil] <;> rfl
  · rw [if_neg e, List.filter_cons, decide_eq_false e, List.filter_nil] <;> rfl
/-- a sign of the law's letters -/
def SgnD (y : Str) : Prop := ∃ s : Nat, y = ⟨#[s]⟩ ∧ 97 ≤ s ∧ s ≤ 112
theorem sum_sgnD : ∀ ys : List Str, (∀ y ∈ ys, SgnD y) → (ys.map (·.length)).sum = ys.length
  | [], _ => rfl
  | y :: ys, h => by
    obtain ⟨s, rfl, _⟩ := h y (List.mem_cons_self ..)
    rw [List.map_cons, List.sum_cons, sum_sgnD ys fun q hq => h q (List.mem_cons_of_mem _ hq), List.length_cons]
    show 1 + ys.length = ys.length + 1
    omega
theorem join_sgnD : ∀ ys : List Str, (∀ y ∈ ys, SgnD y) → (tl (Txt.join "" ys)).length = ys.length ∧ ∀ c ∈ tl (Txt.join "" ys), 97 ≤ c ∧ c ≤ 112
  | [], _ => by
    rw [join_eq]
    exact ⟨rfl, fun c h => by cases h⟩
  | [y], h => by
    obtain ⟨s, rfl, hs⟩ := h y (List.mem_cons_self ..)
    rw [join_eq]
    exact ⟨rfl, fun c hc => by
      rw [List.mem_singleton.mp hc]
      exact hs⟩
  | y :: z :: r, h => by
    obtain ⟨s, rfl, hs⟩ := h y (List.mem_cons_self ..)
    obtain ⟨h1, h2⟩ := join_sgnD (z :: r) fun q hq => h q (List.mem_cons_of_mem _ hq)
    rw [join_eq] at h1 h2 ⊢
    have t : tl (Str.join "" (⟨#[s]⟩ :: z :: r)) = s :: tl (Str.join "" (z :: r)) := by
      show tl (⟨#[s]⟩ ++ "" ++ Str.join "" (z :: r)) = _
      rw [tl_append, tl_append] <;> rfl
    rw [t]
    refine ⟨by rw [List.length_cons, h1] <;> rfl, fun c hc => ?_⟩
    rcases List.mem_cons.mp hc with rfl | hc
    · exact hs
    · exact h2 c hc
theorem join_wdD {ys : List Str} (h : ∀ y ∈ ys, SgnD y) (h1 : 1 ≤ ys.length) (h8 : ys.length ≤ 8) : WdD (Txt.join "" ys) := by
  obtain ⟨l, ch⟩ := join_sgnD ys h
  exact .inr ⟨ch, by omega, by omega⟩
theorem items_strsD {Pr : Str → Prop} {ws : List Str} (h : ∀ z ∈ ws, Pr z) : ∀ (i : Nat) (x : V), (ws.map V.str)[i]? = some x → ∃ z, x = .str z ∧ Pr z := fun i x hx => by
  obtain ⟨z, hz, rfl⟩ := map_of hx
  exact ⟨z, rfl, h z (List.mem_of_getElem? hz)⟩
theorem items_intsD {Pr : Int → Prop} {ws : List Int} (h : ∀ z ∈ ws, Pr z) : ∀ (i : Nat) (x : V), (ws.map V.int)[i]? = some x → ∃ z, x = .int z ∧ Pr z := fun i x hx => by
  obtain ⟨z, hz, rfl⟩ := map_of hx
  exact ⟨z, rfl, h z (List.mem_of_getElem? hz)⟩
/-- many names, all apart -/
def spNamesD : Sp := fun vs H Q _ => ∃ (d l i : Addr) (b : Int) (n : Nat), vs = [.ref d, .int (n : Int)] ∧ DrawD H d l i b ∧ b + 1000 ≤ 10 ^ 12 ∧ n ≤ 17 ∧
  ∀ (p : Addr) (fs : List Str) (H' : Hp), fs.length = n → fs.Nodup → (∀ z ∈ fs, NameL z) → H p = none → H' p = some (.lst (fs.map V.str)) → DrawD H' d l i (b + 500) → KeepX [d, l] H H' → Q (.ref p) H'
/-- a turn: one more name -/
def tNameD : TS := fun D σ H => ∃ (d l i o p : Addr) (b : Int) (u1 u4 u5 u6 u7 u8 : Option V) (fs : List Str), σ = [some (.ref d), u1, some (.ref o), some (.ref p), u4, u5, u6, u7, u8] ∧ DrawD H d l i b ∧ b + 20 ≤ 10 ^ 12 ∧ (o ≠ d ∧ o ≠ l) ∧ (p ≠ d ∧ p ≠ l ∧ p ≠ i ∧ p ≠ o) ∧
  H o = some (.lst (wordsD.map V.str)) ∧ H p = some (.lst (fs.map V.str)) ∧ fs.length ≤ 16 ∧
  ∀ u5 u6 u7 u8 H' x, NameL x → x ∉ fs → DrawD H' d l i (b + 20) → KeepX [d, l, p] H H' → H' p = some (.lst ((fs ++ [x]).map V.str)) → D.nx [some (.ref d), u1, some (.ref o), some (.ref p), u4, u5, u6, u7, u8] H'
/-- the word made a name that is free -/
def tNameE : TS := fun D σ H => ∃ (p : Addr) (u0 u1 u2 u4 u6 u7 u8 : Option V) (w : Str) (fs : List Str), σ = [u0, u1, u2, some (.ref p), u4, some (.str w), u6, u7, u8] ∧ WdD w ∧ H p = some (.lst (fs.map V.str)) ∧ fs.length ≤ 16 ∧
  ∀ u5 u6 u7 u8 H' x, NameL x → x ∉ fs → (∀ a u, a ≠ p → H a = some u → H' a = some u) → H' p = some (.lst ((fs ++ [x]).map V.str)) → D.nx [u0, u1, u2, some (.ref p), u4, u5, u6, u7, u8] H'
section
variable {P : Program} {w : World} {K : PySem.W.Frag} {mg : Str → Option Value} {base : Heap}
abbrev NNm : List Str := ["_law_draw", "_law_many", "_law_own", "_law_found", "_law_turn", "_law_word", "_law_at", "_law_sign", "_law_one"]
theorem scNm : FnScope NNm ["_law_draw", "_law_many"] (defScope s__law_names) := ⟨rfl, rfl, rfl, by decide +kernel, rfl, by decide +kernel, by decide +kernel⟩
theorem ok_namesD {f fT fP : Addr} {fd fdT fdP : FuncData} (F : Fun K "_law_names" "_law_names" s__law_names f fd) (T : Nm mg) (DT : Dn P w K mg base CX0 2 "_law_take" ["_law_draw", "_law_size"] spTakeD fT fdT) (DP : Dn P w K mg base CX0 3 "_law_pick" ["_law_draw", "_law_some"] spPickD fP fdP) :
    FnOk P w K mg base CX0 4 f fd ["_law_draw", "_law_many"] spNamesD := by
  refine F.ok scNm (fun vs H Q E h => ?_) (fun cdv A outer s H vs Q E hr h => ?_)
  · obtain ⟨d, l, i, b, n, rfl, _⟩ := h
    rfl
  · obtain ⟨d, l, i, b, n, rfl, hD, bb, n17, k⟩ := h
    have hr2 : Room 2 _ := hr.mono (by decide)
    have nd := scNm.nd
    have big : 1000 ≤ sizeLine := by decide
    refine ⟨_, pss_cons (ps_asg (pe_tup (pa_cons (pe_lst (pa_cons pe_str (pa_cons pe_str (pa_cons pe_str (pa_cons pe_str (pa_cons pe_str (pa_cons pe_str (pa_cons pe_str (pa_cons pe_str (pa_cons pe_str (pa_cons pe_str (pa_cons pe_str (pa_cons pe_str pa_nil))))))))))))) (pa_cons (pe_lst pa_nil) pa_nil))) (pg_tup rfl (pgs_cons (pg_name (i := 2) nd rfl (.inl rfl)) (pgs_cons (pg_name (i := 3) nd rfl (.inr rfl)) pgs_nil))))
      (pss_cons (ps_for PassesOwn.never rfl (pi_range1 rfl T.rng (pa_cons (pv 1) pa_nil)) (pg_name (i := 4) nd rfl (.inl rfl))
        (pss_toD (t' := tNameD) (pss_cons (ps_set (i := 5) nd rfl (.inr rfl) (pe_call DP.ok hr rfl DP.mgn DP.kp DP.bn .nil pass0 (pa_cons (pv 0) (pa_cons (pv 2) pa_nil))))
        (pss_cons (ps_if (pt_cmpR op_eq (pe_call DT.ok hr2 rfl DT.mgn DT.kp DT.bn .nil pass0 (pa_cons (pv 0) (pa_cons pe_int pa_nil))) pe_int (nomark _))
          (pss_one (ps_set (i := 5) nd rfl (.inr rfl) (pe_join pe_str (pe_lc (own := [("_law_at", 6)]) (g := gName 6) (tt := tYes) (te := tCall spPickD [] E0 (tCons (tVar 0) (tCons (tC (.str "abcdefghijklmnop")) tNil))) rfl nd (pi_range1 rfl T.rng (pa_cons (pe_call DP.ok hr rfl DP.mgn DP.kp DP.bn .nil pass0 (pa_cons (pv 0) (pa_cons (pe_lst (pa_cons pe_int (pa_cons pe_int (pa_cons pe_int (pa_cons pe_int pa_nil))))) pa_nil))) pa_nil))
            (blkOk_by (N := NNm) (sc := defScope s__law_names) (by decide +kernel)) (fun _ _ _ _ _ => pg_name (i := 6) nd rfl (Or.inl rfl)) (fun _ _ _ _ _ => pts_nil) (fun _ _ _ _ _ => pe_call DP.ok hr rfl DP.mgn DP.kp DP.bn .nil pass0 (pa_cons (pv 0) (pa_cons pe_str pa_nil))))))) pss_nil)
        (pss_toD (t' := tNameE) (pss_one (ps_expr (pe_bm PySem.F.plainAttrs_list PySem.F.slot_list_append PySem.F.type_list_append mt_append (pv 3) (pa_cons (pe_ix ix_list (pe_lc (own := [("_law_one", 8)]) (g := gName 8) (tt := tTest (tOp (rIn K true) (tVar 8) (tVar 3))) (te := tVar 8) rfl nd (pi_list (pe_op op_cat (pe_lst (pa_cons (pv 5) pa_nil))
          (pe_lc (own := [("_law_sign", 7)]) (g := gName 7) (tt := tYes) (te := tOp (fun x y H Q => ∃ i j, x = .str i ∧ y = .str j ∧ i.length + j.length ≤ sizeLine ∧ Q (.str (i ++ j)) H) (tSl rSlS (tVar 5) tNoPart (tPart (tC (.int 7)))) (tVar 7)) rfl nd (pi_str pe_str) (blkOk_by (N := NNm) (sc := defScope s__law_names) (by decide +kernel)) (fun _ _ _ _ _ => pg_name (i := 7) nd rfl (Or.inl rfl)) (fun _ _ _ _ _ => pts_nil)
            (fun _ _ _ _ _ => pe_op op_add_str (pe_slice sl_str (pv 5) po_none (po_some pe_int)) (pv 7)))))
          (blkOk_by (N := NNm) (sc := defScope s__law_names) (by decide +kernel)) (fun _ _ _ _ _ => pg_name (i := 8) nd rfl (Or.inl rfl)) (fun _ _ _ _ _ => pts_one (pt_cmpR op_notIn_seq (pv 8) (pv 3) rfl)) (fun _ _ _ _ _ => pv 8)) pe_int (fun _ _ => rfl)) pa_nil)))) ?_))) ?_))
      (pss_one (ps_ret (pv 3)))), ?_⟩
    · rintro D σ H ⟨p, u0, u1, u2, u4, u6, u7, u8, wd, fs, rfl, hw, hp, few, k⟩
      have wl := hw.name.len
      refine ⟨_, rfl, .inl ⟨rfl, _, SqL.of hp⟩, ?_⟩
      refine ⟨_, rfl, by show 1 ≤ sizeLine; omega, fun q nq => ?_⟩
      have s1 := same_new (o := .lst [V.str wd]) nq
      refine ⟨"abcdefghijklmnopq", rfl, fun D4 nD4 => lc_it (walk_str (z := "abcdefghijklmnopq")) (fun i H' => Same (upd H q (.lst [V.str wd])) H' ∧ H' D4 = some (.lst (((signsD.take i).map (cndD wd)).map V.str))) ⟨same_new nD4, upd_same⟩ (fun _ _ _ _ => trivial) ?_ ?_⟩
      · intro i x Ha Hb hi ⟨q1, q2⟩ ⟨e, ch, hc, ex⟩
        subst e
        subst ex
        have hz : signsD[i]? = some ch := by
          rw [← Array.getElem?_toList] at hc
          exact hc
        have l7 := cutS_length wd none (some 7)
        refine ⟨rfl, ?_⟩
        refine ⟨_, rfl, _, rfl, wd, rfl, by omega, _, rfl, _, _, rfl, rfl, by show _ + 1 ≤ sizeLine; omega, _, q2, ?_, Same.put q1 nD4, ?_⟩
        · rw [List.length_map, List.length_map, List.length_take]
          have : signsD.length = 17 := rfl
          omega
        · rw [upd_same, take_more hz, List.map_append, List.map_append] <;> rfl
      · intro H2 ⟨s2, q2⟩
        have q2 : H2 D4 = some (.lst ((signsD.map (cndD wd)).map V.str)) := q2
        have hq2 := s2 _ _ (upd_same (H := H) (a := q) (o := .lst [V.str wd]))
        refine ⟨q, D4, _, _, rfl, rfl, hq2, q2, by rw [List.length_map, List.length_map]; show 1 + 17 ≤ sizeLine; omega, fun r nr => ?_⟩
        obtain ⟨H3, e3⟩ : ∃ X, X = upd H2 r (.lst ([.str wd] ++ (signsD.map (cndD wd)).map V.str)) := ⟨_, rfl⟩
        have s3 : Same H H3 := (s1.trans s2).trans (e3 ▸ same_new nr)
        have at3 : H3 r = some (.lst ((wd :: signsD.map (cndD wd)).map V.str)) := by rw [e3, upd_same] <;> rfl
        rw [← e3]
        refine ⟨r, rfl, ⟨_, SqL.of at3⟩, fun D7 nD7 => lc_list (xs := (wd :: signsD.map (cndD wd)).map V.str) (fun i H' => Same H3 H' ∧ H' D7 = some (.lst ((freeD fs ((wd :: signsD.map (cndD wd)).take i)).map V.str))) ⟨same_new nD7, by rw [upd_same] <;> rfl⟩ (fun i H' _ q => Same.sql q.1 (SqL.of at3)) ?_ ?_⟩
        · intro i x Ha hx ⟨q1, q2⟩
          obtain ⟨e, he, rfl⟩ := map_of hx
          refine ⟨rfl, ?_⟩
          refine ⟨_, rfl, _, rfl, p, _, rfl, .inl (SqL.of (q1 _ _ (s3 _ _ hp))), rfl, flat_strs fs, _, rfl, ?_⟩
          rw [inV_strs, freeD_step he]
          by_cases hm : e ∈ fs
          · rw [if_pos hm, decide_eq_true hm, List.append_nil]
            exact iteF ⟨q1, q2⟩
          · rw [if_neg hm, decide_eq_false hm]
            show if true = true then _ else _
            rw [if_pos rfl]
            refine ⟨_, rfl, _, q2, ?_, Same.put q1 nD7, ?_⟩
            · rw [List.length_map]
              have h1 : (freeD fs ((wd :: signsD.map (cndD wd)).take i)).length ≤ ((wd :: signsD.map (cndD wd)).take i).length := List.length_filter_le _ _
              rw [List.length_take, List.length_cons, List.length_map] at h1
              have : signsD.length = 17 := rfl
              omega
            · rw [upd_same, List.map_append] <;> rfl
        · intro H8 ⟨s8, a8⟩
          rw [List.length_map, List.take_length] at a8
          obtain ⟨x, rest, ex, xok, xn⟩ := freeD_some hw few
          rw [ex] at a8
          have hp8 := s8 _ _ (s3 _ _ hp)
          refine ⟨D7, _, 0, .str x, rfl, rfl, SqL.of a8, (atI_nat (j := 0) rfl : atI _ ((0 : Nat) : Int) = _), ?_⟩
          refine ⟨p, _, _, rfl, rfl, hp8, by rw [List.length_map]; omega, ?_⟩
          refine k _ _ _ _ _ x xok xn (fun a u na e => ?_) (by rw [upd_same, List.map_append] <;> rfl)
          rw [upd_ne na]
          exact s8 _ _ (s3 _ _ e)
    · rintro D σ H ⟨d, l, i, o, p, b, u1, u4, u5, u6, u7, u8, fs, rfl, hD, bb, ⟨od, ol⟩, ⟨pd, pl, pi, po⟩, ho, hp, few, k⟩
      refine ⟨_, rfl, _, rfl, d, l, i, b, .ref o, 12, (fun _ x => ∃ z, x = .str z ∧ WdD z), rfl, hD, by omega, .inl ⟨o, _, rfl, ol, ho, rfl, items_strsD (ws := wordsD) fun z hz => .inl hz⟩, by decide, by decide, fun j x H1 px D1 k1 => ?_⟩
      obtain ⟨wd, rfl, hw⟩ := px
      refine ⟨_, rfl, d, l, i, b + 1, 2, rfl, D1, by omega, by decide, by decide, fun m H2 m0 m1 D2 k2 => ⟨rfl, _, rfl, ?_⟩⟩
      have K2 : KeepX [d, l] H H2 := k1.trans k2
      -- behind the word
      have fin : ∀ (w' : Str) (H3 : Hp), WdD w' → DrawD H3 d l i (b + 20) → KeepX [d, l] H H3 → ∀ u6 u7 u8 : Option V, tNameE D [some (.ref d), u1, some (.ref o), some (.ref p), u4, some (.str w'), u6, u7, u8] H3 := by
        intro w' H3 hw' D3 k3 u6 u7 u8
        refine ⟨p, _, _, _, _, _, _, _, w', fs, rfl, hw', k3 p _ (by simp [pd, pl]) hp, few, fun u5 u6 u7 u8 H' x xok xn s' hx => k u5 u6 u7 u8 H' x xok xn ?_ (fun a u na e => ?_) hx⟩
        · obtain ⟨rs, tn, lg, sm, a1, a2, a3, r⟩ := D3
          exact ⟨rs, tn, lg, sm, s' _ _ pd.symm a1, s' _ _ pl.symm a2, s' _ _ pi.symm a3, r⟩
        · simp only [List.mem_cons, List.not_mem_nil, or_false, not_or] at na
          exact s' _ _ na.2.2 (k3 a u (by simp [na.1, na.2.1]) e)
      refine ite2 (fun _ => ?_) (fun _ => fin wd H2 hw (D2.more (by omega)) K2 _ _ _)
      refine ⟨⟨_, rfl⟩, _, rfl, by show 4 ≤ sizeLine; omega, fun q nq => ?_⟩
      obtain ⟨qd, ql, qi⟩ := D2.apart nq
      refine ⟨d, l, i, b + 1 + 1, .ref q, 4, (fun _ x => ∃ z, x = .int z ∧ (1 ≤ z ∧ z ≤ 8)), rfl, D2.off qd ql qi, by omega, .inl ⟨q, _, rfl, ql, upd_same, rfl, items_intsD (ws := [1, 1, 2, 8]) (by decide)⟩, by decide, by decide, fun j x H3 px D3 k3 => ?_⟩
      obtain ⟨z, rfl, z1, z8⟩ := px
      have K3 : KeepX [d, l] H H3 := (K2.trans (.of_same (same_new nq))).trans k3
      refine ⟨_, rfl, by omega, by omega, fun D4 nD4 => ?_⟩
      obtain ⟨D4d, D4l, D4i⟩ := D3.apart nD4
      refine lc_it (walk_range (lo := 0) (n := z.toNat)) (fun j H' => DrawD H' d l i (b + 1 + 1 + 1 + (j : Int)) ∧ KeepX [d, l] H3 H' ∧ ∃ ys : List Str, H' D4 = some (.lst (ys.map V.str)) ∧ ys.length = j ∧ ∀ y ∈ ys, SgnD y) ⟨(D3.off D4d D4l D4i).more (by omega), kx_put (fun _ _ _ e => e) nD4, [], upd_same, rfl, fun y h => by cases h⟩ (fun _ _ _ _ => trivial) ?_ ?_
      · intro j x Ha Hb hj ⟨da, ka, ys, ey, ly, sy⟩ ⟨e1, e2⟩
        subst e1
        subst e2
        refine ⟨rfl, ?_⟩
        refine ⟨_, rfl, d, l, i, _, .str "abcdefghijklmnop", 16, (fun _ x => ∃ y, x = .str y ∧ SgnD y), rfl, da, by omega, .inr ⟨"abcdefghijklmnop", rfl, rfl, fun i s hs => ⟨_, rfl, s, rfl, ?_⟩⟩, by decide, by decide, fun j' x Hc px dc kc => ?_⟩
        · have all : ∀ s ∈ ("abcdefghijklmnop" : Str).cps.toList, 97 ≤ s ∧ s ≤ 112 := by decide +kernel
          exact all s (List.mem_of_getElem? hs)
        obtain ⟨y, rfl, gy⟩ := px
        have ey' := kc D4 _ (by simp [D4d, D4l]) ey
        refine ⟨_, ey', ?_, (dc.off D4d D4l D4i).more (by push_cast; omega), kx_put (ka.trans kc) nD4, ys ++ [y], by rw [upd_same, List.map_append] <;> rfl, by rw [List.length_append, ly] <;> rfl, fun q hq => ?_⟩
        · rw [List.length_map, ly]
          omega
        · rcases List.mem_append.mp hq with h | h
          · exact sy q h
          · rw [List.mem_singleton.mp h]
            exact gy
      · intro H5 ⟨d5, k5, ys, ey, ly, sy⟩
        refine ⟨_, D4, ys, rfl, rfl, .inl (SqL.of ey), by rw [sum_sgnD ys sy]; show ys.length + ys.length * 0 ≤ 16777216; omega, ?_⟩
        exact fin _ H5 (join_wdD sy (by omega) (by omega)) (d5.more (by omega)) (K3.trans k5) _ _ _
    · refine ⟨by show 12 ≤ sizeLine; omega, fun o no => ⟨by show 0 ≤ sizeLine; omega, fun p np => ⟨by show 2 ≤ sizeLine; omega, fun tp ntp => ⟨tp, _, rfl, .inl (.inl upd_same), rfl, _, _, rfl, _, _, rfl, rfl, ?_⟩⟩⟩⟩
      obtain ⟨H1, e1⟩ : ∃ X, X = upd (upd (upd H o (.lst [.str "new", .str "old", .str "pay", .str "size", .str "must", .str "never", .str "stay", .str "undo", .str "start", .str "free", .str "users", .str "steps"])) p (.lst [])) tp (.tup [.ref o, .ref p]) := ⟨_, rfl⟩
      have so := same_new (o := .lst [.str "new", .str "old", .str "pay", .str "size", .str "must", .str "never", .str "stay", .str "undo", .str "start", .str "free", .str "users", .str "steps"]) no
      have sp := same_new (o := .lst []) np
      have st := same_new (o := .tup [.ref o, .ref p]) ntp
      have s1 : Same H H1 := e1 ▸ (so.trans (sp.trans st))
      have ho : H1 o = some (.lst (wordsD.map V.str)) := by rw [e1]; exact (sp.trans st) _ _ upd_same
      have hp : H1 p = some (.lst (([] : List Str).map V.str)) := by rw [e1]; exact st _ _ upd_same
      rw [← e1]
      have D1 := hD.mono s1
      obtain ⟨od, ol, oi⟩ := hD.apart no
      have np0 : H p = none := so.free np
      obtain ⟨pd, pl, pi⟩ := hD.apart np0
      have po : p ≠ o := (ne_of_none (upd_same (H := H) (a := o)) np).symm
      refine ⟨_, rfl, _, rfl, by omega, by omega, ?_⟩
      refine for_it (walk_range (lo := 0) (n := ((n : Int)).toNat)) (fun j σ' H' => (∃ u4 u5 u6 u7 u8, σ' = [some (.ref d), some (.int (n : Int)), some (.ref o), some (.ref p), u4, u5, u6, u7, u8]) ∧ DrawD H' d l i (b + 20 * (j : Int)) ∧ KeepX [d, l, p] H1 H' ∧
        ∃ fs : List Str, H' p = some (.lst (fs.map V.str)) ∧ fs.length = j ∧ fs.Nodup ∧ ∀ z ∈ fs, NameL z) ⟨⟨_, _, _, _, _, rfl⟩, D1.more (by omega), fun _ _ _ e => e, [], hp, rfl, List.nodup_nil, fun z h => by cases h⟩ (fun _ _ _ _ _ => trivial) ?_ ?_
      · intro j x σ' Ha Hb hj ⟨⟨u4, u5, u6, u7, u8, e⟩, da, ka, fs, el, ln, ndf, ok⟩ ⟨e1, e2⟩
        subst e
        subst e1
        subst e2
        refine ⟨d, l, i, o, p, b + 20 * (j : Int), _, _, u5, u6, u7, u8, fs, rfl, da, by omega, ⟨od, ol⟩, ⟨pd, pl, pi, po⟩, ka o _ (by simp [od, ol, po.symm]) ho, el, by omega, fun u5 u6 u7 u8 H' x xok xn d' k' l' => ⟨⟨_, _, _, _, _, rfl⟩, d'.more (by push_cast; omega), fun a u na e => k' a u na (ka a u na e), fs ++ [x], l', by rw [List.length_append, ln] <;> rfl, ?_, fun z hz => ?_⟩⟩
        · refine List.nodup_append.mpr ⟨ndf, by simp, fun a ha b hb => ?_⟩
          rw [List.mem_singleton.mp hb]
          exact fun z => xn (z ▸ ha)
        · rcases List.mem_append.mp hz with h | h
          · exact ok z h
          · rw [List.mem_singleton.mp h]
            exact xok
      · intro σ' H' ⟨⟨u4, u5, u6, u7, u8, e⟩, da, ka, fs, el, ln, ndf, ok⟩
        subst e
        refine ⟨_, rfl, k p fs H' (by omega) ndf ok np0 el (da.more (by omega)) fun a u na e => ?_⟩
        simp only [List.mem_cons, List.not_mem_nil, or_false, not_or] at na
        exact ka a u (by simp only [List.mem_cons, List.not_mem_nil, or_false, not_or]; exact ⟨na.1, na.2, ne_of_none e np0⟩) (s1 _ _ e)
end
end FT


/-! family D: _law_parents, _law_path, _law_places -/
namespace FT
open PySem L2 TL ClX LiI
def spParentsD : Sp := fun vs H Q _ => ∃ (d l i a : Addr) (b : Int) (ns : List Str), vs = [.ref d, .ref a] ∧ DrawD H d l i b ∧ b + 1000 ≤ 10 ^ 12 ∧ H a = some (.lst (ns.map V.str)) ∧ a ≠ d ∧ a ≠ l ∧ 1 ≤ ns.length ∧ ns.length ≤ 12 ∧ ns.Nodup ∧ (∀ z ∈ ns, NameL z) ∧
  ∀ (q : Addr) (t : List (Str × Str)) (H' : Hp), TreeOk t → t.map Prod.fst = ns → H q = none → H' q = some (.dK (prs t)) → DrawD H' d l i (b + 100) → KeepX [d, l] H H' → Q (.ref q) H'
def spPathD (m : Nat) : Sp := fun vs H Q _ => ∃ (q : Addr) (t : List (Str × Str)) (rk : Str → Nat) (a : Str), vs = [.ref q, .str a] ∧ H q = some (.dK (prs t)) ∧ TreeOk t ∧ Rk t rk ∧ Pl t a ∧ (a ≠ "" → rk a < m) ∧ ∀ p H', Same H H' → H p = none → H' p = some (.tup ((pathOf t a).map V.str)) → Q (.ref p) H'
def spPathDX : Sp := fun vs H Q _ => ∃ (q : Addr) (t : List (Str × Str)) (a : Str), vs = [.ref q, .str a] ∧ H q = some (.dK (prs t)) ∧ TreeOk t ∧ Pl t a ∧ ∀ p H', Same H H' → H p = none → H' p = some (.tup ((pathOf t a).map V.str)) → Q (.ref p) H'
def spPlacesD : Sp := fun vs H Q _ => ∃ (q : Addr) (t : List (Str × Str)), vs = [.ref q] ∧ H q = some (.dK (prs t)) ∧ TreeOk t ∧ ∀ p (ns : List Str) H', ns.Perm (t.map Prod.fst) → Same H H' → H p = none → H' p = some (.lst ((("" : Str) :: ns).map V.str)) → Q (.ref p) H'
theorem fresh_atD {fs l : List Str} {j : Nat} {f : Str} (nd : fs.Nodup) (h : fs[j]? = some f) (e : l = fs.take j) : f ∉ l := by
  rw [e]
  intro hm
  obtain ⟨i, hi⟩ := List.mem_iff_getElem?.mp hm
  have il := (List.getElem?_eq_some_iff.mp hi).1
  rw [List.length_take] at il
  rw [List.getElem?_take_of_lt (by omega)] at hi
  have := (List.getElem?_inj (by omega) nd).mp (hi.trans h.symm)
  omega
theorem atI4 {z : Str} {way : Int} (w0 : 0 ≤ way) (w4 : way < 4) : ∃ z' : Str, atI [V.str z, V.str "", V.str "", V.str ""] way = some (V.str z') ∧ (z' = z ∨ z' = "") := by
  obtain ⟨m, rfl⟩ := Int.eq_ofNat_of_zero_le w0
  have : m = 0 ∨ m = 1 ∨ m = 2 ∨ m = 3 := by omega
  rcases this with rfl | rfl | rfl | rfl
  · exact ⟨z, atI_nat (j := 0) rfl, .inl rfl⟩
  · exact ⟨"", atI_nat (j := 1) rfl, .inr rfl⟩
  · exact ⟨"", atI_nat (j := 2) rfl, .inr rfl⟩
  · exact ⟨"", atI_nat (j := 3) rfl, .inr rfl⟩
theorem pe_nvD {X : Cx} {e : Expr} : PE X e (fun _ _ _ => False) := ⟨fun _ _ _ _ _ _ h => h.elim⟩
/-- the second if: another parent may be taken -/
def tAbD : TS := fun D σ H => ∃ (d l i pn : Addr) (b way : Int) (j : Nat) (fs : List Str) (z : Str) (u2 u5 : Option V), σ = [some (.ref d), some (.ref pn), u2, some (.int way), some (.int (j : Int)), u5, some (.str z)] ∧ DrawD H d l i b ∧ b + 2 ≤ 10 ^ 12 ∧ H pn = some (.lst (fs.map V.str)) ∧ pn ≠ d ∧ pn ≠ l ∧ j < fs.length ∧ fs.length ≤ 12 ∧
  (z = "" ∨ z ∈ fs.take j) ∧ ∀ (z' : Str) H', (z' = "" ∨ z' ∈ fs.take j) → DrawD H' d l i (b + 2) → KeepX [d, l] H H' → D.nx [some (.ref d), some (.ref pn), u2, some (.int way), some (.int (j : Int)), u5, some (.str z')] H'
section
variable {P : Program} {w : World} {K : PySem.W.Frag} {mg : Str → Option Value} {base : Heap}
abbrev NPa : List Str := ["_law_draw", "_law_names_here", "_law_found", "_law_way", "_law_at", "_law_flag", "_law_above"]
theorem scPa : FnScope NPa ["_law_draw", "_law_names_here"] (defScope s__law_parents) := ⟨rfl, rfl, rfl, by decide +kernel, rfl, by decide +kernel, by decide +kernel⟩
theorem ok_parentsD {f fT : Addr} {fd fdT : FuncData} (F : Fun K "_law_parents" "_law_parents" s__law_parents f fd) (T : Nm mg) (DT : Dn P w K mg base CX0 2 "_law_take" ["_law_draw", "_law_size"] spTakeD fT fdT) : FnOk P w K mg base CX0 3 f fd ["_law_draw", "_law_names_here"] spParentsD := by
  refine F.ok scPa (fun vs H Q E h => ?_) (fun cdv A outer s H vs Q E hr h => ?_)
  · obtain ⟨d, l, i, a, b, ns, rfl, _⟩ := h
    rfl
  · obtain ⟨d, l, i, pn, b, fs, rfl, hD, bb, hn, nd', nl', l1, l12, ndf, nm, k⟩ := h
    have hu := hu_of hr
    have nd := scPa.nd
    have big : 1000 ≤ sizeLine := by decide
    refine ⟨_, pss_cons (ps_par (i := 2) (j := 3) rfl nd rfl rfl (by decide) rfl rfl (pa_cons pe_dnewK (pa_cons (pe_call DT.ok hr rfl DT.mgn DT.kp DT.bn .nil pass0 (pa_cons (pv 0) (pa_cons pe_int pa_nil))) pa_nil)) (by rfl))
      (pss_cons (ps_for PassesOwn.never rfl (pi_enum rfl T.enu (pa_cons (pv 1) pa_nil)) (pg_tup rfl (pgs_cons (pg_name (i := 4) nd rfl (.inl rfl)) (pgs_cons (pg_name (i := 5) nd rfl (.inl rfl)) pgs_nil)))
        (pss_cons (ps_set (i := 6) nd rfl (.inl rfl) (pe_ix ix_list (pe_lst (pa_cons (pe_ifExp (pt_cmpR op_gt (pv 4) pe_int (nomark _)) (pe_ix ix_list (pv 1) (pe_op op_sub (pv 4) pe_int) (fun _ _ => rfl)) pe_str) (pa_cons pe_str (pa_cons pe_str (pa_cons pe_str pa_nil))))) (pv 3) (fun _ _ => rfl)))
        (pss_cons (ps_toD (t' := tAbD) (ps_if (PW.pt (pw_and (pt_cmpR op_gt (pv 3) pe_int (nomark _)) (pw_and (pt_cmpR op_gt (pv 4) pe_int (nomark _)) (pw_and1 (pt_cmpR op_gt (pe_call DT.ok hr rfl DT.mgn DT.kp DT.bn .nil pass0 (pa_cons (pv 0) (pa_cons pe_int pa_nil))) pe_int (nomark _))))))
          (pss_one (ps_set (i := 6) nd rfl (.inl rfl) (pe_ix ix_list (pv 1) (pe_call DT.ok hr rfl DT.mgn DT.kp DT.bn .nil pass0 (pa_cons (pv 0) (pa_cons (pv 4) pa_nil))) (fun _ _ => rfl)))) pss_nil) ?_)
        (pss_one (ps_dput hu (pv 2) (pv 5) (pv 6) rfl)))))
      (pss_one (ps_ret (pv 2)))), ?_⟩
    · rintro D σ H ⟨d, l, i, pn, b, way, j, fs, z, u2, u5, rfl, hD, bb, hn, n1, n2, jl, l12, hz, k⟩
      have out : ∀ H', KeepX [d, l] H H' → DrawD H' d l i (b + 2) → D.nx [some (.ref d), some (.ref pn), u2, some (.int way), some (.int (j : Int)), u5, some (.str z)] H' := fun H' k' d' => k z H' hz d' k'
      refine ⟨_, rfl, _, _, rfl, rfl, _, rfl, ?_⟩
      refine ite2 (fun _ => ?_) (fun _ => iteF (out H (fun _ _ _ e => e) (hD.more (by omega))))
      refine ⟨_, rfl, _, _, rfl, rfl, _, rfl, ?_⟩
      refine ite2 (fun j0 => ?_) (fun _ => iteF (out H (fun _ _ _ e => e) (hD.more (by omega))))
      have jp : (j : Int) > 0 := of_decide_eq_true j0
      refine ⟨_, rfl, d, l, i, b, 4, rfl, hD, by omega, by decide, by decide, fun m H1 m0 m1 D1 k1 => ⟨_, _, rfl, rfl, _, rfl, ?_⟩⟩
      refine ite2 (fun _ => ?_) (fun _ => out H1 k1 (D1.more (by omega)))
      refine ⟨_, rfl, _, rfl, _, rfl, d, l, i, b + 1, (j : Int), rfl, D1, by omega, jp, ?_, fun j2 H2 h0 h1 D2 k2 => ?_⟩
      · rw [Int.natAbs_natCast]
        exact Nat.lt_of_lt_of_le (by omega : j < 12) (by decide)
      have hj : j2.toNat < fs.length := by omega
      have e : fs[j2.toNat]? = some fs[j2.toNat] := List.getElem?_eq_getElem hj
      have e2 := atI_nat (map_at (f := V.str) e)
      rw [show ((j2.toNat : Nat) : Int) = j2 by omega] at e2
      refine ⟨pn, _, j2, .str fs[j2.toNat], rfl, rfl, SqL.of (k2 pn _ (by simp [n1, n2]) (k1 pn _ (by simp [n1, n2]) hn)), e2, k _ H2 (.inr ?_) (D2.more (by omega)) (k1.trans k2)⟩
      rw [List.mem_take_iff_getElem]
      exact ⟨j2.toNat, by omega, rfl⟩
    · refine fun q nq => ?_
      have s1 := same_new (o := .dK []) nq
      obtain ⟨qd, ql, qi⟩ := hD.apart nq
      refine ⟨_, rfl, d, l, i, b, 4, rfl, hD.mono s1, by omega, by decide, by decide, fun way H2 w0 w4 D2 k2 => ⟨_, _, rfl, ?_⟩⟩
      have hq2 : H2 q = some (.dK []) := k2 q _ (by simp [qd, ql]) upd_same
      have K2 : KeepX [d, l] H H2 := (KeepX.of_same s1).trans k2
      have hn2 := K2 pn _ (by simp [nd', nl']) hn
      refine ⟨_, rfl, pn, fs.map V.str, rfl, SqL.of hn2, ?_⟩
      refine for_it walk_enum (fun j σ' H' => (∃ u4 u5 u6, σ' = [some (.ref d), some (.ref pn), some (.ref q), some (.int way), u4, u5, u6]) ∧ DrawD H' d l i (b + 1 + 2 * (j : Int)) ∧ H' pn = some (.lst (fs.map V.str)) ∧ KeepX [d, l] H H' ∧
        ∃ t : List (Str × Str), H' q = some (.dK (prs t)) ∧ t.map Prod.fst = fs.take j ∧ ∀ (i : Nat) (p : Str × Str), t[i]? = some p → p.2 = "" ∨ p.2 ∈ fs.take i)
        ⟨⟨_, _, _, rfl⟩, D2.more (by omega), hn2, K2, [], hq2, by rw [List.take_zero] <;> rfl, fun i p h => by simp at h⟩ (fun j σ' H' _ q => SqL.of q.2.2.1) ?_ ?_
      · intro j TT σ' Ha Hb hj ⟨⟨u4, u5, u6, e⟩, da, hna, ka, t, hq, et, up⟩ ⟨T', y, z, eT, nT, eH, ey, ez⟩
        subst e
        subst eT
        subst eH
        cases ey
        rw [List.length_map] at hj
        obtain ⟨f, hf, rfl⟩ := map_of (show (fs.map V.str)[j]? = some z from ez)
        have tlen := congrArg List.length et
        rw [List.length_map, List.length_take] at tlen
        have fresh : f ∉ t.map Prod.fst := fresh_atD ndf hf et
        obtain ⟨H4, e4⟩ : ∃ X, X = upd Ha T' (.tup [.int (j : Int), .str f]) := ⟨_, rfl⟩
        have sT : Same Ha H4 := e4 ▸ same_new nT
        have a4 : H4 T' = some (.tup [.int (j : Int), .str f]) := by rw [e4]; exact upd_same
        rw [← e4]
        have hna4 := sT _ _ hna
        have hq4 := sT _ _ hq
        have da4 := da.mono sT
        have K4 : KeepX [d, l] H H4 := ka.trans (.of_same sT)
        refine ⟨T', _, rfl, .inl (.inl a4), rfl, ?_⟩
        refine ⟨_, _, rfl, _, _, rfl, rfl, ?_⟩
        -- behind the parent
        have fin : ∀ (z : Str) (H5 : Hp), (z = "" ∨ z ∈ fs.take j) → Same H4 H5 → ∀ D : Ends, (∀ (z' : Str) H6, (z' = "" ∨ z' ∈ fs.take j) → DrawD H6 d l i (b + 1 + 2 * (j : Int) + 2) → KeepX [d, l] H H6 → H6 q = some (.dK (prs t)) → D.nx [some (.ref d), some (.ref pn), some (.ref q), some (.int way), some (.int (j : Int)), some (.str f), some (.str z')] H6) → tAbD D [some (.ref d), some (.ref pn), some (.ref q), some (.int way), some (.int (j : Int)), some (.str f), some (.str z)] H5 := by
          intro z H5 hz s5 D kk
          refine ⟨d, l, i, pn, _, way, j, fs, z, _, _, rfl, da4.mono s5, by omega, s5 _ _ hna4, nd', nl', hj, l12, hz, fun z' H6 hz' D6 k6 => ?_⟩
          exact kk z' H6 hz' D6 ((K4.trans (.of_same s5)).trans k6) (k6 q _ (by simp [qd, ql]) (s5 _ _ hq4))
        have last : ∀ (z' : Str) (H6 : Hp), (z' = "" ∨ z' ∈ fs.take j) → DrawD H6 d l i (b + 1 + 2 * (j : Int) + 2) → KeepX [d, l] H H6 → H6 q = some (.dK (prs t)) →
            (∃ u4 u5 u6, ([some (.ref d), some (.ref pn), some (.ref q), some (.int way), some (.int (j : Int)), some (.str f), some (.str z')] : St) = [some (.ref d), some (.ref pn), some (.ref q), some (.int way), u4, u5, u6]) ∧ DrawD (upd H6 q (.dK (prs (t ++ [(f, z')])))) d l i (b + 1 + 2 * (((j + 1 : Nat)) : Int)) ∧ (upd H6 q (.dK (prs (t ++ [(f, z')])))) pn = some (.lst (fs.map V.str)) ∧ KeepX [d, l] H (upd H6 q (.dK (prs (t ++ [(f, z')])))) ∧
            ∃ t' : List (Str × Str), (upd H6 q (.dK (prs (t ++ [(f, z')])))) q = some (.dK (prs t')) ∧ t'.map Prod.fst = fs.take (j + 1) ∧ ∀ (i : Nat) (p : Str × Str), t'[i]? = some p → p.2 = "" ∨ p.2 ∈ fs.take i := fun z' H6 hz' D6 k6 hq6 => by
          have hn6 := k6 pn _ (by simp [nd', nl']) hn
          have qn : pn ≠ q := ne_of hn6 hq6 (by intro z; cases z)
          refine ⟨⟨_, _, _, rfl⟩, (D6.off qd ql qi).more (by push_cast; omega), by rw [upd_ne qn]; exact hn6, kx_put k6 nq, t ++ [(f, z')], upd_same, by rw [List.map_append, et, take_more hf] <;> rfl, fun i p h => ?_⟩
          by_cases hi : i < t.length
          · rw [List.getElem?_append_left hi] at h
            exact up i p h
          · have hl := (List.getElem?_eq_some_iff.mp h).1
            rw [List.length_append] at hl
            have one : ([(f, z')] : List (Str × Str)).length = 1 := rfl
            have ei : i = t.length := by omega
            subst ei
            rw [List.getElem?_append_right (Nat.le_refl _), Nat.sub_self] at h
            have ep : (f, z') = p := Option.some.inj h
            subst ep
            rw [show t.length = j by omega]
            exact hz'
        refine ⟨_, rfl, _, _, rfl, rfl, _, rfl, ?_⟩
        refine ite2 (fun j0 => ?_) (fun j0 => ?_)
        · have jp : (j : Int) > 0 := of_decide_eq_true j0
          have e : fs[j - 1]? = some fs[j - 1] := List.getElem?_eq_getElem (by omega)
          have e2 := atI_nat (map_at (f := V.str) e)
          rw [show ((j - 1 : Nat) : Int) = (j : Int) - 1 by omega] at e2
          obtain ⟨z', ez', hz'⟩ := atI4 (z := fs[j - 1]) w0 w4
          refine ⟨_, rfl, _, rfl, _, _, rfl, rfl, pn, _, _, _, rfl, rfl, SqL.of hna4, e2, by show 4 ≤ sizeLine; omega, fun p np => ⟨_, rfl, p, _, way, .str z', rfl, rfl, SqL.of upd_same, ez', ?_⟩⟩
          refine fin z' _ ?_ (same_new np) _ fun z2 H6 hz2 D6 k6 hq6 => ?_
          · rcases hz' with rfl | rfl
            · right
              rw [List.mem_take_iff_getElem]
              exact ⟨j - 1, by omega, rfl⟩
            · exact .inl rfl
          · refine ⟨_, rfl, _, rfl, _, rfl, q, _, rfl, DPut.k (k := Sum.inr f) hq6 (by rw [prs_len]; omega), ?_⟩
            rw [put_new fresh]
            exact last z2 H6 hz2 D6 k6 hq6
        · obtain ⟨z', ez', hz'⟩ := atI4 (z := "") w0 w4
          refine ⟨by show 4 ≤ sizeLine; omega, fun p np => ⟨_, rfl, p, _, way, .str z', rfl, rfl, SqL.of upd_same, ez', ?_⟩⟩
          refine fin z' _ (.inl (hz'.elim id id)) (same_new np) _ fun z2 H6 hz2 D6 k6 hq6 => ?_
          refine ⟨_, rfl, _, rfl, _, rfl, q, _, rfl, DPut.k (k := Sum.inr f) hq6 (by rw [prs_len]; omega), ?_⟩
          rw [put_new fresh]
          exact last z2 H6 hz2 D6 k6 hq6
      · intro σ' H4 ⟨⟨u4, u5, u6, e⟩, da, hna, ka, t, hq, et, up⟩
        subst e
        rw [List.length_map] at da et
        rw [List.take_length] at et
        have lt : t.length = fs.length := by rw [← et, List.length_map]
        refine ⟨_, rfl, k q t H4 (tree_of (by omega) (by omega) (by rw [et]; exact ndf) (by rw [et]; exact nm) (by rw [et]; exact up)) et (K2 |> fun _ => nq) hq (da.more (by omega)) ka⟩
abbrev NPt : List Str := ["_law_parents_here", "_law_spot"]
theorem scPt : FnScope NPt ["_law_parents_here", "_law_spot"] (defScope s__law_path) := ⟨rfl, rfl, rfl, by decide +kernel, rfl, by decide +kernel, by decide +kernel⟩
theorem ok_pathDS {f : Addr} {fd : FuncData} (F : Fun K "_law_path" "_law_path" s__law_path f fd) (m : Nat) (D : Dn P w K mg base CX0 (m + 1) "_law_path" ["_law_parents_here", "_law_spot"] (spPathD m) f fd) : FnOk P w K mg base CX0 (m + 2) f fd ["_law_parents_here", "_law_spot"] (spPathD (m + 1)) := by
  refine F.ok scPt (fun vs H Q E h => ?_) (fun cdv A outer s H vs Q E hr h => ?_)
  · obtain ⟨q, t, rk, a, rfl, _⟩ := h
    rfl
  · obtain ⟨q, t, rk, a, rfl, hq, o, r, pl, hm, k⟩ := h
    have hu := hu_of hr
    have big : 1000 ≤ sizeLine := by decide
    refine ⟨_, pss_one (ps_ret (pe_ifExp (pt_cmpR op_eq (pv 1) pe_str (nomark _)) (pe_tup pa_nil) (pe_op op_catA (pe_call D.ok hr rfl D.mgn D.kp D.bn .nil pass0 (pa_cons (pv 0) (pa_cons (pe_dget hu (pv 0) (pv 1) (fun _ _ => rfl)) pa_nil))) (pe_tup (pa_cons (pv 1) pa_nil))))), ?_⟩
    refine ⟨_, rfl, rfl, _, rfl, ?_⟩
    by_cases h0 : a = ""
    · subst h0
      rw [decide_eq_true rfl]
      refine iteT ⟨by show 0 ≤ sizeLine; omega, fun p np => ?_⟩
      exact k p _ (same_new np) np (by rw [upd_same, path_root] <;> rfl)
    · rw [decide_eq_false (show ¬ V.str a = V.str "" from fun e => h0 (V.str.inj e))]
      refine iteF ?_
      have ha : a ∈ t.map Prod.fst := pl.resolve_left h0
      obtain ⟨pa, hp, up, lt⟩ := o.step r ha
      have dg := DGet.k (k := Sum.inr a) hq
      rw [val_prs, hp] at dg
      refine ⟨_, rfl, _, rfl, _, rfl, q, _, rfl, dg, q, t, rk, pa, rfl, hq, o, r, up.elim .inl fun u => .inr u.1, fun hne => ?_, fun p1 H1 s1 n1 h1 => ?_⟩
      · have := (up.resolve_left hne).2
        have := hm h0
        omega
      refine ⟨_, rfl, by show 1 ≤ sizeLine; omega, fun p2 n2 => ?_⟩
      have s2 := same_new (o := .tup [V.str a]) n2
      have pe := path_step o ha hp
      have lp := path_len t pa
      have few := o.few
      refine ⟨p1, p2, _, [.str a], rfl, rfl, .inl (.inl (s2 _ _ h1)), .inl (.inl upd_same), by rw [List.length_map]; show _ + 1 ≤ sizeLine; omega, fun e => ?_, (fun _ e => nomatch e), fun _ _ p3 n3 => ?_⟩
      · refine k p2 _ (s1.trans s2) (s1.free n2) ?_
        have e' : pathOf t pa = [] := List.map_eq_nil_iff.mp e
        rw [upd_same, pe, e'] <;> rfl
      · refine k p3 _ ((s1.trans s2).trans (same_new n3)) ((s1.trans s2).free n3) ?_
        rw [upd_same, pe, List.map_append] <;> rfl
theorem ok_pathD {f : Addr} {fd : FuncData} (F : Fun K "_law_path" "_law_path" s__law_path f fd) (b : Binds K fd ["_law_parents_here", "_law_spot"] []) (g : mg "_law_path" = some (.ref f)) : ∀ m, FnOk P w K mg base CX0 (m + 1) f fd ["_law_parents_here", "_law_spot"] (spPathD m)
  | 0 => by
    refine F.ok scPt (fun vs H Q E h => ?_) (fun cdv A outer s H vs Q E hr h => ?_)
    · obtain ⟨q, t, rk, a, rfl, _⟩ := h
      rfl
    · obtain ⟨q, t, rk, a, rfl, hq, o, r, pl, hm, k⟩ := h
      have hu := hu_of hr
      refine ⟨_, pss_one (ps_ret (pe_ifExp (pt_cmpR op_eq (pv 1) pe_str (nomark _)) (pe_tup pa_nil) pe_nvD)), ?_⟩
      refine ⟨_, rfl, rfl, _, rfl, ?_⟩
      by_cases h0 : a = ""
      · subst h0
        rw [decide_eq_true rfl]
        refine iteT ⟨by show 0 ≤ sizeLine; decide, fun p np => ?_⟩
        exact k p _ (same_new np) np (by rw [upd_same, path_root] <;> rfl)
      · exact absurd (hm h0) (by omega)
  | m + 1 => ok_pathDS F m ⟨ok_pathD F b g m, F.kp, b, g⟩
theorem ok_pathDX {f : Addr} {fd : FuncData} (F : Fun K "_law_path" "_law_path" s__law_path f fd) (b : Binds K fd ["_law_parents_here", "_law_spot"] []) (g : mg "_law_path" = some (.ref f)) : FnOk P w K mg base CX0 13 f fd ["_law_parents_here", "_law_spot"] spPathDX :=
  (ok_pathD F b g 12).imp fun vs H Q E ⟨q, t, a, e, hq, o, pl, k⟩ => by
    obtain ⟨rk, r⟩ := o.up
    refine ⟨q, t, rk, a, e, hq, o, r, pl, fun h0 => ?_, k⟩
    obtain ⟨_, _, _, lt⟩ := o.step r (pl.resolve_left h0)
    have := o.few
    omega
theorem scPlD : FnScope ["_law_parents_here"] ["_law_parents_here"] (defScope s__law_places) := ⟨rfl, rfl, rfl, by decide +kernel, rfl, by decide +kernel, by decide +kernel⟩
theorem ok_placesD {f : Addr} {fd : FuncData} (F : Fun K "_law_places" "_law_places" s__law_places f fd) (T : Nm mg) : FnOk P w K mg base CX0 1 f fd ["_law_parents_here"] spPlacesD := by
  refine F.ok scPlD (fun vs H Q E h => ?_) (fun cdv A outer s H vs Q E hr h => ?_)
  · obtain ⟨q, t, rfl, _⟩ := h
    rfl
  · obtain ⟨q, t, rfl, hq, o, k⟩ := h
    have big : 1000 ≤ sizeLine := by decide
    have few := o.few
    refine ⟨_, pss_one (ps_ret (pe_op op_cat (pe_lst (pa_cons pe_str pa_nil)) (pe_callB (call_sortedD rfl) (by rfl) T.srt (by decide +kernel) (pa_cons (pv 0) pa_nil)))), ?_⟩
    refine ⟨by show 1 ≤ sizeLine; omega, fun p1 n1 => ?_⟩
    have s1 := same_new (o := .lst [V.str ""]) n1
    refine ⟨_, rfl, q, _, t.map Prod.fst, rfl, .inl (s1 _ _ hq), prs_keys t, by rw [List.length_map]; omega, fun ys p2 pm srt n2 => ?_⟩
    have s2 := same_new (o := .lst (ys.map V.str)) n2
    refine ⟨p1, p2, [.str ""], _, rfl, rfl, s2 _ _ upd_same, upd_same, ?_, fun p3 n3 => ?_⟩
    · have := pm.length_eq
      rw [List.length_map] at this
      rw [List.length_map]
      show 1 + _ ≤ sizeLine
      omega
    · exact k p3 ys _ pm ((s1.trans s2).trans (same_new n3)) ((s1.trans s2).free n3) (by rw [upd_same] <;> rfl)
end
end FT


/-! == of two lists of other lengths -/
namespace L2
open PySem PySem.Spec PyProof.Rows
section
variable {X : Cx}
def rEqLen : R2 := fun x y H Q => ∃ a b xs ys, x = .ref a ∧ y = .ref b ∧ H a = some (.lst xs) ∧ H b = some (.lst ys) ∧ xs.length ≠ ys.length ∧ Q (.bl false) H
theorem op_eqLen (hu : X.A.units < cLine) : OpR X (compareOp .Eq) rEqLen := by
  intro pins s σ H x y v u Q I rx ry h
  obtain ⟨a, b, xs, ys, rfl, rfl, ea, eb, ne, q⟩ := h
  obtain rfl : v = Value.ref a := rx
  obtain rfl : u = Value.ref b := ry
  obtain ⟨za, ia, na, ra, la, da⟩ := I.lstM ea
  obtain ⟨zb, ib, nb, rb, lb, db⟩ := I.lstM eb
  refine PySem.SeqAt.eq_list_lengthsAt (items := ia.toArray) (items2 := ib.toArray) ⟨_, da, rfl, _, rfl⟩ ⟨_, db, rfl, _, rfl⟩ ?_ hu ⟨.bl _, H, I, rfl, q⟩
  rw [List.size_toArray, List.size_toArray, bne_iff_ne]
  have h1 : xs.length = ia.length := by first | exact la | exact ra.length | exact la.symm
  have h2 : ys.length = ib.length := by first | exact lb | exact rb.length | exact lb.symm
  omega
end
end L2


/-! xs == [] and xs != [], whatever the items -/
namespace L2
open PySem PySem.Spec PyProof.Rows
section
variable {X : Cx}
def rNeLen : R2 := fun x y H Q => ∃ a b xs ys, x = .ref a ∧ y = .ref b ∧ H a = some (.lst xs) ∧ H b = some (.lst ys) ∧ xs.length ≠ ys.length ∧ Q (.bl true) H
def rEqNil : R2 := fun x y H Q => ∃ a b xs, x = .ref a ∧ y = .ref b ∧ H a = some (.lst xs) ∧ H b = some (.lst []) ∧ Q (.bl (decide (xs.length = 0))) H
def rNeNil : R2 := fun x y H Q => ∃ a b xs, x = .ref a ∧ y = .ref b ∧ H a = some (.lst xs) ∧ H b = some (.lst []) ∧ Q (.bl (!decide (xs.length = 0))) H
theorem op_eqNil (hu : X.A.units + 64 < cLine) : OpR X (compareOp .Eq) rEqNil := by
  intro pins s σ H x y v u Q I rx ry h
  obtain ⟨a, b, xs, rfl, rfl, ea, eb, q⟩ := h
  cases xs with
  | nil => exact op_eqD hu pins s σ H _ _ v u Q I rx ry ⟨.list [], .list [], .lst (SqL.of ea) .nil, .lst (SqL.of eb) .nil, rfl, rfl, q⟩
  | cons x xs => exact op_eqLen (by omega) pins s σ H _ _ v u Q I rx ry ⟨a, b, _, _, rfl, rfl, ea, eb, Nat.succ_ne_zero _, q⟩
end
end L2


/-! the law's own: _law_is_told, _law_allows, _law_pin -/
namespace FT
open PySem L2 TL ClX LiI
def PinV.Ok : PinV → Prop
  | .must u n => ∃ i z, u = .int i ∧ 0 ≤ i ∧ n = .str z ∧ NameL z
  | .never u n => ∃ i z, u = .int i ∧ 0 ≤ i ∧ n = .str z ∧ NameL z
  | .stay u => ∃ i, u = .int i ∧ 0 ≤ i
theorem PinV.Ok.told {p : PinV} (h : p.Ok) : toldX p.tv = some p := by
  cases p with
  | must u n =>
    obtain ⟨i, z, rfl, i0, rfl, nm⟩ := h
    unfold toldX
    refine (if_neg ?_).trans ((if_neg ?_).trans ((if_neg ?_).trans ((if_neg ?_).trans ((if_neg ?_).trans ((if_neg ?_).trans ((if_pos ?_).trans rfl))))))
    · exact fun c => c (.inr rfl)
    · exact fun c => nomatch (show true = false from c)
    · exact fun c => absurd i0 (of_decide_eq_false (show decide (0 ≤ i) = false from c))
    · exact fun c => absurd (show 3 = 2 from c) (by decide)
    · exact fun c => c (.inl rfl)
    · intro c
      have c : nmB z = false := c
      rw [nmB_yes nm] at c
      cases c
    · rfl
  | never u n =>
    obtain ⟨i, z, rfl, i0, rfl, nm⟩ := h
    unfold toldX
    refine (if_neg ?_).trans ((if_neg ?_).trans ((if_neg ?_).trans ((if_neg ?_).trans ((if_neg ?_).trans ((if_neg ?_).trans ((if_neg ?_).trans rfl))))))
    · exact fun c => c (.inr rfl)
    · exact fun c => nomatch (show true = false from c)
    · exact fun c => absurd i0 (of_decide_eq_false (show decide (0 ≤ i) = false from c))
    · exact fun c => absurd (show 3 = 2 from c) (by decide)
    · exact fun c => c (.inr rfl)
    · intro c
      have c : nmB z = false := c
      rw [nmB_yes nm] at c
      cases c
    · exact fun c => absurd (V.str.inj (show V.str "never" = V.str "must" from c)) (by decide +kernel)
  | stay u =>
    obtain ⟨i, rfl, i0⟩ := h
    unfold toldX
    refine (if_neg ?_).trans ((if_neg ?_).trans ((if_neg ?_).trans ((if_pos ?_).trans ((if_pos ?_).trans rfl))))
    · exact fun c => c (.inl rfl)
    · exact fun c => nomatch (show true = false from c)
    · exact fun c => absurd i0 (of_decide_eq_false (show decide (0 ≤ i) = false from c))
    · rfl
    · rfl
theorem PinV.Ok.is {p : PinV} (h : p.Ok) : p.Is := (told_tv h.told).2.1
theorem PinV.Ok.tx {p : PinV} (h : p.Ok) : ∀ u n, p = .must u n ∨ p = .never u n → ∃ z, n = .str z := (told_tv h.told).2.2
theorem PinV.Ok.th {K : PySem.W.Frag} {H : Hp} {r : Addr} {p : PinV} (h : p.Ok) (hr : H r = some (.tup p.tv)) : ThV K H (.ref r) (some p.tv) := by
  refine ⟨r, rfl, hr, fun x hx => ?_, ?_⟩
  · have len : ∀ z : Str, x = .str z → z.length ≤ 100 := by
      cases p with
      | must u n =>
        obtain ⟨i, z', rfl, i0, rfl, nm⟩ := h
        intro z e
        simp only [PinV.tv, List.mem_cons, List.not_mem_nil, or_false] at hx
        rcases hx with rfl | rfl | rfl
        · cases e; decide
        · cases e
        · cases e
          have := nm.len.2
          omega
      | never u n =>
        obtain ⟨i, z', rfl, i0, rfl, nm⟩ := h
        intro z e
        simp only [PinV.tv, List.mem_cons, List.not_mem_nil, or_false] at hx
        rcases hx with rfl | rfl | rfl
        · cases e; decide
        · cases e
        · cases e
          have := nm.len.2
          omega
      | stay u =>
        obtain ⟨i, rfl, i0⟩ := h
        intro z e
        simp only [PinV.tv, List.mem_cons, List.not_mem_nil, or_false] at hx
        rcases hx with rfl | rfl
        · cases e; decide
        · cases e
    refine ⟨?_, len⟩
    rcases h.is x hx with ⟨i, rfl⟩ | ⟨z, rfl, _⟩
    · exact ⟨_, .int i⟩
    · exact ⟨_, .str z⟩
  · cases p with
    | must u n => exact (by decide : 3 ≤ 12)
    | never u n => exact (by decide : 3 ≤ 12)
    | stay u => exact (by decide : 2 ≤ 12)
def spIsTold (K : PySem.W.Frag) : Sp := fun vs H Q _ => ∃ (v : V) (o : Option (List V)), vs = [v] ∧ ThV K H v o ∧ ∀ H', Same H H' → Q (.bl (toldOf o).isSome) H'
def spLawAl (K : PySem.W.Frag) : Sp := fun vs H Q _ => ∃ (r a b c : Addr) (p : PinV) (path goal flags : List Str), vs = [.ref r, .ref a, .ref b, .ref c] ∧ H r = some (.tup p.tv) ∧ p.Ok ∧
  SqT K H a (path.map V.str) ∧ SqT K H b (goal.map V.str) ∧ SqL K H c (flags.map V.str) ∧ StrL path ∧ StrL goal ∧ ∀ H', Same H H' → Q (.bl (allowsB p path goal flags)) H'
def spLawPin (C : Nat → Addr) : Sp := fun vs H Q _ => ∃ (r : Addr) (p : PinV), vs = [.ref r] ∧ H r = some (.tup p.tv) ∧ p.Ok ∧ ∀ y H', Same H H' → H y = none → PnAt C H' y p → Q (.ref y) H'
section
variable {P : Program} {w : World} {K : PySem.W.Frag} {mg : Str → Option Value} {base : Heap}
abbrev NLa : List Str := ["_law_told", "_law_here", "_law_there", "_law_known", "_law_one"]
theorem scLa : FnScope NLa ["_law_told", "_law_here", "_law_there", "_law_known"] (defScope s__law_allows) := ⟨rfl, rfl, rfl, by decide +kernel, rfl, by decide +kernel, by decide +kernel⟩
theorem ok_lawAl {f : Addr} {fd : FuncData} (F : Fun K "_law_allows" "_law_allows" s__law_allows f fd) (N : Nm mg) : FnOk P w K mg base CX0 1 f fd ["_law_told", "_law_here", "_law_there", "_law_known"] (spLawAl K) := by
  refine F.ok scLa (fun vs H Q E h => ?_) (fun cdv A outer s H vs Q E hr h => ?_)
  · obtain ⟨r, a, b, c, p, path, goal, flags, rfl, _⟩ := h
    rfl
  · obtain ⟨r, a, b, c, p, path, goal, flags, rfl, hp, ok, ha, hb, hc, lp, lg, k⟩ := h
    have nd := scLa.nd
    have big : 1000 ≤ sizeLine := by decide
    refine ⟨_, pss_cons (ps_if (pt_cmpR op_eq (pe_ix ix_tup (pv 0) pe_int (fun _ _ => rfl)) pe_str (nomark _)) (pss_one (ps_ret (pe_cmpR op_in_seq (pe_ix ix_tup (pv 0) pe_int (fun _ _ => rfl)) (pv 2) rfl))) pss_nil)
      (pss_cons (ps_if (pt_cmpR op_eq (pe_ix ix_tup (pv 0) pe_int (fun _ _ => rfl)) pe_str (nomark _)) (pss_one (ps_ret (pe_cmpR op_notIn_seq (pe_ix ix_tup (pv 0) pe_int (fun _ _ => rfl)) (pv 2) rfl))) pss_nil)
      (pss_one (ps_ret (pe_cmpR (op_eqD hr.units) (pe_callB cr_sortedLT (by rfl) N.srt (by decide +kernel) (pa_cons (pv 2) pa_nil)) (pe_callB cr_sortedLT (by rfl) N.srt (by decide +kernel) (pa_cons (pe_lc (own := [("_law_one", 4)]) (g := gName 4) (tt := tTest (tOp (rIn K false) (tVar 4) (tVar 3))) (te := tVar 4) rfl nd (pi_tup (pv 1))
        (blkOk_by (N := NLa) (sc := defScope s__law_allows) (by decide +kernel)) (fun _ _ _ _ _ => pg_name (i := 4) nd rfl (Or.inl rfl)) (fun _ _ _ _ _ => pts_one (pt_cmpR op_in_seq (pv 4) (pv 3) rfl)) (fun _ _ _ _ _ => pv 4)) pa_nil)) (nomark _))))), ?_⟩
    have hpt : SqT K H r p.tv := .inl (.inl hp)
    have at0 : ∀ {x : V}, p.tv[0]? = some x → atI p.tv 0 = some x := fun h => atI_nat (j := 0) h
    have at2 : ∀ {x : V}, p.tv[2]? = some x → atI p.tv 2 = some x := fun h => atI_nat (j := 2) h
    cases p with
    | must u n =>
      obtain ⟨i, z, rfl, i0, rfl, nm⟩ := ok
      refine ⟨_, rfl, r, _, 0, .str "must", rfl, rfl, hpt, at0 rfl, rfl, _, rfl, iteT ?_⟩
      refine ⟨_, rfl, r, _, 2, .str z, rfl, rfl, hpt, at2 rfl, _, rfl, b, _, rfl, .inr hb, rfl, flat_strs goal, ?_⟩
      show Q (.bl (inV (.str z) (goal.map V.str))) H
      rw [inV_strs]
      exact k H (fun _ _ e => e)
    | never u n =>
      obtain ⟨i, z, rfl, i0, rfl, nm⟩ := ok
      refine ⟨_, rfl, r, _, 0, .str "never", rfl, rfl, hpt, at0 rfl, rfl, _, rfl, ?_⟩
      rw [decide_eq_false (show ¬ V.str "never" = V.str "must" from fun e => absurd (V.str.inj e) (by decide +kernel))]
      refine iteF ?_
      refine ⟨_, rfl, r, _, 0, .str "never", rfl, rfl, hpt, at0 rfl, rfl, _, rfl, iteT ?_⟩
      refine ⟨_, rfl, r, _, 2, .str z, rfl, rfl, hpt, at2 rfl, _, rfl, b, _, rfl, .inr hb, rfl, flat_strs goal, ?_⟩
      show Q (.bl (!inV (.str z) (goal.map V.str))) H
      rw [inV_strs]
      exact k H (fun _ _ e => e)
    | stay u =>
      refine ⟨_, rfl, r, _, 0, .str "stay", rfl, rfl, hpt, at0 rfl, rfl, _, rfl, ?_⟩
      rw [decide_eq_false (show ¬ V.str "stay" = V.str "must" from fun e => absurd (V.str.inj e) (by decide +kernel))]
      refine iteF ?_
      refine ⟨_, rfl, r, _, 0, .str "stay", rfl, rfl, hpt, at0 rfl, rfl, _, rfl, ?_⟩
      rw [decide_eq_false (show ¬ V.str "stay" = V.str "never" from fun e => absurd (V.str.inj e) (by decide +kernel))]
      refine iteF ?_
      have l1 := lp.2
      have l2 := lg.2
      refine ⟨_, rfl, b, _, rfl, .inr hb, by omega, fun zs p2 pz sz n2 => ?_⟩
      have s3 := same_new (o := .lst (zs.map V.str)) n2
      obtain ⟨H1, e1⟩ : ∃ X, X = upd H p2 (.lst (zs.map V.str)) := ⟨_, rfl⟩
      have hz1 : H1 p2 = some (.lst (zs.map V.str)) := by rw [e1, upd_same]
      rw [← e1] at s3 ⊢
      have ha1 := Same.sqt s3 ha
      have hc1 := Same.sql s3 hc
      refine ⟨_, rfl, a, rfl, ⟨_, ha1⟩, fun D nD => lc_it (walk_tup (xs := path.map V.str)) (fun i H' => Same H1 H' ∧ H' D = some (.lst (((path.take i).filter fun z => decide (z ∈ flags)).map V.str))) ⟨same_new nD, by rw [upd_same] <;> rfl⟩ (fun i H' _ q => Same.sqt q.1 ha1) ?_ ?_⟩
      · intro i x Ha Hb hi ⟨q1, q2⟩ ⟨e, hx⟩
        subst e
        obtain ⟨z, hz, rfl⟩ := map_of hx
        refine ⟨rfl, ?_⟩
        refine ⟨_, rfl, _, rfl, c, _, rfl, .inl (Same.sql q1 hc1), rfl, flat_strs flags, _, rfl, ?_⟩
        show if inV (.str z) (flags.map V.str) = true then _ else _
        rw [inV_strs]
        have ll := List.length_filter_le (fun z => decide (z ∈ flags)) (path.take i)
        rw [List.length_take] at ll
        refine ite2 (fun yes => ?_) (fun no => ?_)
        · refine ⟨_, rfl, _, q2, by rw [List.length_map]; omega, Same.put q1 nD, ?_⟩
          rw [upd_same, take_more hz, List.filter_append, List.filter_cons, if_pos yes, List.filter_nil, List.map_append] <;> rfl
        · refine ⟨q1, ?_⟩
          rw [q2, take_more hz, List.filter_append, List.filter_cons, if_neg no, List.filter_nil, List.append_nil]
      · intro H2 ⟨s2, q2⟩
        rw [List.length_map, List.take_length] at q2
        have ll := List.length_filter_le (fun z => decide (z ∈ flags)) path
        refine ⟨D, _, rfl, .inl (SqL.of q2), by omega, fun ys p1 py sy n1 => ?_⟩
        have s4 := same_new (o := .lst (ys.map V.str)) n1
        have oky : ∀ z ∈ ys, PyData.strOk z = true := fun z hz => lp.1 z (List.mem_filter.mp (py.mem_iff.mp hz)).1
        have okz : ∀ z ∈ zs, PyData.strOk z = true := fun z hz => lg.1 z (pz.mem_iff.mp hz)
        refine eq_lists (SqL.of (s4 _ _ (s2 _ _ hz1))) (SqL.of upd_same) (is_strs okz) (is_strs oky) ?_
        rw [sorted_perm pz py sz sy]
        have e : decide (goal.Perm (path.filter fun z => decide (z ∈ flags))) = allowsB (.stay u) path goal flags := by
          rw [Bool.eq_iff_iff, decide_eq_true_iff]
          show _ ↔ decide ((path.filter fun z => decide (z ∈ flags)).Perm goal) = true
          rw [decide_eq_true_iff]
          exact ⟨fun h => h.symm, fun h => h.symm⟩
        rw [e]
        exact k _ ((s3.trans s2).trans s4)
theorem scLp : FnScope ["_law_told"] ["_law_told"] (defScope s__law_pin) := ⟨rfl, rfl, rfl, by decide +kernel, rfl, by decide +kernel, by decide +kernel⟩
theorem ok_lawPin {f fP CP fE : Addr} {C fi : Nat → Addr} {fd fdP : FuncData} {fdi : Nat → FuncData} (F : Fun K "_law_pin" "_law_pin" s__law_pin f fd) (L : PnF K mg CP C fE)
    (GP : FnOk P w K mg base CX0 1 fP fdP ["self", "user"] (spPInit K)) (bP : Binds K fdP ["self", "user"] []) (MS : Mk K (C 2) fP)
    (GM : FnOk P w K mg base CX0 2 (fi 0) (fdi 0) ["self", "user", "name"] (spMInit C 0 "wanted_flag")) (GN : FnOk P w K mg base CX0 2 (fi 1) (fdi 1) ["self", "user", "name"] (spMInit C 1 "barred_flag"))
    (bi : ∀ i, i < 2 → Binds K (fdi i) ["self", "user", "name"] []) (Mi : ∀ i, i < 2 → Mk K (C i) (fi i)) : FnOk P w K mg base CX0 4 f fd ["_law_told"] (spLawPin C) := by
  refine F.ok scLp (fun vs H Q E h => ?_) (fun cdv A outer s H vs Q E hr h => ?_)
  · obtain ⟨r, p, rfl, _⟩ := h
    rfl
  · obtain ⟨r, p, rfl, hp, ok, k⟩ := h
    have hr2 : Room (1 + 1) _ := hr.mono (by decide)
    refine ⟨_, pss_cons (ps_if (pt_cmpR op_eq (pe_ix ix_tup (pv 0) pe_int (fun _ _ => rfl)) pe_str (nomark _)) (pss_one (ps_ret (pe_make MS GP hr2 (by rfl) L.gS bP .nil pass0 (pa_cons (pe_ix ix_tup (pv 0) pe_int (fun _ _ => rfl)) pa_nil)))) pss_nil)
      (pss_one (ps_ret (pe_ifExp (pt_cmpR op_eq (pe_ix ix_tup (pv 0) pe_int (fun _ _ => rfl)) pe_str (nomark _))
        (pe_make (Mi 0 (by decide)) GM hr (by rfl) L.gM (bi 0 (by decide)) .nil pass0 (pa_cons (pe_ix ix_tup (pv 0) pe_int (fun _ _ => rfl)) (pa_cons (pe_ix ix_tup (pv 0) pe_int (fun _ _ => rfl)) pa_nil)))
        (pe_make (Mi 1 (by decide)) GN hr (by rfl) L.gN (bi 1 (by decide)) .nil pass0 (pa_cons (pe_ix ix_tup (pv 0) pe_int (fun _ _ => rfl)) (pa_cons (pe_ix ix_tup (pv 0) pe_int (fun _ _ => rfl)) pa_nil)))))), ?_⟩
    have hpt : SqT K H r p.tv := .inl (.inl hp)
    have at0 : ∀ {x : V}, p.tv[0]? = some x → atI p.tv 0 = some x := fun h => atI_nat (j := 0) h
    have at1 : ∀ {x : V}, p.tv[1]? = some x → atI p.tv 1 = some x := fun h => atI_nat (j := 1) h
    have at2 : ∀ {x : V}, p.tv[2]? = some x → atI p.tv 2 = some x := fun h => atI_nat (j := 2) h
    have s0 : Same H H := fun _ _ e => e
    cases p with
    | stay u =>
      refine ⟨_, rfl, r, _, 0, .str "stay", rfl, rfl, hpt, at0 rfl, rfl, _, rfl, iteT ?_⟩
      refine ⟨_, rfl, r, _, 1, u, rfl, rfl, hpt, at1 rfl, fun x dx nx nd ne => ⟨x, dx, C 2, _, rfl, upd_same, L.cl 2 (by decide), L.who 2 (by decide), rfl, ?_⟩⟩
      exact k x _ (((s0.put nd).put nx).put nx) nx ⟨dx, upd_same⟩
    | must u n =>
      refine ⟨_, rfl, r, _, 0, .str "must", rfl, rfl, hpt, at0 rfl, rfl, _, rfl, ?_⟩
      rw [decide_eq_false (show ¬ V.str "must" = V.str "stay" from fun e => absurd (V.str.inj e) (by decide +kernel))]
      refine iteF ?_
      refine ⟨_, rfl, r, _, 0, .str "must", rfl, rfl, hpt, at0 rfl, rfl, _, rfl, iteT ?_⟩
      refine ⟨_, rfl, r, _, 1, u, rfl, rfl, hpt, at1 rfl, _, rfl, r, _, 2, n, rfl, rfl, hpt, at2 rfl, fun x dx nx nd ne => ⟨x, dx, _, _, rfl, upd_same, rfl, ?_⟩⟩
      exact k x _ ((((s0.put nd).put nx).put nx).put nx) nx ⟨dx, upd_same⟩
    | never u n =>
      refine ⟨_, rfl, r, _, 0, .str "never", rfl, rfl, hpt, at0 rfl, rfl, _, rfl, ?_⟩
      rw [decide_eq_false (show ¬ V.str "never" = V.str "stay" from fun e => absurd (V.str.inj e) (by decide +kernel))]
      refine iteF ?_
      refine ⟨_, rfl, r, _, 0, .str "never", rfl, rfl, hpt, at0 rfl, rfl, _, rfl, ?_⟩
      rw [decide_eq_false (show ¬ V.str "never" = V.str "must" from fun e => absurd (V.str.inj e) (by decide +kernel))]
      refine iteF ?_
      refine ⟨_, rfl, r, _, 1, u, rfl, rfl, hpt, at1 rfl, _, rfl, r, _, 2, n, rfl, rfl, hpt, at2 rfl, fun x dx nx nd ne => ⟨x, dx, _, _, rfl, upd_same, rfl, ?_⟩⟩
      exact k x _ ((((s0.put nd).put nx).put nx).put nx) nx ⟨dx, upd_same⟩
end
end FT


/-! paired lists -/
namespace FT
open PySem L2 TL ClX LiI
end FT


/-! the law's own: _law_is_told, _law_tolds -/
namespace FT
open PySem L2 TL ClX LiI
/-- told things in a row -/
abbrev TdR (H : Hp) (rs : List Addr) (ps : List PinV) : Prop := Paired (fun (r : Addr) (p : PinV) => H r = some (.tup p.tv)) rs ps
theorem TdR.mono {H H' : Hp} (s : ∀ b u, H b = some (.tup u) → H' b = some (.tup u)) : ∀ {rs : List Addr} {ps : List PinV}, TdR H rs ps → TdR H' rs ps
  | _, _, .nil => .nil
  | _, _, .cons h t => .cons (s _ _ h) (TdR.mono s t)
theorem TdR.snoc {H : Hp} {r : Addr} {p : PinV} (h : H r = some (.tup p.tv)) : ∀ {rs : List Addr} {ps : List PinV}, TdR H rs ps → TdR H (rs ++ [r]) (ps ++ [p])
  | _, _, .nil => .cons h .nil
  | _, _, .cons h' t => .cons h' (TdR.snoc h t)
theorem TdR.len {H : Hp} : ∀ {rs : List Addr} {ps : List PinV}, TdR H rs ps → rs.length = ps.length
  | _, _, .nil => rfl
  | _, _, .cons _ t => congrArg (· + 1) (TdR.len t)
theorem DrawD.tup {H : Hp} {d l i : Addr} {b : Int} (x : DrawD H d l i b) {r : Addr} {u : List V} (h : H r = some (.tup u)) : r ≠ d ∧ r ≠ l ∧ r ≠ i := by
  obtain ⟨rs, tn, lg, sm, a1, a2, a3, _⟩ := x
  exact ⟨ne_of h a1 (by intro z; cases z), ne_of h a2 (by intro z; cases z), ne_of h a3 (by intro z; cases z)⟩
def noneL (bz : Bool) : List Str := if bz = true then [("none" : Str)] else []
def spTolds : Sp := fun vs H Q _ => ∃ (d l i a : Addr) (b total most : Int) (ns : List Str), vs = [.ref d, .ref a, .int total, .int most] ∧ DrawD H d l i b ∧ b + 1000 ≤ 10 ^ 12 ∧ H a = some (.lst (ns.map V.str)) ∧ a ≠ d ∧ a ≠ l ∧ 1 ≤ ns.length ∧ ns.length ≤ 20 ∧ (∀ z ∈ ns, NameL z) ∧ 1 ≤ total ∧ total ≤ 1000 ∧ 0 ≤ most ∧ most ≤ 10 ∧
  ∀ (R : Addr) (rs : List Addr) (ps : List PinV) (H' : Hp), H R = none → H' R = some (.lst (rs.map V.ref)) → TdR H' rs ps → (∀ p ∈ ps, p.Ok) → ps.length ≤ 10 → DrawD H' d l i (b + 100) → KeepX [d, l] H H' → Q (.ref R) H'
section
variable {P : Program} {w : World} {K : PySem.W.Frag} {mg : Str → Option Value} {base : Heap}
abbrev NTo : List Str := ["_law_draw", "_law_names_here", "_law_total", "_law_most", "_law_found", "_law_turn", "_law_word", "_law_who", "_law_one"]
theorem scTo : FnScope NTo ["_law_draw", "_law_names_here", "_law_total", "_law_most"] (defScope s__law_tolds) := ⟨rfl, rfl, rfl, by decide +kernel, rfl, by decide +kernel, by decide +kernel⟩
theorem ok_tolds {f fT fP : Addr} {fd fdT fdP : FuncData} (F : Fun K "_law_tolds" "_law_tolds" s__law_tolds f fd) (T : Nm mg) (DT : Dn P w K mg base CX0 2 "_law_take" ["_law_draw", "_law_size"] spTakeD fT fdT) (DP : Dn P w K mg base CX0 3 "_law_pick" ["_law_draw", "_law_some"] spPickD fP fdP) :
    FnOk P w K mg base CX0 4 f fd ["_law_draw", "_law_names_here", "_law_total", "_law_most"] spTolds := by
  refine F.ok scTo (fun vs H Q E h => ?_) (fun cdv A outer s H vs Q E hr h => ?_)
  · obtain ⟨d, l, i, a, b, total, most, ns, rfl, _⟩ := h
    rfl
  · obtain ⟨d, l, i, a, b, total, most, ns, rfl, hD, bb, ha, ad, al, l1, l20, nm, t1, t2, m0, m10, k⟩ := h
    have hr2 : Room 2 _ := hr.mono (by decide)
    have nd := scTo.nd
    have big : 1000 ≤ sizeLine := by decide
    refine ⟨_, pss_cons (ps_set (i := 4) nd rfl (.inl rfl) (pe_lst pa_nil))
      (pss_cons (ps_for PassesOwn.never rfl (pi_range1 rfl T.rng (pa_cons (pe_call DT.ok hr2 rfl DT.mgn DT.kp DT.bn .nil pass0 (pa_cons (pv 0) (pa_cons (pe_op op_add (pv 3) pe_int) pa_nil))) pa_nil)) (pg_name (i := 5) nd rfl (.inl rfl))
        (pss_cons (ps_par (i := 6) (j := 7) rfl nd rfl rfl (by decide) rfl rfl (pa_cons (pe_call DP.ok hr rfl DP.mgn DP.kp DP.bn .nil pass0 (pa_cons (pv 0) (pa_cons (pe_lst (pa_cons pe_str (pa_cons pe_str (pa_cons pe_str (pa_cons pe_str pa_nil))))) pa_nil))) (pa_cons (pe_call DT.ok hr2 rfl DT.mgn DT.kp DT.bn .nil pass0 (pa_cons (pv 0) (pa_cons (pv 2) pa_nil))) pa_nil)) (by rfl))
        (pss_cons (ps_set (i := 8) nd rfl (.inl rfl) (pe_call DP.ok hr rfl DP.mgn DP.kp DP.bn .nil pass0 (pa_cons (pv 0) (pa_cons (pe_op op_cat (pv 1) (pe_op op_rep (pe_lst (pa_cons pe_str pa_nil)) (pe_callTy call_int1 (by rfl) T.int (by decide +kernel) (pa_cons (pe_cmpR op_eq (pe_call DT.ok hr2 rfl DT.mgn DT.kp DT.bn .nil pass0 (pa_cons (pv 0) (pa_cons pe_int pa_nil))) pe_int (nomark _)) pa_nil)))) pa_nil))))
        (pss_one (ps_expr (pe_bm PySem.F.plainAttrs_list PySem.F.slot_list_append PySem.F.type_list_append mt_append (pv 4) (pa_cons (pe_ifExp (pt_cmpR op_eq (pv 6) pe_str (nomark _)) (pe_tup (pa_cons (pv 6) (pa_cons (pv 7) pa_nil))) (pe_tup (pa_cons (pv 6) (pa_cons (pv 7) (pa_cons (pv 8) pa_nil))))) pa_nil)))))))
      (pss_one (ps_ret (pv 4)))), ?_⟩
    refine ⟨by show 0 ≤ sizeLine; omega, fun R nR => ?_⟩
    have s1 := same_new (o := .lst []) nR
    obtain ⟨Rd, Rl, Ri⟩ := hD.apart nR
    have na : ∀ t : Int, 0 ≤ t → t ≤ 1001 → t.natAbs < 2 ^ 200 := fun t h1 h2 => Nat.lt_of_le_of_lt (show t.natAbs ≤ 1001 by omega) (by decide)
    refine ⟨_, rfl, _, rfl, _, _, rfl, rfl, d, l, i, b, most + 1, rfl, hD.mono s1, by omega, by omega, na _ (by omega) (by omega), fun m H2 m0' m1' D2 k2 => ⟨_, rfl, by omega, by omega, ?_⟩⟩
    have hR2 : H2 R = some (.lst []) := k2 R _ (by simp [Rd, Rl]) upd_same
    refine for_it (walk_range (lo := 0) (n := m.toNat)) (fun j σ' H' => (∃ u5 u6 u7 u8, σ' = [some (.ref d), some (.ref a), some (.int total), some (.int most), some (.ref R), u5, u6, u7, u8]) ∧ DrawD H' d l i (b + 1 + 5 * (j : Int)) ∧ KeepX [d, l] H H' ∧
      ∃ (rs : List Addr) (ps : List PinV), H' R = some (.lst (rs.map V.ref)) ∧ TdR H' rs ps ∧ (∀ p ∈ ps, p.Ok) ∧ ps.length = j) ⟨⟨_, _, _, _, rfl⟩, D2.more (by omega), (KeepX.of_same s1).trans k2, [], [], hR2, .nil, (fun p h => by cases h), rfl⟩ (fun _ _ _ _ _ => trivial) ?_ ?_
    · intro j x σ' Ha Hb hj ⟨⟨u5, u6, u7, u8, e⟩, da, ka, rs, ps, hR, td, ok, lj⟩ ⟨e1, e2⟩
      subst e
      subst e1
      subst e2
      refine ⟨_, rfl, by show 4 ≤ sizeLine; omega, fun q nq => ?_⟩
      obtain ⟨qd, ql, qi⟩ := da.apart nq
      have sq := same_new (o := .lst [V.str "must", V.str "never", V.str "never", V.str "stay"]) nq
      refine ⟨d, l, i, _, .ref q, 4, (fun _ x => ∃ z : Str, x = .str z ∧ (z = "must" ∨ z = "never" ∨ z = "stay")), rfl, da.mono sq, by omega, .inl ⟨q, _, rfl, ql, upd_same, rfl, items_strsD (ws := ["must", "never", "never", "stay"]) (by decide +kernel)⟩, by decide, by decide, fun j' x H3 px D3 k3 => ?_⟩
      obtain ⟨wd, rfl, hw⟩ := px
      refine ⟨_, rfl, _, rfl, d, l, i, _, total, rfl, D3, by omega, by omega, na _ (by omega) (by omega), fun who H4 w0 w1 D4 k4 => ⟨_, _, rfl, ?_⟩⟩
      have K4 : KeepX [d, l] Hb H4 := ((KeepX.of_same sq).trans k3).trans k4
      have ha4 : H4 a = some (.lst (ns.map V.str)) := K4 a _ (by simp [ad, al]) (ka a _ (by simp [ad, al]) ha)
      have hR4 : H4 R = some (.lst (rs.map V.ref)) := K4 R _ (by simp [Rd, Rl]) hR
      have td4 : TdR H4 rs ps := td.mono fun b u e => K4 b _ (by have := da.tup e; simp [this.1, this.2.1]) e
      refine ⟨_, rfl, _, rfl, by show 1 ≤ sizeLine; omega, fun q1 n1 => ?_⟩
      have s5 := same_new (o := .lst [V.str "none"]) n1
      obtain ⟨q1d, q1l, q1i⟩ := D4.apart n1
      refine ⟨_, rfl, d, l, i, _, 8, rfl, D4.mono s5, by omega, by decide, by decide, fun k8 H5 k80 k81 D5 k5 => ⟨rfl, .inr ⟨_, rfl, ?_⟩⟩⟩
      have K5 : KeepX [d, l] H4 H5 := (KeepX.of_same s5).trans k5
      have hq1 : H5 q1 = some (.lst [V.str "none"]) := k5 q1 _ (by simp [q1d, q1l]) upd_same
      obtain ⟨bz, ebz⟩ : ∃ bz : Bool, bz = decide (V.int k8 = V.int 0) := ⟨_, rfl⟩
      rw [← ebz]
      have ext : ∀ bz : Bool, (List.replicate (if bz = true then (1 : Int) else 0).toNat [V.str "none"]).flatten = (noneL bz).map V.str := fun bz => by cases bz <;> rfl
      refine ⟨q1, _, _, rfl, rfl, hq1, by cases bz <;> decide, by cases bz <;> decide, by cases bz <;> (show _ ≤ sizeLine; decide), fun q2 n2 => ?_⟩
      rw [ext]
      have s6 := same_new (o := .lst ((noneL bz).map V.str)) n2
      have ha5 := K5 a _ (by simp [ad, al]) ha4
      have lx : (noneL bz).length ≤ 1 := by cases bz <;> decide
      refine ⟨a, q2, _, _, rfl, rfl, s6 _ _ ha5, upd_same, by rw [List.length_map, List.length_map]; omega, fun q3 n3 => ?_⟩
      rw [← List.map_append]
      have s7 := same_new (o := .lst ((ns ++ (noneL bz)).map V.str)) n3
      have D7 := D5.mono (s6.trans s7)
      obtain ⟨q3d, q3l, q3i⟩ := (D5.mono s6).apart n3
      refine ⟨d, l, i, _, .ref q3, (ns ++ (noneL bz)).length, (fun _ x => ∃ z : Str, x = .str z ∧ NameL z), rfl, D7, by omega, .inl ⟨q3, _, rfl, q3l, upd_same, by rw [List.length_map], items_strsD fun z hz => ?_⟩, by rw [List.length_append]; omega, by rw [List.length_append]; omega, fun j2 x H8 px D8 k8' => ?_⟩
      · rcases List.mem_append.mp hz with h | h
        · exact nm z h
        · cases bz with
          | true =>
            have h : z ∈ (["none"] : List Str) := h
            rw [List.mem_singleton.mp h]
            decide +kernel
          | false => cases h
      obtain ⟨one, rfl, on⟩ := px
      have K8 : KeepX [d, l] H4 H8 := ((K5.trans (.of_same s6)).trans (.of_same s7)).trans k8'
      have hR8 := K8 R _ (by simp [Rd, Rl]) hR4
      have td8 : TdR H8 rs ps := td4.mono fun b u e => K8 b _ (by have := D4.tup e; simp [this.1, this.2.1]) e
      have KH8 : KeepX [d, l] H H8 := (ka.trans K4).trans K8
      have lr := td.len
      refine ⟨_, rfl, .inl ⟨rfl, _, SqL.of hR8⟩, ?_⟩
      -- behind the new told thing
      have fin : ∀ (p : PinV) (t : Addr), p.Ok → H8 t = none → DrawD (upd (upd H8 t (.tup p.tv)) R (.lst (rs.map V.ref ++ [.ref t]))) d l i (b + 1 + 5 * (((j + 1 : Nat)) : Int)) ∧ KeepX [d, l] H (upd (upd H8 t (.tup p.tv)) R (.lst (rs.map V.ref ++ [.ref t]))) ∧
          ∃ (rs' : List Addr) (ps' : List PinV), (upd (upd H8 t (.tup p.tv)) R (.lst (rs.map V.ref ++ [.ref t]))) R = some (.lst (rs'.map V.ref)) ∧ TdR (upd (upd H8 t (.tup p.tv)) R (.lst (rs.map V.ref ++ [.ref t]))) rs' ps' ∧ (∀ p ∈ ps', p.Ok) ∧ ps'.length = j + 1 := by
        intro p t pok nt
        have st := same_new (o := .tup p.tv) nt
        have tR : t ≠ R := (ne_of_none hR8 nt).symm
        refine ⟨((((D8.mono st).off Rd Rl Ri)).more (by push_cast; omega)), kx_put (KH8.trans (.of_same st)) nR, rs ++ [t], ps ++ [p], by rw [upd_same, List.map_append] <;> rfl, ?_, fun p' hp' => ?_, by rw [List.length_append, lj] <;> rfl⟩
        · refine TdR.snoc (by rw [upd_ne tR, upd_same]) (td8.mono fun b u e => ?_)
          rw [upd_ne (ne_of e hR8 (by intro z; cases z))]
          exact st _ _ e
        · rcases List.mem_append.mp hp' with h | h
          · exact ok p' h
          · rw [List.mem_singleton.mp h]
            exact pok
      have put : ∀ (p : PinV) (t : Addr), H8 t = none → (upd H8 t (.tup p.tv)) R = some (.lst (rs.map V.ref)) := fun p t nt => same_new nt _ _ hR8
      refine ⟨_, rfl, rfl, _, rfl, ?_⟩
      rcases hw with rfl | rfl | rfl
      · rw [decide_eq_false (show ¬ V.str "must" = V.str "stay" from fun e => absurd (V.str.inj e) (by decide +kernel))]
        refine iteF ⟨_, rfl, _, rfl, _, rfl, by show 3 ≤ sizeLine; omega, fun t nt => ⟨R, _, _, rfl, rfl, put (.must (.int who) (.str one)) t nt, by rw [List.length_map]; omega, ⟨_, _, _, _, rfl⟩, fin (.must (.int who) (.str one)) t ⟨who, one, rfl, w0, rfl, on⟩ nt⟩⟩
      · rw [decide_eq_false (show ¬ V.str "never" = V.str "stay" from fun e => absurd (V.str.inj e) (by decide +kernel))]
        refine iteF ⟨_, rfl, _, rfl, _, rfl, by show 3 ≤ sizeLine; omega, fun t nt => ⟨R, _, _, rfl, rfl, put (.never (.int who) (.str one)) t nt, by rw [List.length_map]; omega, ⟨_, _, _, _, rfl⟩, fin (.never (.int who) (.str one)) t ⟨who, one, rfl, w0, rfl, on⟩ nt⟩⟩
      · refine iteT ⟨_, rfl, _, rfl, by show 2 ≤ sizeLine; omega, fun t nt => ⟨R, _, _, rfl, rfl, put (.stay (.int who)) t nt, by rw [List.length_map]; omega, ⟨_, _, _, _, rfl⟩, fin (.stay (.int who)) t ⟨who, rfl, w0⟩ nt⟩⟩
    · intro σ' H' ⟨⟨u5, u6, u7, u8, e⟩, da, ka, rs, ps, hR, td, ok, lj⟩
      subst e
      exact ⟨_, rfl, k R rs ps H' nR hR td ok (by omega) (da.more (by omega)) ka⟩
end
end FT


/-! the law's own: _law_is_told -/
namespace FT
open PySem L2 TL ClX LiI
def oddD (l : List Nat) : List Nat := l.filter fun c => !decide (c ∈ letters.cps.toList)
theorem oddD_none {l : List Nat} (h : oddD l = []) : ∀ c ∈ l, 97 ≤ c ∧ c ≤ 122 := fun c hc => by
  have h2 := List.filter_eq_nil_iff.mp h c hc
  simp only [Bool.not_eq_true', decide_eq_false_iff_not] at h2
  exact of_letters (Decidable.not_not.mp h2)
theorem oddD_some {l : List Nat} (h : oddD l ≠ []) : ¬ ∀ c ∈ l, 97 ≤ c ∧ c ≤ 122 := fun a => h (by
  refine List.filter_eq_nil_iff.mpr fun c hc => ?_
  have := a c hc
  rw [decide_eq_true (in_letters this.1 this.2)]
  exact Bool.false_ne_true)
theorem oddD_step {l : List Nat} {i : Nat} {c : Nat} (h : l[i]? = some c) : oddD (l.take (i + 1)) = oddD (l.take i) ++ (if c ∈ letters.cps.toList then [] else [c]) := by
  rw [take_more h]
  unfold oddD
  rw [List.filter_append]
  by_cases e : c ∈ letters.cps.toList
  · rw [if_pos e, List.filter_cons, decide_eq_true e, List.filter_nil] <;> rfl
  · rw [if_neg e, List.filter_cons, decide_eq_false e, List.filter_nil] <;> rfl
section
variable {P : Program} {w : World} {K : PySem.W.Frag} {mg : Str → Option Value} {base : Heap}
abbrev NIt : List Str := ["_law_thing", "_law_sign"]
theorem scIt : FnScope NIt ["_law_thing"] (defScope s__law_is_told) := ⟨rfl, rfl, rfl, by decide +kernel, rfl, by decide +kernel, by decide +kernel⟩
theorem ok_isTold {f : Addr} {fd : FuncData} (F : Fun K "_law_is_told" "_law_is_told" s__law_is_told f fd) (T : Nm mg) : FnOk P w K mg base CX0 1 f fd ["_law_thing"] (spIsTold K) := by
  refine F.ok scIt (fun vs H Q E h => ?_) (fun cdv A outer s H vs Q E hr h => ?_)
  · obtain ⟨v, o, rfl, _⟩ := h
    rfl
  · obtain ⟨v, o, rfl, th, k⟩ := h
    have nd := scIt.nd
    have big : 20000 ≤ sizeLine := by decide
    refine ⟨_, pss_cons (ps_if (PW.pt (pw_or (pt_not (pt_val (pe_callB call_isi (by rfl) T.isi (by decide +kernel) (pa_cons (pv 0) (pa_cons (pe_bltn (v := .ty "tuple") (u := .type "tuple") (by rfl) T.tup (by decide +kernel) rfl) pa_nil)))))
          (pw_or (pt_cmpR op_notIn_seq (pe_callB call_len (by rfl) T.len PySem.boot_len (pa_cons (pv 0) pa_nil)) (pe_tup (pa_cons pe_int (pa_cons pe_int pa_nil))) rfl)
          (pw_or1 (pt_not (pt_val (pe_callB call_isi (by rfl) T.isi (by decide +kernel) (pa_cons (pe_ix ix_tup (pv 0) pe_int (fun _ _ => rfl)) (pa_cons (pe_bltn (v := .ty "str") (u := .type "str") (by rfl) T.str (by decide +kernel) rfl) pa_nil)))))))))
        (pss_one (ps_ret pe_bl)) pss_nil)
      (pss_cons (ps_if (PW.pt (pw_or (pt_not (pt_val (pe_callB call_isi (by rfl) T.isi (by decide +kernel) (pa_cons (pe_ix ix_tup (pv 0) pe_int (fun _ _ => rfl)) (pa_cons (pe_bltn (v := .ty "int") (u := .type "int") (by rfl) T.int (by decide +kernel) rfl) pa_nil)))))
          (pw_or (pt_val (pe_callB call_isi (by rfl) T.isi (by decide +kernel) (pa_cons (pe_ix ix_tup (pv 0) pe_int (fun _ _ => rfl)) (pa_cons (pe_bltn (v := .ty "bool") (u := .type "bool") (by rfl) T.bool (by decide +kernel) rfl) pa_nil))))
          (pw_or1 (pt_cmpR op_lt (pe_ix ix_tup (pv 0) pe_int (fun _ _ => rfl)) pe_int (nomark _)))))) (pss_one (ps_ret pe_bl)) pss_nil)
      (pss_cons (ps_if (pt_cmpR op_eq (pe_callB call_len (by rfl) T.len PySem.boot_len (pa_cons (pv 0) pa_nil)) pe_int (nomark _)) (pss_one (ps_ret (pe_cmpR op_eq (pe_ix ix_tup (pv 0) pe_int (fun _ _ => rfl)) pe_str (nomark _)))) pss_nil)
      (pss_cons (ps_if (PW.pt (pw_or (pt_cmpR op_notIn_seq (pe_ix ix_tup (pv 0) pe_int (fun _ _ => rfl)) (pe_tup (pa_cons pe_str (pa_cons pe_str pa_nil))) rfl)
          (pw_or (pt_not (pt_val (pe_callB call_isi (by rfl) T.isi (by decide +kernel) (pa_cons (pe_ix ix_tup (pv 0) pe_int (fun _ _ => rfl)) (pa_cons (pe_bltn (v := .ty "str") (u := .type "str") (by rfl) T.str (by decide +kernel) rfl) pa_nil)))))
          (pw_or1 (pt_not (pt_chain op_le op_le pe_int (pe_callB call_len_str (by rfl) T.len PySem.boot_len (pa_cons (pe_ix ix_tup (pv 0) pe_int (fun _ _ => rfl)) pa_nil)) pe_int)))))) (pss_one (ps_ret pe_bl)) pss_nil)
      (pss_one (ps_ret (pe_and (pe_cmpR op_ne (pe_ix ix_tup (pv 0) pe_int (fun _ _ => rfl)) pe_str (nomark _))
        (pe_one (pe_cmpR (op_eqNil hr.units) (pe_lc (own := [("_law_sign", 1)]) (g := gName 1) (tt := tTest (tOp (fun x y H Q => ∃ (c : Nat) (z : Str), x = .str ⟨#[c]⟩ ∧ y = .str z ∧ Q (.bl (!decide (c ∈ z.cps.toList))) H) (tVar 1) (tC (.str letters)))) (te := tVar 1) rfl nd (pi_str (pe_ix ix_tup (pv 0) pe_int (fun _ _ => rfl)))
        (blkOk_by (N := NIt) (sc := defScope s__law_is_told) (by decide +kernel)) (fun _ _ _ _ _ => pg_name (i := 1) nd rfl (Or.inl rfl)) (fun _ _ _ _ _ => pts_one (pt_cmpR op_notIn_sign (pv 1) pe_str rfl)) (fun _ _ _ _ _ => pv 1)) (pe_lst pa_nil) (nomark _))))))))), ?_⟩
    cases o with
    | none =>
      obtain ⟨T', d, nT⟩ := th
      refine ⟨_, rfl, v, _, _, _, _, rfl, .ty _, d.ty, d.tup_, _, rfl, ?_⟩
      rw [decide_eq_false nT]
      exact iteT (iteT (k H fun _ _ e => e))
    | some xs =>
      obtain ⟨a, rfl, ha, it, l12⟩ := th
      refine ⟨_, rfl, .ref a, _, _, _, true, rfl, .ty _, .base (.tup ha), kit_ty (by decide +kernel), true, rfl, iteF ?_⟩
      refine ⟨_, rfl, _, xs.length, rfl, .inr ⟨xs, .inl (.inl ha), rfl⟩, by show 2 ≤ sizeLine; omega, fun q nq => ⟨q, _, rfl, .inr (.inl (.inl upd_same)), rfl, rfl, _, rfl, ?_⟩⟩
      have s1 := same_new (o := .tup [V.int 2, V.int 3]) nq
      obtain ⟨H1, e1⟩ : ∃ X, X = upd H q (.tup [V.int 2, V.int 3]) := ⟨_, rfl⟩
      rw [← e1] at s1 ⊢
      have h1 : SqT K H1 a xs := .inl (.inl (s1 _ _ ha))
      show if (!inV (.int (xs.length : Int)) [V.int 2, V.int 3]) = true then _ else _
      rw [inV23]
      have kk : toldOf (some xs) = toldX xs := rfl
      rw [kk] at k
      unfold toldX at k
      by_cases c1 : xs.length = 2 ∨ xs.length = 3
      case neg =>
        rw [if_pos c1] at k
        rw [decide_eq_false c1]
        exact iteT (iteT (k _ s1))
      rw [if_neg (fun n => n c1)] at k
      rw [decide_eq_true c1]
      refine iteF ?_
      have a0 := atI_nat (getD_at (xs := xs) (i := 0) (by omega))
      have a1 := atI_nat (getD_at (xs := xs) (i := 1) (by omega))
      obtain ⟨⟨T0, d0⟩, z0⟩ := (it _ (getD_in (xs := xs) (i := 0) (by omega))).mono s1
      obtain ⟨T1, d1⟩ := ((it _ (getD_in (xs := xs) (i := 1) (by omega))).mono s1).1
      refine ⟨_, rfl, a, xs, 0, _, rfl, rfl, h1, a0, _, _, _, _, _, rfl, .ty _, d0.ty, d0.strV, _, rfl, ?_⟩
      by_cases c2 : isStrV (xs.getD 0 .non) = false
      · rw [if_pos c2] at k
        rw [c2]
        exact iteT (k _ s1)
      rw [if_neg c2] at k
      rw [nfB c2]
      refine iteF ?_
      -- the user
      refine ⟨_, rfl, a, xs, 1, _, rfl, rfl, h1, a1, _, _, _, _, _, rfl, .ty _, d1.ty, d1.int_, _, rfl, ?_⟩
      by_cases c3 : isGe (xs.getD 1 .non) 0 = false
      · rw [if_pos c3] at k
        have out := k _ s1
        cases hi : isIntV (xs.getD 1 .non) with
        | false => exact iteT (iteT out)
        | true =>
          refine iteF ?_
          refine ⟨_, rfl, a, xs, 1, _, rfl, rfl, h1, a1, _, _, _, _, _, rfl, .ty _, d1.ty, d1.bool_, _, rfl, ?_⟩
          cases hb : isBlV (xs.getD 1 .non) with
          | true => exact iteT (iteT out)
          | false =>
            obtain ⟨i, ei⟩ : ∃ i, xs.getD 1 .non = .int i := by
              cases hv : xs.getD 1 V.non with
              | int i => exact ⟨i, rfl⟩
              | bl b => rw [hv] at hb; cases hb
              | _ => rw [hv] at hi; cases hi
            rw [ei] at a1 c3
            have neg : i < 0 := by
              have c3 : decide (0 ≤ i) = false := c3
              have := of_decide_eq_false c3
              omega
            refine iteF ⟨_, rfl, a, xs, 1, _, rfl, rfl, h1, a1, _, _, rfl, rfl, _, rfl, ?_⟩
            rw [decide_eq_true neg]
            exact iteT out
      rw [if_neg c3] at k
      obtain ⟨i, ei, i0⟩ := isGe_int (nfB c3)
      rw [ei] at a1 ⊢
      refine iteF ⟨_, rfl, a, xs, 1, _, rfl, rfl, h1, a1, _, _, _, _, _, rfl, .ty _, .base (.int i), kit_ty (r := false) (by decide +kernel), _, rfl, ?_⟩
      refine iteF ⟨_, rfl, a, xs, 1, _, rfl, rfl, h1, a1, _, _, rfl, rfl, _, rfl, ?_⟩
      rw [decide_eq_false (show ¬ i < 0 by omega)]
      refine iteF ?_
      obtain ⟨w0, ew⟩ := isStr_str (nfB c2)
      rw [ew] at a0 k
      refine ⟨_, rfl, _, xs.length, rfl, .inr ⟨xs, h1, rfl⟩, rfl, _, rfl, ?_⟩
      by_cases c4 : xs.length = 2
      · rw [if_pos c4] at k
        rw [decide_eq_true (show V.int (xs.length : Int) = V.int 2 by rw [c4] <;> rfl)]
        refine iteT ⟨_, rfl, a, xs, 0, _, rfl, rfl, h1, a0, rfl, ?_⟩
        have out := k _ s1
        by_cases c5 : w0 = "stay"
        · subst c5
          rw [if_pos rfl] at out
          exact out
        · rw [if_neg (fun e => c5 (V.str.inj e))] at out
          show Q (.bl (decide (V.str w0 = V.str "stay"))) H1
          rw [decide_eq_false (show ¬ V.str w0 = V.str "stay" from fun e => c5 (V.str.inj e))]
          exact out
      rw [if_neg c4] at k
      have l3 : xs.length = 3 := c1.resolve_left c4
      rw [decide_eq_false (show ¬ V.int (xs.length : Int) = V.int 2 from fun e => c4 (by have := V.int.inj e; omega))]
      refine iteF ?_
      have a2 := atI_nat (getD_at (xs := xs) (i := 2) (by omega))
      obtain ⟨⟨T2, d2⟩, lz2⟩ := it _ (getD_in (xs := xs) (i := 2) (by omega))
      refine ⟨_, rfl, a, xs, 0, _, rfl, rfl, h1, a0, by show 2 ≤ sizeLine; omega, fun q2 nq2 => ⟨q2, _, rfl, .inr (.inl (.inl upd_same)), rfl, rfl, _, rfl, ?_⟩⟩
      have s2 := s1.trans (same_new (o := .tup [V.str "must", V.str "never"]) nq2)
      obtain ⟨H2, e2⟩ : ∃ X, X = upd H1 q2 (.tup [V.str "must", V.str "never"]) := ⟨_, rfl⟩
      rw [← e2] at s2 ⊢
      have h2 : SqT K H2 a xs := .inl (.inl (s2 _ _ ha))
      show if (!inV (.str w0) ((["must", "never"] : List Str).map V.str)) = true then _ else _
      rw [inV_strs]
      by_cases c6 : w0 = "must" ∨ w0 = "never"
      case neg =>
        rw [if_pos (fun n => c6 (n.imp V.str.inj V.str.inj))] at k
        rw [decide_eq_false (by simpa using c6)]
        exact iteT (iteT (k _ s2))
      rw [if_neg (fun n => n (c6.imp (congrArg V.str) (congrArg V.str)))] at k
      rw [decide_eq_true (by simpa using c6)]
      refine iteF ?_
      have d2 := d2.mono s2
      refine ⟨_, rfl, a, xs, 2, _, rfl, rfl, h2, a2, _, _, _, _, _, rfl, .ty _, d2.ty, d2.strV, _, rfl, ?_⟩
      cases hs : isStrV (xs.getD 2 .non) with
      | false =>
        have e : nmV (xs.getD 2 .non) = false := by
          cases hv : xs.getD 2 V.non with
          | str z => rw [hv] at hs; cases hs
          | _ => rfl
        rw [if_pos e] at k
        exact iteT (iteT (k _ s2))
      | true =>
        obtain ⟨z, ez⟩ := isStr_str hs
        have lz := lz2 z ez
        rw [ez] at a2 k
        refine iteF ?_
        have k0 : ∀ H', Same H H' → nmB z = false → Q (.bl false) H' := fun H' s e => by
          rw [if_pos (show nmV (.str z) = false from e)] at k
          exact k H' s
        have k1 : ∀ H', Same H H' → nmB z = true → Q (.bl true) H' := fun H' s e => by
          rw [if_neg (show ¬ nmV (.str z) = false from fun c => by have c : nmB z = false := c; rw [e] at c; cases c)] at k
          have q := k H' s
          by_cases c8 : V.str w0 = V.str "must"
          · rw [if_pos c8] at q
            exact q
          · rw [if_neg c8] at q
            exact q
        have kb : ∀ H', Same H H' → Q (.bl (nmB z)) H' := fun H' s => by
          cases e : nmB z with
          | false => exact k0 H' s e
          | true => exact k1 H' s e
        refine ⟨_, rfl, a, xs, 2, _, rfl, rfl, h2, a2, z, rfl, by omega, _, _, rfl, rfl, _, rfl, ?_⟩
        by_cases l1 : 1 ≤ z.length
        case neg =>
          rw [if_neg (show ¬ decide ((1 : Int) ≤ (z.length : Int)) = true by rw [decide_eq_true_eq]; omega)]
          refine ⟨_, rfl, ?_⟩
          refine iteT ?_
          exact k0 _ s2 (nmB_no fun nm => l1 nm.len.1)
        rw [if_pos (decide_eq_true (by omega))]
        refine ⟨_, _, rfl, rfl, _, rfl, ?_⟩
        by_cases l2 : z.length ≤ 8
        case neg =>
          rw [decide_eq_false (show ¬ (z.length : Int) ≤ 8 by omega)]
          refine iteT ?_
          exact k0 _ s2 (nmB_no fun nm => l2 nm.len.2)
        rw [decide_eq_true (show (z.length : Int) ≤ 8 by omega)]
        refine iteF ?_
        refine ⟨_, rfl, a, xs, 2, _, rfl, rfl, h2, a2, rfl, _, rfl, ?_⟩
        by_cases es : z = "self"
        case pos =>
          subst es
          refine iteF ?_
          exact k0 _ s2 (nmB_no fun nm => nm.self rfl)
        rw [decide_eq_false (show ¬ V.str z = V.str "self" from fun e => es (V.str.inj e))]
        refine iteT ?_
        refine ⟨_, rfl, a, xs, 2, _, rfl, rfl, h2, a2, z, rfl, fun D nD => lc_it walk_str (fun i H' => Same H2 H' ∧ H' D = some (.lst ((oddD ((tl z).take i)).map fun c => V.str ⟨#[c]⟩))) ⟨same_new nD, upd_same⟩ (fun _ _ _ _ => trivial) ?_ ?_⟩
        · intro i x Hd He hi ⟨q1, q2⟩ ⟨e, ch, hc, ex⟩
          subst e
          subst ex
          have hc' : (tl z)[i]? = some ch := by
            show z.cps.toList[i]? = some ch
            rw [Array.getElem?_toList]
            exact hc
          refine ⟨rfl, ?_⟩
          refine ⟨_, rfl, ch, letters, rfl, rfl, _, rfl, ?_⟩
          rw [oddD_step hc']
          by_cases m : ch ∈ letters.cps.toList
          · rw [if_pos m, decide_eq_true m, List.append_nil]
            exact iteF ⟨q1, q2⟩
          · rw [if_neg m, decide_eq_false m]
            show if true = true then _ else _
            rw [if_pos rfl]
            refine ⟨_, rfl, _, q2, ?_, Same.put q1 nD, ?_⟩
            · rw [List.length_map]
              have h1 : (oddD ((tl z).take i)).length ≤ ((tl z).take i).length := List.length_filter_le _ _
              rw [List.length_take, ← len_tl] at h1
              omega
            · rw [upd_same, List.map_append] <;> rfl
        · intro H' ⟨q1, q2⟩
          rw [show z.cps.size = (tl z).length from rfl, List.take_length] at q2
          refine ⟨by show 0 ≤ sizeLine; omega, fun l nl => ?_⟩
          have sl := same_new (o := .lst ([] : List V)) nl
          refine ⟨D, l, _, rfl, rfl, sl _ _ q2, upd_same, ?_⟩
          rw [List.length_map]
          have e : decide ((oddD (tl z)).length = 0) = nmB z := by
            by_cases od : oddD (tl z) = []
            · rw [nmB_yes ⟨oddD_none od, by rw [← len_tl]; exact l1, by rw [← len_tl]; exact l2, es⟩, od] <;> rfl
            · rw [nmB_no fun nm => oddD_some od nm.1]
              exact decide_eq_false fun z => od (List.length_eq_zero_iff.mp z)
          rw [e]
          exact kb _ ((s2.trans q1).trans sl)
end
end FT


/-! the law's own: _law_changed -/
namespace FT
open PySem L2 TL ClX LiI
def Off (d l : Addr) (v : V) : Prop := ∀ p, v = .ref p → p ≠ d ∧ p ≠ l
/-- a thing off the drawing state, a tuple of at most m items -/
def ThX (K : PySem.W.Frag) (d l : Addr) (m : Nat) (H : Hp) (v : V) (o : Option (List V)) : Prop := ThV K H v o ∧ Off d l v ∧ ∀ xs, o = some xs → (∀ x ∈ xs, Off d l x) ∧ xs.length ≤ m
theorem IsDat.kx {K : PySem.W.Frag} {d l : Addr} {H H' : Hp} {v : V} {T : String} (k : KeepX [d, l] H H') (o : Off d l v) (h : Dat K H v T) : Dat K H' v T := by
  cases h with
  | non => exact .non
  | bl b => exact .bl b
  | int i => exact .int i
  | str z => exact .str z
  | lst h => exact .lst (k _ _ (by have := o _ rfl; simp [this.1, this.2]) h)
  | tup h => exact .tup (k _ _ (by have := o _ rfl; simp [this.1, this.2]) h)
  | dct h => exact .dct (k _ _ (by have := o _ rfl; simp [this.1, this.2]) h)
theorem Item.kx {K : PySem.W.Frag} {d l : Addr} {H H' : Hp} {v : V} (k : KeepX [d, l] H H') (o : Off d l v) (h : Item K H v) : Item K H' v := ⟨let ⟨T, q⟩ := h.1; ⟨T, IsDat.kx k o q⟩, h.2⟩
theorem ThX.kx {K : PySem.W.Frag} {d l : Addr} {m : Nat} {H H' : Hp} {v : V} {o : Option (List V)} (k : KeepX [d, l] H H') (h : ThX K d l m H v o) : ThX K d l m H' v o := by
  obtain ⟨t, f, g⟩ := h
  refine ⟨?_, f, g⟩
  cases o with
  | none => exact let ⟨T, q, n⟩ := t; ⟨T, IsDat.kx k f q, n⟩
  | some xs =>
    obtain ⟨a, rfl, ha, it, l12⟩ := t
    have fa := f a rfl
    exact ⟨a, rfl, k _ _ (by simp [fa.1, fa.2]) ha, fun x hx => (it x hx).kx k ((g xs rfl).1 x hx), l12⟩
theorem sl_any {K : PySem.W.Frag} {H : Hp} {a : Addr} {xs : List V} {lo hi : Option Int} {Q : VK} (ha : H a = some (.tup xs)) (k : ∀ p H', Same H H' → H' p = some (.tup (cutV xs lo hi)) → Q (.ref p) H') : rSlA K (.ref a) lo hi H Q := by
  refine ⟨a, xs, rfl, .inl (.inl ha), fun hw => k a H (fun _ _ e => e) ?_, fun _ p np => k p _ (same_new np) upd_same⟩
  have e : cutV xs lo hi = xs := by
    show (xs.drop (HT.sIx xs.length 0 lo)).take (HT.sIx xs.length xs.length hi - HT.sIx xs.length 0 lo) = xs
    rw [hw.1, hw.2, List.drop_zero, Nat.sub_zero, List.take_length]
  rw [e]
  exact ha
theorem sl_from {K : PySem.W.Frag} {σ : St} {H : Hp} {a : Addr} {xs : List V} {lo : Option Int} {Q : VK} (ha : H a = some (.tup xs)) (k : ∀ p H', Same H H' → H' p = some (.tup (cutV xs lo none)) → Q (.ref p) H') : tNoPart σ H fun u H3 => rSlA K (.ref a) lo u H3 Q := sl_any ha k
theorem cat_any {K : PySem.W.Frag} {H : Hp} {a b : Addr} {xs ys : List V} {Q : VK} (ha : H a = some (.tup xs)) (hb : H b = some (.tup ys)) (hz : xs.length + ys.length ≤ sizeLine) (k : ∀ p H', Same H H' → H' p = some (.tup (xs ++ ys)) → Q (.ref p) H') : rCatA K (.ref a) (.ref b) H Q := by
  refine ⟨a, b, xs, ys, rfl, rfl, .inl (.inl ha), .inl (.inl hb), hz, fun e => k b H (fun _ _ e => e) (by rw [e, List.nil_append]; exact hb), fun _ e => k a H (fun _ _ e => e) (by rw [e, List.append_nil]; exact ha), fun _ _ p np => k p _ (same_new np) upd_same⟩
theorem cut_dropD {xs : List V} {j : Nat} (h : j ≤ xs.length) : cutV xs (some (j : Int)) none = xs.drop j := by
  have e : HT.sIx xs.length 0 (some (j : Int)) = min j xs.length := HT.sIx_nat _ _ j
  show (xs.drop (HT.sIx xs.length 0 (some (j : Int)))).take (xs.length - HT.sIx xs.length 0 (some (j : Int))) = xs.drop j
  rw [e, Nat.min_eq_left h, List.take_of_length_le (by rw [List.length_drop]; exact Nat.le_refl _)]
def spChg (K : PySem.W.Frag) : Sp := fun vs H Q _ => ∃ (d l i : Addr) (b : Int) (v : V) (o : Option (List V)) (m : Nat), vs = [.ref d, v] ∧ DrawD H d l i b ∧ b + 100 ≤ 10 ^ 12 ∧ ThX K d l m H v o ∧ m ≤ 8 ∧
  ∀ (v' : V) (o' : Option (List V)) (H' : Hp), ThX K d l (m + 2) H' v' o' → DrawD H' d l i (b + 10) → KeepX [d, l] H H' → Q v' H'
theorem off_of {H : Hp} {d l i : Addr} {b : Int} (D : DrawD H d l i b) {p : Addr} (n : H p = none) : Off d l (.ref p) := fun q e => by
  cases e
  exact ⟨(D.apart n).1, (D.apart n).2.1⟩
theorem off_tup {H : Hp} {d l i : Addr} {b : Int} (D : DrawD H d l i b) {p : Addr} {xs : List V} (h : H p = some (.tup xs)) : Off d l (.ref p) := fun q e => by
  cases e
  exact ⟨(D.tup h).1, (D.tup h).2.1⟩
/-- another thing is picked -/
def tPkD (K : PySem.W.Frag) : TS := fun D σ H => ∃ (d l i : Addr) (b : Int) (v : V), σ = [some (.ref d), some v, none, none, none] ∧ DrawD H d l i b ∧ b + 1 ≤ 10 ^ 12 ∧ ∀ (x : V) (o : Option (List V)) (H' : Hp), ThX K d l 2 H' x o → DrawD H' d l i (b + 1) → KeepX [d, l] H H' → D.rt x H'
/-- no tuple, an empty one, or one turn of six: another thing -/
def tChD (K : PySem.W.Frag) : TS := fun D σ H => ∃ (d l i : Addr) (b : Int) (v : V) (o : Option (List V)) (m : Nat), σ = [some (.ref d), some v, none, none, none] ∧ DrawD H d l i b ∧ b + 2 ≤ 10 ^ 12 ∧ ThX K d l m H v o ∧
  (∀ (x : V) (o : Option (List V)) (H' : Hp), ThX K d l 2 H' x o → DrawD H' d l i (b + 2) → KeepX [d, l] H H' → D.rt x H') ∧
  (∀ (a : Addr) (xs : List V) (H' : Hp), v = .ref a → o = some xs → xs ≠ [] → DrawD H' d l i (b + 2) → KeepX [d, l] H H' → D.nx [some (.ref d), some (.ref a), none, none, none] H')
section
variable {P : Program} {w : World} {K : PySem.W.Frag} {mg : Str → Option Value} {base : Heap}
abbrev NCg : List Str := ["_law_draw", "_law_thing", "_law_at", "_law_way", "_law_odd"]
theorem scCg : FnScope NCg ["_law_draw", "_law_thing"] (defScope s__law_changed) := ⟨rfl, rfl, rfl, by decide +kernel, rfl, by decide +kernel, by decide +kernel⟩
theorem ok_chg {f fT fP : Addr} {fd fdT fdP : FuncData} (F : Fun K "_law_changed" "_law_changed" s__law_changed f fd) (T : Nm mg) (DT : Dn P w K mg base CX0 2 "_law_take" ["_law_draw", "_law_size"] spTakeD fT fdT) (DP : Dn P w K mg base CX0 3 "_law_pick" ["_law_draw", "_law_some"] spPickD fP fdP) :
    FnOk P w K mg base CX0 4 f fd ["_law_draw", "_law_thing"] (spChg K) := by
  refine F.ok scCg (fun vs H Q E h => ?_) (fun cdv A outer s H vs Q E hr h => ?_)
  · obtain ⟨d, l, i, b, v, o, m, rfl, _⟩ := h
    rfl
  · obtain ⟨d, l, i, b, v, o, m, rfl, hD, bb, th, m8, k⟩ := h
    have hr2 : Room 2 _ := hr.mono (by decide)
    have nd := scCg.nd
    have big : 1000 ≤ sizeLine := by decide
    have hu := hu_of hr
    refine ⟨_, pss_cons (ps_toD (t' := tChD K) (ps_if (PW.pt (pw_or (pt_not (pt_val (pe_callB call_isi (by rfl) T.isi (by decide +kernel) (pa_cons (pv 1) (pa_cons (pe_bltn (v := .ty "tuple") (u := .type "tuple") (by rfl) T.tup (by decide +kernel) rfl) pa_nil)))))
          (pw_or (pt_cmpR (op_eqNilT (Nat.lt_of_succ_lt hu)) (pv 1) (pe_tup pa_nil) (nomark _)) (pw_or1 (pt_cmpR op_eq (pe_call DT.ok hr2 rfl DT.mgn DT.kp DT.bn .nil pass0 (pa_cons (pv 0) (pa_cons pe_int pa_nil))) pe_int (nomark _))))))
        (pss_toD (t' := tPkD K) (pss_one (ps_ret (pe_call DP.ok hr rfl DP.mgn DP.kp DP.bn .nil pass0 (pa_cons (pv 0) (pa_cons (pe_lst (pa_cons pe_non (pa_cons pe_int (pa_cons pe_str (pa_cons (pe_tup pa_nil) (pa_cons (pe_lst pa_nil) (pa_cons pe_dnewK (pa_cons (pe_tup (pa_cons pe_str pa_nil)) (pa_cons (pe_tup (pa_cons pe_str (pa_cons pe_int pa_nil))) (pa_cons (pe_lst (pa_cons pe_str (pa_cons pe_int pa_nil)))
          (pa_cons (pe_tup (pa_cons (pe_lst pa_nil) (pa_cons pe_int pa_nil))) (pa_cons (pe_tup (pa_cons pe_int (pa_cons pe_int pa_nil))) pa_nil)))))))))))) pa_nil))))) ?_) pss_nil) ?_)
      (pss_cons (ps_par (i := 2) (j := 3) rfl nd rfl rfl (by decide) rfl rfl (pa_cons (pe_call DT.ok hr2 rfl DT.mgn DT.kp DT.bn .nil pass0 (pa_cons (pv 0) (pa_cons (pe_callB call_len (by rfl) T.len PySem.boot_len (pa_cons (pv 1) pa_nil)) pa_nil))) (pa_cons (pe_call DT.ok hr2 rfl DT.mgn DT.kp DT.bn .nil pass0 (pa_cons (pv 0) (pa_cons pe_int pa_nil))) pa_nil)) (by rfl))
      (pss_cons (ps_set (i := 4) nd rfl (.inl rfl) (pe_lst (pa_cons pe_non (pa_cons pe_int (pa_cons (pe_un un_neg pe_int) (pa_cons pe_bl (pa_cons pe_str (pa_cons pe_str (pa_cons pe_str (pa_cons pe_str (pa_cons pe_str (pa_cons (pe_lst pa_nil) (pa_cons pe_dnewK (pa_cons (pe_tup (pa_cons pe_str pa_nil)) (pa_cons pe_str (pa_cons pe_int (pa_cons pe_str (pa_cons pe_str pa_nil))))))))))))))))))
      (pss_cons (ps_if (pt_cmpR op_eq (pv 3) pe_int (nomark _)) (pss_one (ps_ret (pe_op op_catA (pe_slice sl_tupA (pv 1) po_none (po_some (pv 2))) (pe_slice sl_tupA (pv 1) (po_some (pe_op op_add (pv 2) pe_int)) po_none)))) pss_nil)
      (pss_cons (ps_if (pt_cmpR op_eq (pv 3) pe_int (nomark _)) (pss_one (ps_ret (pe_op op_catA (pe_op op_catA (pe_slice sl_tupA (pv 1) po_none (po_some (pv 2))) (pe_tup (pa_cons (pe_call DP.ok hr rfl DP.mgn DP.kp DP.bn .nil pass0 (pa_cons (pv 0) (pa_cons (pv 4) pa_nil))) pa_nil))) (pe_slice sl_tupA (pv 1) (po_some (pv 2)) po_none)))) pss_nil)
      (pss_one (ps_ret (pe_ifExp (pt_cmpR op_eq (pv 3) pe_int (nomark _)) (pe_callTy call_list_of (by rfl) T.lst (by decide +kernel) (pa_cons (pv 1) pa_nil))
        (pe_op op_catA (pe_op op_catA (pe_slice sl_tupA (pv 1) po_none (po_some (pv 2))) (pe_tup (pa_cons (pe_call DP.ok hr rfl DP.mgn DP.kp DP.bn .nil pass0 (pa_cons (pv 0) (pa_cons (pv 4) pa_nil))) pa_nil))) (pe_slice sl_tupA (pv 1) (po_some (pe_op op_add (pv 2) pe_int)) po_none))))))))), ?_⟩
    · rintro D σ H ⟨d, l, i, b, v, rfl, hD, bb, k⟩
      refine ⟨_, rfl, by show 0 ≤ sizeLine; omega, fun p4 n4 => ⟨by show 0 ≤ sizeLine; omega, fun p5 n5 => fun p6 n6 => ⟨by show 1 ≤ sizeLine; omega, fun p7 n7 => ⟨by show 2 ≤ sizeLine; omega, fun p8 n8 => ⟨by show 2 ≤ sizeLine; omega, fun p9 n9 => ⟨by show 0 ≤ sizeLine; omega, fun p10 n10 =>
        ⟨by show 2 ≤ sizeLine; omega, fun p11 n11 => ⟨by show 2 ≤ sizeLine; omega, fun p12 n12 => ⟨by show 11 ≤ sizeLine; omega, fun R nR => ?_⟩⟩⟩⟩⟩⟩⟩⟩⟩
      have t4 := same_new (o := .tup []) n4
      have t5 := same_new (o := .lst []) n5
      have t6 := same_new (o := .dK []) n6
      have t7 := same_new (o := .tup [V.str "stay"]) n7
      have t8 := same_new (o := .tup [V.str "stay", V.int 1]) n8
      have t9 := same_new (o := .lst [V.str "stay", V.int 1]) n9
      have t10 := same_new (o := .lst []) n10
      have t11 := same_new (o := .tup [V.ref p10, V.int 1]) n11
      have t12 := same_new (o := .tup [V.int 1, V.int 2]) n12
      have tR := same_new (o := .lst [V.non, V.int 5, V.str "must", V.ref p4, V.ref p5, V.ref p6, V.ref p7, V.ref p8, V.ref p9, V.ref p11, V.ref p12]) nR
      have E4 := hD.mono t4
      have E5 := E4.mono t5
      have E6 := E5.mono t6
      have E7 := E6.mono t7
      have E8 := E7.mono t8
      have E9 := E8.mono t9
      have E10 := E9.mono t10
      have E11 := E10.mono t11
      have E12 := E11.mono t12
      have ER := E12.mono tR
      have S4 := t4
      have S5 := S4.trans t5
      have S6 := S5.trans t6
      have S7 := S6.trans t7
      have S8 := S7.trans t8
      have S9 := S8.trans t9
      have S10 := S9.trans t10
      have S11 := S10.trans t11
      have S12 := S11.trans t12
      have SR := S12.trans tR
      have u12 := tR
      have u11 := t12.trans u12
      have u10 := t11.trans u11
      have u9 := t10.trans u10
      have u8 := t9.trans u9
      have u7 := t8.trans u8
      have u6 := t7.trans u7
      have u5 := t6.trans u6
      have u4 := t5.trans u5
      have f4 := off_of hD n4
      have f5 := off_of E4 n5
      have f6 := off_of E5 n6
      have f7 := off_of E6 n7
      have f8 := off_of E7 n8
      have f9 := off_of E8 n9
      have f10 := off_of E9 n10
      have f11 := off_of E10 n11
      have f12 := off_of E11 n12
      have h4 := u4 _ _ (upd_same (a := p4) (o := .tup []))
      have h5 := u5 _ _ (upd_same (a := p5) (o := .lst []))
      have h6 := u6 _ _ (upd_same (a := p6) (o := .dK []))
      have h7 := u7 _ _ (upd_same (a := p7) (o := .tup [V.str "stay"]))
      have h8 := u8 _ _ (upd_same (a := p8) (o := .tup [V.str "stay", V.int 1]))
      have h9 := u9 _ _ (upd_same (a := p9) (o := .lst [V.str "stay", V.int 1]))
      have h10 := u10 _ _ (upd_same (a := p10) (o := .lst []))
      have h11 := u11 _ _ (upd_same (a := p11) (o := .tup [V.ref p10, V.int 1]))
      have h12 := u12 _ _ (upd_same (a := p12) (o := .tup [V.int 1, V.int 2]))
      obtain ⟨Rd, Rl, Ri⟩ := E12.apart nR
      refine ⟨d, l, i, b, .ref R, 11, (fun _ x => ∃ o, ThX K d l 2 (upd (upd (upd (upd (upd (upd (upd (upd (upd (upd H p4 (.tup [])) p5 (.lst [])) p6 (.dK [])) p7 (.tup [V.str "stay"])) p8 (.tup [V.str "stay", V.int 1])) p9 (.lst [V.str "stay", V.int 1])) p10 (.lst [])) p11 (.tup [V.ref p10, V.int 1])) p12 (.tup [V.int 1, V.int 2])) R (.lst [V.non, V.int 5, V.str "must", V.ref p4, V.ref p5, V.ref p6, V.ref p7, V.ref p8, V.ref p9, V.ref p11, V.ref p12])) x o), rfl, ER, by omega, .inl ⟨R, _, rfl, Rl, upd_same, rfl, fun j x hx => ?_⟩, by decide, by decide, fun j x H' px D' k' => ?_⟩
      rotate_left
      · obtain ⟨o, px⟩ := px
        exact k x o H' (px.kx k') D' ((KeepX.of_same SR).trans k')
      have hx := List.mem_of_getElem? hx
      simp only [List.mem_cons, List.not_mem_nil, or_false] at hx
      have iI : ∀ (H : Hp) (z : Int), Item K H (.int z) := fun H z => ⟨⟨_, .int z⟩, fun _ e => nomatch e⟩
      have iS : ∀ (H : Hp) (z : Str), z.length ≤ 100 → Item K H (.str z) := fun H z hz => ⟨⟨_, .str z⟩, fun _ e => by cases e; exact hz⟩
      have oI : ∀ z : Int, Off d l (.int z) := fun z p e => nomatch e
      have oS : ∀ z : Str, Off d l (.str z) := fun z p e => nomatch e
      rcases hx with rfl | rfl | rfl | rfl | rfl | rfl | rfl | rfl | rfl | rfl | rfl
      · exact ⟨none, ⟨_, .non, by decide⟩, (fun p e => nomatch e), fun xs e => nomatch e⟩
      · exact ⟨none, ⟨_, .int 5, by decide⟩, oI _, fun xs e => nomatch e⟩
      · exact ⟨none, ⟨_, .str _, by decide⟩, oS _, fun xs e => nomatch e⟩
      · refine ⟨some [], ⟨p4, rfl, h4, ?_, (by show 0 ≤ 12; decide)⟩, f4, fun xs e => ?_⟩
        · exact (fun x hx => by cases hx)
        · cases e
          exact ⟨(fun x hx => by cases hx), (by show 0 ≤ 2; decide)⟩
      · exact ⟨none, ⟨_, .lst h5, by decide⟩, f5, fun xs e => nomatch e⟩
      · exact ⟨none, ⟨_, .dct h6, by decide⟩, f6, fun xs e => nomatch e⟩
      · refine ⟨some [V.str "stay"], ⟨p7, rfl, h7, ?_, (by show 1 ≤ 12; decide)⟩, f7, fun xs e => ?_⟩
        · exact (fun x hx => by rw [List.mem_singleton.mp hx]; exact iS _ _ (by decide))
        · cases e
          exact ⟨(fun x hx => by rw [List.mem_singleton.mp hx]; exact oS _), (by show 1 ≤ 2; decide)⟩
      · refine ⟨some [V.str "stay", V.int 1], ⟨p8, rfl, h8, ?_, (by show 2 ≤ 12; decide)⟩, f8, fun xs e => ?_⟩
        · exact (fun x hx => by
          simp only [List.mem_cons, List.not_mem_nil, or_false] at hx
          rcases hx with rfl | rfl
          · exact iS _ _ (by decide)
          · exact iI _ _)
        · cases e
          exact ⟨(fun x hx => by
          simp only [List.mem_cons, List.not_mem_nil, or_false] at hx
          rcases hx with rfl | rfl
          · exact oS _
          · exact oI _), (by show 2 ≤ 2; decide)⟩
      · exact ⟨none, ⟨_, .lst h9, by decide⟩, f9, fun xs e => nomatch e⟩
      · refine ⟨some [V.ref p10, V.int 1], ⟨p11, rfl, h11, ?_, (by show 2 ≤ 12; decide)⟩, f11, fun xs e => ?_⟩
        · exact (fun x hx => by
          simp only [List.mem_cons, List.not_mem_nil, or_false] at hx
          rcases hx with rfl | rfl
          · exact ⟨⟨_, .lst h10⟩, fun _ e => nomatch e⟩
          · exact iI _ _)
        · cases e
          exact ⟨(fun x hx => by
          simp only [List.mem_cons, List.not_mem_nil, or_false] at hx
          rcases hx with rfl | rfl
          · exact f10
          · exact oI _), (by show 2 ≤ 2; decide)⟩
      · refine ⟨some [V.int 1, V.int 2], ⟨p12, rfl, h12, ?_, (by show 2 ≤ 12; decide)⟩, f12, fun xs e => ?_⟩
        · exact (fun x hx => by
          simp only [List.mem_cons, List.not_mem_nil, or_false] at hx
          rcases hx with rfl | rfl
          · exact iI _ _
          · exact iI _ _)
        · cases e
          exact ⟨(fun x hx => by
          simp only [List.mem_cons, List.not_mem_nil, or_false] at hx
          rcases hx with rfl | rfl
          · exact oI _
          · exact oI _), (by show 2 ≤ 2; decide)⟩
    · rintro D σ H ⟨d, l, i, b, v, o, m, rfl, hD, bb, th, kp, kn⟩
      have pick : ∀ H1, DrawD H1 d l i (b + 1) → KeepX [d, l] H H1 → tPkD K D [some (.ref d), some v, none, none, none] H1 := fun H1 D1 k1 => ⟨d, l, i, b + 1, v, rfl, D1, by omega, fun x o H' tx D' k' => kp x o H' tx (D'.more (by omega)) (k1.trans k')⟩
      cases o with
      | none =>
        obtain ⟨⟨T', d0, nT⟩, f, g⟩ := th
        refine ⟨_, rfl, v, _, _, _, _, rfl, .ty _, d0.ty, d0.tup_, _, rfl, ?_⟩
        rw [decide_eq_false nT]
        exact iteT (iteT (pick H (hD.more (by omega)) fun _ _ _ e => e))
      | some xs =>
        obtain ⟨⟨a, rfl, ha, it, l12⟩, f, g⟩ := th
        refine ⟨_, rfl, .ref a, _, _, _, true, rfl, .ty _, .base (.tup ha), kit_ty (by decide +kernel), true, rfl, iteF ?_⟩
        refine ⟨_, rfl, by show 0 ≤ sizeLine; omega, fun q nq => ?_⟩
        have sq := same_new (o := .tup []) nq
        have kq : KeepX [d, l] H (upd H q (.tup [])) := .of_same sq
        refine ⟨a, q, xs, rfl, rfl, .inl (.inl (sq _ _ ha)), .inl (.inl upd_same), _, rfl, ?_⟩
        by_cases ne : xs = []
        · rw [decide_eq_true (show xs.length = 0 by rw [ne] <;> rfl)]
          exact iteT (iteT (pick _ ((hD.mono sq).more (by omega)) kq))
        · rw [decide_eq_false (show ¬ xs.length = 0 from fun e => ne (List.length_eq_zero_iff.mp e))]
          refine iteF ?_
          refine ⟨_, rfl, d, l, i, b, 6, rfl, hD.mono sq, by omega, by decide, by decide, fun m6 H2 m0 m1 D2 k2 => ⟨rfl, _, rfl, ?_⟩⟩
          exact ite2 (fun _ => pick H2 D2 (kq.trans k2)) (fun _ => kn a xs H2 rfl rfl ne (D2.more (by omega)) (kq.trans k2))
    · refine ⟨d, l, i, b, v, o, m, rfl, hD, by omega, th, fun x o' H' tx D' k' => k x o' H' ⟨tx.1, tx.2.1, fun xs e => ⟨(tx.2.2 xs e).1, Nat.le_trans (tx.2.2 xs e).2 (by omega)⟩⟩ (D'.more (by omega)) k', fun a xs H1 ev eo ne D1 k1 => ?_⟩
      subst ev eo
      have th1 := th.kx k1
      have lm := (th.2.2 xs rfl).2
      obtain ⟨⟨a', ea, ha, it, l12⟩, f, g⟩ := th1
      cases ea
      have lx : 0 < xs.length := List.length_pos_iff.mpr ne
      have na : ∀ t : Int, 0 ≤ t → t ≤ 100 → t.natAbs < 2 ^ 200 := fun t h1 h2 => Nat.lt_of_le_of_lt (show t.natAbs ≤ 100 by omega) (by decide)
      refine ⟨_, rfl, _, rfl, _, xs.length, rfl, .inr ⟨xs, .inl (.inl ha), rfl⟩, d, l, i, _, _, rfl, D1, by omega, by omega, na _ (by omega) (by omega), fun at_ H2 a0 a1 D2 k2 => ⟨_, rfl, d, l, i, _, 5, rfl, D2, by omega, by decide, by decide, fun way H3 w0 w1 D3 k3 => ⟨_, _, rfl, ?_⟩⟩⟩
      have fa := f a rfl
      have nx : ∀ {Hx Hy : Hp}, KeepX [d, l] Hx Hy → Hx a = some (.tup xs) → Hy a = some (.tup xs) := fun k h => k _ _ (by simp [fa.1, fa.2]) h
      have ha3 := nx k3 (nx k2 ha)
      have K3 : KeepX [d, l] H1 H3 := k2.trans k3
      obtain ⟨n, rfl⟩ := Int.eq_ofNat_of_zero_le a0
      refine ⟨_, rfl, by show 0 ≤ sizeLine; omega, fun q1 n1 => fun q2 n2 => ⟨by show 1 ≤ sizeLine; omega, fun q3 n3 => ⟨by show 16 ≤ sizeLine; omega, fun R nR => ?_⟩⟩⟩
      have t1 := same_new (o := .lst []) n1
      have t2 := same_new (o := .dK []) n2
      have t3 := same_new (o := .tup [V.str "a"]) n3
      have tR := same_new (o := .lst [V.non, V.int 5, V.int (-1), V.bl true, V.str "", V.str "Must", V.str "never", V.str "toolongxx", V.str "a1", V.ref q1, V.ref q2, V.ref q3, V.str "self", V.int 60, V.str "stay", V.str "x"]) nR
      have E1 := D3.mono t1
      have E2 := E1.mono t2
      have E3 := E2.mono t3
      obtain ⟨Rd, Rl, Ri⟩ := E3.apart nR
      have f1 := off_of D3 n1
      have f2 := off_of E1 n2
      have f3 := off_of E2 n3
      obtain ⟨H4, e4⟩ : ∃ X, X = upd (upd (upd (upd H3 q1 (.lst [])) q2 (.dK [])) q3 (.tup [V.str "a"])) R (.lst [V.non, V.int 5, V.int (-1), V.bl true, V.str "", V.str "Must", V.str "never", V.str "toolongxx", V.str "a1", V.ref q1, V.ref q2, V.ref q3, V.str "self", V.int 60, V.str "stay", V.str "x"]) := ⟨_, rfl⟩
      have h1 : H4 q1 = some (.lst []) := by rw [e4]; exact (t2.trans (t3.trans tR)) _ _ upd_same
      have h2 : H4 q2 = some (.dK []) := by rw [e4]; exact (t3.trans tR) _ _ upd_same
      have h3 : H4 q3 = some (.tup [V.str "a"]) := by rw [e4]; exact tR _ _ upd_same
      have hR : H4 R = some (.lst [V.non, V.int 5, V.int (-1), V.bl true, V.str "", V.str "Must", V.str "never", V.str "toolongxx", V.str "a1", V.ref q1, V.ref q2, V.ref q3, V.str "self", V.int 60, V.str "stay", V.str "x"]) := by rw [e4]; exact upd_same
      have S4 : Same H3 H4 := e4 ▸ (t1.trans (t2.trans (t3.trans tR)))
      have D4 := D3.mono S4
      obtain ⟨odds, eo⟩ : ∃ o : List V, o = [V.non, V.int 5, V.int (-1), V.bl true, V.str "", V.str "Must", V.str "never", V.str "toolongxx", V.str "a1", V.ref q1, V.ref q2, V.ref q3, V.str "self", V.int 60, V.str "stay", V.str "x"] := ⟨_, rfl⟩
      have odd : ∀ x ∈ odds, Item K H4 x ∧ Off d l x := fun x hx => by
        rw [eo] at hx
        simp only [List.mem_cons, List.not_mem_nil, or_false] at hx
        have iI : ∀ z : Int, Item K H4 (.int z) ∧ Off d l (.int z) := fun z => ⟨⟨⟨_, .int z⟩, fun _ e => nomatch e⟩, fun p e => nomatch e⟩
        have iS : ∀ z : Str, z.length ≤ 100 → Item K H4 (.str z) ∧ Off d l (.str z) := fun z hz => ⟨⟨⟨_, .str z⟩, fun _ e => by cases e; exact hz⟩, fun p e => nomatch e⟩
        rcases hx with rfl | rfl | rfl | rfl | rfl | rfl | rfl | rfl | rfl | rfl | rfl | rfl | rfl | rfl | rfl | rfl
        · exact ⟨⟨⟨_, .non⟩, fun _ e => nomatch e⟩, fun p e => nomatch e⟩
        · exact iI _
        · exact iI _
        · exact ⟨⟨⟨_, .bl _⟩, fun _ e => nomatch e⟩, fun p e => nomatch e⟩
        · exact iS _ (by decide)
        · exact iS _ (by decide)
        · exact iS _ (by decide)
        · exact iS _ (by decide)
        · exact iS _ (by decide)
        · exact ⟨⟨⟨_, .lst h1⟩, fun _ e => nomatch e⟩, f1⟩
        · exact ⟨⟨⟨_, .dct h2⟩, fun _ e => nomatch e⟩, f2⟩
        · exact ⟨⟨⟨_, .tup h3⟩, fun _ e => nomatch e⟩, f3⟩
        · exact iS _ (by decide)
        · exact iI _
        · exact iS _ (by decide)
        · exact iS _ (by decide)
      have lo : odds.length = 16 := by rw [eo] <;> rfl
      rw [← e4]
      rw [← eo] at hR
      clear e4 t1 t2 t3 tR E1 E2 E3 h1 h2 h3 f1 f2 f3 n1 n2 n3 nR
      have ha4 := S4 _ _ ha3
      have K4 : KeepX [d, l] H1 H4 := K3.trans (.of_same S4)
      have ln : n < xs.length := by omega
      -- a tuple of such items is told on
      have fin : ∀ (ys : List V) (p : Addr) (H' : Hp), KeepX [d, l] H4 H' → DrawD H' d l i (b + 8) → H' p = some (.tup ys) → (∀ y ∈ ys, y ∈ xs ∨ y ∈ odds) → ys.length ≤ xs.length + 1 → Q (.ref p) H' := by
        intro ys p H' k' D' hp hy ly
        refine k _ (some ys) H' ⟨⟨p, rfl, hp, fun y hm => ?_, by omega⟩, off_tup D' hp, fun zs e => ?_⟩ (D'.more (by omega)) (k1.trans (K4.trans k'))
        · rcases hy y hm with h | h
          · exact (it y h).kx (K4.trans k') ((g xs rfl).1 y h)
          · exact (odd y h).1.kx k' (odd y h).2
        · cases e
          refine ⟨fun y hm => ?_, by omega⟩
          rcases hy y hm with h | h
          · exact (g xs rfl).1 y h
          · exact (odd y h).2
      have c1 : cutV xs none (some (n : Int)) = xs.take n := cut_take (by omega)
      have c2 : cutV xs (some (n : Int)) none = xs.drop n := cut_dropD (by omega)
      have c3 : cutV xs (some ((n : Int) + 1)) none = xs.drop (n + 1) := by
        have := cut_dropD (xs := xs) (j := n + 1) (by omega)
        push_cast at this
        exact this
      have lt : (xs.take n).length = n := by rw [List.length_take]; omega
      have ld : (xs.drop n).length = xs.length - n := List.length_drop ..
      have ld1 : (xs.drop (n + 1)).length = xs.length - (n + 1) := List.length_drop ..
      refine ⟨_, rfl, rfl, _, rfl, ?_⟩
      refine ite2 (fun _ => ?_) (fun _ => ?_)
      · refine ⟨_, rfl, _, rfl, _, rfl, sl_any ha4 fun p1 H5 s5 h5 => ?_⟩
        rw [c1] at h5
        refine ⟨_, rfl, _, rfl, _, _, rfl, rfl, _, rfl, sl_from (s5 _ _ ha4) fun p2 H6 s6 h6 => ?_⟩
        rw [c3] at h6
        refine cat_any (s6 _ _ h5) h6 (by omega) fun p H7 s7 h7 => ?_
        have S := s5.trans (s6.trans s7)
        refine fin _ p H7 (.of_same S) ((D4.mono S).more (by omega)) h7 (fun y hy => ?_) (by rw [List.length_append]; omega)
        rcases List.mem_append.mp hy with h | h
        · exact .inl (List.mem_of_mem_take h)
        · exact .inl (List.mem_of_mem_drop h)
      refine ⟨_, rfl, rfl, _, rfl, ?_⟩
      refine ite2 (fun _ => ?_) (fun _ => ?_)
      · skip
        refine ⟨_, rfl, _, rfl, _, rfl, sl_any ha4 fun p1 H5 s5 h5 => ?_⟩
        rw [c1] at h5
        have E5 := D4.mono s5
        refine ⟨_, rfl, _, rfl, d, l, i, _, .ref R, 16, (fun _ x => x ∈ odds), rfl, E5, by omega, .inl ⟨R, _, rfl, Rl, s5 _ _ hR, lo, fun j x hx => List.mem_of_getElem? hx⟩, by decide, by decide, fun j x H6 px D6 k6 => ?_⟩
        refine ⟨by show 1 ≤ sizeLine; omega, fun p2 n2 => ?_⟩
        have s7 := same_new (o := .tup [x]) n2
        have k47 : KeepX [d, l] H4 (upd H6 p2 (.tup [x])) := ((KeepX.of_same s5).trans k6).trans (.of_same s7)
        have f5 := off_tup E5 h5
        have h5' := s7 _ _ (k6 p1 _ (by have := f5 _ rfl; simp [this.1, this.2]) h5)
        refine cat_any h5' upd_same (by show _ + 1 ≤ sizeLine; omega) fun p3 H8 s8 h8 => ?_
        have k48 := k47.trans (.of_same s8)
        refine ⟨_, rfl, _, rfl, _, rfl, sl_from (nx k48 ha4) fun p4 H9 s9 h9 => ?_⟩
        rw [c2] at h9
        refine cat_any (s9 _ _ h8) h9 (by rw [List.length_append]; show _ + 1 + _ ≤ sizeLine; omega) fun p H10 s10 h10 => ?_
        refine fin _ p H10 ((k48.trans (.of_same s9)).trans (.of_same s10)) ((((D6.mono s7).mono s8).mono (s9.trans s10)).more (by omega)) h10 (fun y hy => ?_) (by rw [List.length_append, List.length_append]; show _ + 1 + _ ≤ _; omega)
        rcases List.mem_append.mp hy with h | h
        · rcases List.mem_append.mp h with h | h
          · exact .inl (List.mem_of_mem_take h)
          · rw [List.mem_singleton.mp h]
            exact .inr px
        · exact .inl (List.mem_of_mem_drop h)
      · refine ⟨_, rfl, rfl, _, rfl, ?_⟩
        refine ite2 (fun _ => ?_) (fun _ => ?_)
        · refine ⟨_, rfl, a, xs, rfl, .inr (.inl (.inl ha4)), fun p np => ?_⟩
          have s5 := same_new (o := .lst xs) np
          have fp := off_of D4 np
          exact k (.ref p) none _ ⟨⟨_, .lst upd_same, by decide⟩, fp, fun zs e => nomatch e⟩ ((D4.mono s5).more (by omega)) (k1.trans (K4.trans (.of_same s5)))
        · skip
          refine ⟨_, rfl, _, rfl, _, rfl, sl_any ha4 fun p1 H5 s5 h5 => ?_⟩
          rw [c1] at h5
          have E5 := D4.mono s5
          refine ⟨_, rfl, _, rfl, d, l, i, _, .ref R, 16, (fun _ x => x ∈ odds), rfl, E5, by omega, .inl ⟨R, _, rfl, Rl, s5 _ _ hR, lo, fun j x hx => List.mem_of_getElem? hx⟩, by decide, by decide, fun j x H6 px D6 k6 => ?_⟩
          refine ⟨by show 1 ≤ sizeLine; omega, fun p2 n2 => ?_⟩
          have s7 := same_new (o := .tup [x]) n2
          have k47 : KeepX [d, l] H4 (upd H6 p2 (.tup [x])) := ((KeepX.of_same s5).trans k6).trans (.of_same s7)
          have f5 := off_tup E5 h5
          have h5' := s7 _ _ (k6 p1 _ (by have := f5 _ rfl; simp [this.1, this.2]) h5)
          refine cat_any h5' upd_same (by show _ + 1 ≤ sizeLine; omega) fun p3 H8 s8 h8 => ?_
          have k48 := k47.trans (.of_same s8)
          refine ⟨_, rfl, _, rfl, _, _, rfl, rfl, _, rfl, sl_from (nx k48 ha4) fun p4 H9 s9 h9 => ?_⟩
          rw [c3] at h9
          refine cat_any (s9 _ _ h8) h9 (by rw [List.length_append]; show _ + 1 + _ ≤ sizeLine; omega) fun p H10 s10 h10 => ?_
          refine fin _ p H10 ((k48.trans (.of_same s9)).trans (.of_same s10)) ((((D6.mono s7).mono s8).mono (s9.trans s10)).more (by omega)) h10 (fun y hy => ?_) (by rw [List.length_append, List.length_append]; show _ + 1 + _ ≤ _; omega)
          rcases List.mem_append.mp hy with h | h
          · rcases List.mem_append.mp h with h | h
            · exact .inl (List.mem_of_mem_take h)
            · rw [List.mem_singleton.mp h]
              exact .inr px
          · exact .inl (List.mem_of_mem_drop h)
end
end FT


/-! xs.count(y), flat items -/
namespace L2
open PySem PySem.Spec PyProof.Rows
theorem countP_eqU {x : V} : ∀ {xs : List V} {us : List Value}, Vals xs us → xs.all flatV = true → us.countP (eqU x) = xs.countP fun y => eqV y x
  | _, _, .nil, _ => rfl
  | y :: xs, u :: us, .cons r t, f => by
    rw [List.all_cons, Bool.and_eq_true] at f
    rw [List.countP_cons, List.countP_cons, countP_eqU t f.2, eqU_of r f.1]
def rCntF (K : PySem.W.Frag) : V → List V → Hp → VK → Prop := fun x xs H Q => ∃ (a : Addr) (ys : List V) (y : V), x = .ref a ∧ xs = [y] ∧ SqL K H a ys ∧ flatV y = true ∧ ys.all flatV = true ∧ Q (.int ((ys.countP fun z => eqV z y : Nat) : Int)) H
variable {X : Cx}
theorem mt_countF : MtR X "list.count" (rCntF X.K) := by
  intro pins s σ H x xs v us Q I rx rxs ⟨a, ys, y, ex, exs, hs, fy, fys, q⟩
  subst ex
  subst exs
  cases rx
  match us, rxs with
  | [uy], .cons ry .nil =>
    obtain ⟨its, rv, ⟨⟨cls, dd, data, sl⟩, n, ho, hc, hdn, hd⟩, hlen⟩ := I.list hs
    simp only at hc hd
    subst hc hd
    refine call_meets PySem.F.slot_list_count ⟨_, ho, rfl⟩ PySem.F.entry_list_count (PySem.F.args_list_count_2 _ _)
      (SeqAt.list_countAt a its.toArray n dd sl uy (eqU y)) ⟨ho, fun u hu => mem_eqAt ry fy rv fys u (by simpa using hu), ?_⟩
    refine ⟨.int ((ys.countP fun z => eqV z y : Nat) : Int), H, I.tok _, ⟨s.toks, ?_⟩, q⟩
    show Value.int ((its.toArray.toList.countP (eqU y) : Nat) : Int) s.toks = Value.int ((ys.countP fun z => eqV z y : Nat) : Int) s.toks
    rw [show its.toArray.toList = its from rfl, countP_eqU rv fys]
end L2


/-! Own: a lambda handed to a def that calls it in a try: what is raised is wished for at the caller's very slots (the library's rule asks it for all slots). -/
namespace L2
open PySem PySem.Spec PyProof.Rows LamX
section
variable {X : Cx} {pins : List (Addr × Obj)} {σ : St} {H : Hp} {s : Shared}
theorem pe_actS {CXg : CXT} {Eg : XK} {Ng : List Str} {qg : Str} {sg : Scope} {g f c' : Addr} {cdg pm ctv : Value} {params : Arguments} {body : Expr} {scope : Scope} {k i : Nat} {a : Str} {pn : List (Addr × Obj)} {xe : Value → Shared → Prop} {W : WX} {tb : XK → TE} {p1 p2 : Pos}
    (I : Inv X pins σ H s) (L : LamS X.env.scope scope) (here : s.heap.get? f = some (PySem.W.kla_obj "<lambda>" (X.env.qual ++ "<lambda>") params body scope (cloFrom X.env.cells scope.names []) pm c' ctv)) (fno : H f = none) (ffr : f ∉ frs X.stack)
    (bd : bindArgs (PySem.W.kla_fn "<lambda>" (X.env.qual ++ "<lambda>") params body scope (cloFrom X.env.cells scope.names []) pm (.ref c') ctv) ⟨[], []⟩ = pure []) (tk : Takes ((cxOf CXg X.prog X.w X.K X.mg X.base Ng qg sg g cdg X.A X.stack s H Eg).tr pn xe) W)
    (room : Room (k + 1) (X.A.deeper (envOfC qg sg s.heap.objs.size g cdg))) (walk : ∀ (A : Around) (outer : List Env) (s : Shared) (H : Hp) (E : XK), Room k (A.deeper (lamEnv X scope s.heap.objs.size f c')) → PE (lamCx X A outer s H E scope f c') body (tb E))
    (hN : Ng[i]? = some a) (hv : Vis sg a) (hd : (a == ("__debug__" : Str)) = false := by decide) (hcd : (a == ("__classdict__" : Str)) = false := by decide) :
    PE ((cxOf CXg X.prog X.w X.K X.mg X.base Ng qg sg g cdg X.A X.stack s H Eg).tr pn xe) (.Call (.Name a p1) [] [] p2)
      (fun τ HZ Q => ∃ (Ech : XK) (Qn : VK), (∀ cls d H', Ech cls d H' → W cls d τ H') ∧ (∀ v H', Qn v H' → Q v H') ∧ τ[i]? = some (some (.ref f)) ∧ HZ c' = some (CodeO c' (X.env.qual ++ "<lambda>")) ∧ tb Ech σ HZ Qn) := by
  constructor
  intro pz sz τ HZ Q IZ ⟨Ech, Qn, imp, impQ, slot, code, want⟩
  refine wpAny_Call_Name_kw (thn ((pe_var (pos := p1) (i := i) hN hv hd hcd).run pz sz τ HZ (fun v H1 => v = .ref f ∧ H1 = HZ) IZ ⟨.ref f, slot, rfl, rfl⟩) fun u s1 ⟨v, H1, I1, r1, ev, eH⟩ => ?_)
  subst ev
  subst eH
  cases (show u = Value.ref f from r1)
  have still : s1.heap.get? f = some (PySem.W.kla_obj "<lambda>" (X.env.qual ++ "<lambda>") params body scope (cloFrom X.env.cells scope.names []) pm c' ctv) := I1.base.keep f _ here fno ffr (by simp [cxOf, Cx.tr])
  have grown : Un (frs X.stack) [] H H1 s.heap s1.heap := I1.base
  obtain ⟨⟨oc, ws, t, e1, e2, e3⟩, _, _⟩ := I1.hok c' _ code
  refine PySem.W.callWith_F0 ⟨_, _, _, _, still⟩ (wpAny_call (codeAny_mono (R := CR (L2.CX X.prog X.w) (envOfC qg sg s.heap.objs.size g cdg :: X.stack) X.prog X.w H1 s1 Qn Ech) ?_ fun r s' z => ?_))
  · show codeAny _ _ (.call (.ref f) ⟨[], []⟩) _ s1
    refine PySem.W.kla_callFunE room.depth still rfl L.co L.gen rfl ⟨c', oc, ws, t, rfl, e1, e2, e3⟩ ?_
    rw [bd]
    refine wpAny_pure (wpAny_newFunctionEnv (fun y hy => (L.own y hy).2) (fun y hy => absurd hy (by simp)) (fun h₁ ns sb => ⟨I1.nolimit.fresh _ sb, ?_⟩) L.kind)
    have kp : ∀ b o, s1.heap.get? b = some o → h₁.get? b = some o := fun b o e => sb.extBut b o (Nat.ne_of_lt (Heap.lt_size e)) (Heap.get?_push_of_some _ e)
    have J : Inv (lamCx X (X.A.deeper (envOfC qg sg s.heap.objs.size g cdg)) (envOfC qg sg s.heap.objs.size g cdg :: X.stack) s1 H1 Ech scope f c') [] σ H1 { s1 with heap := h₁, toks := s1.toks + ([] : List (Str × Value)).length } := lam_start2 I L I1.env0 room.hd grown ns kp
    exact PySem.W.kla_codeExpr (wpAny_mono ((walk _ _ s1 H1 _ (room.deeper _)).run [] _ _ H1 Qn J want) (fun v s' ⟨w, H', J', rv, q⟩ => ⟨w, H', J'.os, J'.bare, J'.base, J'.hok, rv, q⟩) fun _ _ z => z)
  · match r, z with
    | .error e, z => exact tk e s' (XE.of_call I1 (fun cls d H' h => imp cls d H' h) z)
    | .ok (.ret u), z =>
      obtain ⟨v, H2, J2, rv, q⟩ := I1.after z
      exact ⟨v, H2, J2, rv, impQ v H2 q⟩
    | .ok .next, z => exact z.elim
    | .ok .brk, z => exact z.elim
    | .ok .cont, z => exact z.elim
end
/-- the def that calls what it got, in its slot 0 -/
def GivesS (X : Cx) (Ng : List Str) (x : Str) (sg : Scope) (g : Addr) (cdg : Value) (bg : List Stmt) (a : Str) (q : Str) (TT : (XK → Hp → VK → Prop) → Hp → VK → Prop) : Prop :=
  ∀ (f c' : Addr) (s : Shared) (H : Hp) (Q : VK) (tl : XK → Hp → VK → Prop),
    (∀ (W : WX) (pn : List (Addr × Obj)) (xe : Value → Shared → Prop) (p1 p2 : Pos), Takes ((cxOf C8.CX0 X.prog X.w X.K X.mg X.base Ng x sg g cdg X.A X.stack s H C8.E0).tr pn xe) W →
      PE ((cxOf C8.CX0 X.prog X.w X.K X.mg X.base Ng x sg g cdg X.A X.stack s H C8.E0).tr pn xe) (.Call (.Name a p1) [] [] p2) (fun τ HZ Q => ∃ (Ech : XK) (Qn : VK), (∀ cls d H', Ech cls d H' → W cls d τ H') ∧ (∀ v H', Qn v H' → Q v H') ∧ τ[0]? = some (some (.ref f)) ∧ HZ c' = some (CodeO c' q) ∧ tl Ech HZ Qn)) →
    H c' = some (CodeO c' q) → TT tl H Q → ∃ t, PSs (cxOf C8.CX0 X.prog X.w X.K X.mg X.base Ng x sg g cdg X.A X.stack s H C8.E0).nox bg t ∧ t { nx := fun _ H' => Q .non H', rt := Q } (L2.start Ng [.ref f]) H
/-- x(lambda: body), x such a def -/
theorem pe_lamS {X : Cx} {T : List (Addr × Str)} {TT : (XK → Hp → VK → Prop) → Hp → VK → Prop} {x a : Str} {g c P : Addr} {k : Nat} {st : Stmt} {fd : FuncData} {Ng : List Str} {params : Arguments} {body : Expr} {scope : Scope} {t : XK → TE} {p lpos pos : Pos} (hg : Gl X x) (hm : X.mg x = some (.ref g))
    (F : Fun X.K x x st g fd) (hb : Binds X.K fd [a] []) (Sg : FnScope Ng [a] (defScope st)) (hNg : Ng[0]? = some a) (hva : Vis (defScope st) a) (gives : ∀ cdg, GivesS X Ng x (defScope st) g cdg (defBody st) a (X.env.qual ++ "<lambda>") TT)
    (TB : TabB X.base X.mg c P) (code : X.env.code = .ref c) (mT : (P, X.env.qual ++ "<lambda>") ∈ T) (uT : ∀ p ∈ T, p.1 = P → p.2 = X.env.qual ++ "<lambda>") (room : Room (k + 2) X.A) (L : LamS X.env.scope scope) (dfl : defaultsOf params X.env = ([], []))
    (bd : ∀ (q : Str) (cl : List (Str × Addr)) (pm cv ctv : Value), bindArgs (PySem.W.kla_fn "<lambda>" q params body scope cl pm cv ctv) ⟨[], []⟩ = pure [])
    (walk : ∀ (A : Around) (outer : List Env) (s : Shared) (H : Hp) (E : XK) (f c' : Addr), Room k (A.deeper (lamEnv X scope s.heap.objs.size f c')) → PE (lamCx X A outer s H E scope f c') body (t E))
    (hdb : (x == ("__debug__" : Str)) = false := by decide) (hd : (a == ("__debug__" : Str)) = false := by decide) (hcd : (a == ("__classdict__" : Str)) = false := by decide) : PE X (.Call (.Name x p) [.Lambda params body scope lpos] [] pos) (tLam T TT t) := by
  constructor
  intro pins s σ H Q I ⟨hT, want⟩
  refine wpAny_Call_Name_kw (ld_glob I hg hm ?_ hdb)
  refine PySem.W.callWith_K (h₀ := X.base) I.ok.mod.kin F.kp (pos := pos) ?_ (by rfl) (by rfl)
  show wpAny _ _ (spliced ((false, eval (.Lambda params body scope lpos) X.env) :: backTo pos (starEach [] X.env))) _ _ s
  refine Calls.spliced_cons (lam_make2 I TB code mT uT hT dfl (L.has I.ok) fun f c' pm' ctv H1 s' I1 eN T1 of fn fr co => Calls.spliced_nil ⟨I1.kIn, wpAny_call (codeAny_mono (R := CR C8.CX0 X.stack X.prog X.w H1 s' Q C8.E0) ?_ fun r s2 z => ?_)⟩)
  · obtain ⟨oc, od, kV, doc, pm, an, cdv, ct, osl, rfl, lk, cin⟩ := F.ex
    refine run_ofS (N := Ng) (ps := [a]) (us := [.ref f]) (vs := [.ref f]) lk cin Sg room I1.env0 (hb s' [.ref f] I1.kIn rfl) (.cons rfl .nil) rfl fun room' => ?_
    obtain ⟨t', term, q⟩ := gives cdv f c' s' H1 Q (fun E H' Q' => t E σ H' Q') (fun W pn xe p1 p2 tk => pe_actS (i := 0) I1 L of fn fr (bd _ _ _ _ _) tk room' (fun A outer s H E hr2 => walk A outer s H E f c' hr2) hNg hva hd hcd) co (want H1 eN T1)
    exact ⟨t', term.nox, q⟩
  · match r, z with
    | .error e, z => exact (show False from z).elim
    | .ok (.ret u), z => exact I1.after z
    | .ok .next, z => exact z.elim
    | .ok .brk, z => exact z.elim
    | .ok .cont, z => exact z.elim
end L2


/-! isinstance of an exception of an own class, by a tuple of classes -/
namespace L2
open PySem PySem.Spec PyProof.Rows
section
variable {X : Cx}
def rIsXT (K : PySem.W.Frag) : List V → Hp → VK → Prop := fun xs H Q => ∃ (a C : Addr) (fs : List (Str × V)) (tp : Addr) (cs : List V) (ws : List Value) (b : Bool), xs = [.ref a, .ref tp] ∧ H tp = some (.tup cs) ∧ Paired ClsV cs ws ∧ XCls K C ∧ XV H a C fs ∧ PySem.W.kitAny K (.ref C) ws = some b ∧ Q (.bl b) H
theorem call_isXT : CallR X (.builtin "isinstance") (rIsXT X.K) := by
  intro pins s σ H xs us Q I r h
  obtain ⟨a, C, fs, tp, cs, ws, b, rfl, hT, k, T, xv, e, q⟩ := h
  obtain ⟨u1, u2, rfl, r1, r2⟩ := vals2 r
  cases (show u2 = Value.ref tp from r2)
  obtain rfl : u1 = Value.ref a := r1
  obtain ⟨ox, od, J⟩ := xv.inst I.hok
  have hcl : (PySem.W.clsIn X.K C).isSome = true := by
    obtain ⟨cd, hc, _⟩ := PySem.W.any_some T.hdC
    rw [hc] <;> rfl
  obtain ⟨_, its, rv, o, h1, h2, n, h3⟩ := (show ObjOk X.prog X.w H s.heap tp (.tup cs) from I.hok tp _ hT)
  have e3 := ClsV.all k rv
  subst e3
  obtain ⟨oc, od2, dt, sl⟩ := o
  simp only at h2 h3
  subst h2 h3
  exact PySem.W.kia_tup (PySem.W.kitx_exc hcl T.ga T.gg T.exC T.ha T.hn T.ht T.hm) I.kIn J h1 e (fun z => nomatch z) fun tk => ⟨.bl b, H, I.tok tk, rfl, q⟩
end
end L2


/-! _law_error of family D: what it makes of a lambda that may raise InvalidPin -/
namespace FT
open PySem L2 TL ClX LamX NdefX
def cn18 (i : Nat) : Str := (["InvalidForest", "UnknownName", "InvalidUsers", "InvalidSizes", "InvalidPlace", "NotBest", "UnknownUser", "Mismatch", "InvalidNumber", "InvalidLists", "NeedsMemory", "TooMany", "InvalidLimits", "InvalidPin", "Crowded", "InvalidCommand", "InvalidJournal", "InvalidText"] : List Str).getD i ""
/-- the index of an InvalidPin, told; or None -/
def TErrD (CI : Addr) : (XK → Hp → VK → Prop) → Hp → VK → Prop := fun tl H Q =>
  tl (fun cls d H' => cls = .ref CI ∧ (∃ dd, d = some dd ∧ H' dd = some (.xd [("index", .int 0)])) ∧ ∀ p H'', Same H' H'' → H' p = none → H'' p = some (.tup [.str "pin", .str (PyData.int 0).shown]) → Q (.ref p) H'') H fun _ H' => ∀ H'', Same H' H'' → Q .non H''
structure Cl18 (K : PySem.W.Frag) (mg : Str → Option Value) (R : Addr) (C : Nat → Addr) : Prop where
  gR : mg "RolloutError" = some (.ref R)
  g : ∀ i, i < 18 → mg (cn18 i) = some (.ref (C i))
  x : XCls K (C 13)
  kit : ∀ j, j < 18 → PySem.W.kitOne K (.ref (C 13)) (.ref (C j)) = some (decide (13 = j))
  kitV : PySem.W.kitOne K (.ref (C 13)) (.type "ValueError") = some true
  te : PySem.W.exmOne K (.ref (C 13)) (.ref R) = some true
  no : PySem.W.findIn K (.ref (C 13)) "index" = some none
theorem XV_monoD {H H' : Hp} {a C : Addr} {fs : List (Str × V)} (s : Same H H') (x : XV H a C fs) : XV H' a C fs := by
  rcases x with ⟨x, e⟩ | ⟨dx, x, y⟩
  · exact .inl ⟨x.elim (fun q => .inl (s _ _ q)) (fun q => .inr (s _ _ q)), e⟩
  · exact .inr ⟨dx, x.elim (fun q => .inl (s _ _ q)) (fun q => .inr (s _ _ q)), y.elim (fun q => .inl (s _ _ q)) (fun q => .inr (s _ _ q))⟩
theorem cat_segD {H : Hp} {l : Addr} {xs ys : List V} {Q : VK} (hl : H l = some (.lst xs)) (few : xs.length + ys.length ≤ 1000) (k : ∀ p H', Same H H' → H p = none → H' p = some (.lst (xs ++ ys)) → Q (.ref p) H') :
    ys.length ≤ sizeLine ∧ ∀ q, H q = none → rCat (.ref l) (.ref q) (upd H q (.lst ys)) Q := by
  have big : 1000 ≤ sizeLine := by decide
  refine ⟨by omega, fun q nq => ⟨l, q, xs, ys, rfl, rfl, by rw [upd_ne (ne_of_none hl nq)]; exact hl, upd_same, by omega, fun p np => ?_⟩⟩
  have s1 := same_new (o := .lst ys) nq
  exact k p _ (s1.trans (same_new np)) (s1.free np) upd_same
def marks18 : List V := (List.range 18).map fun j => .bl (decide (13 = j))
abbrev NErD : List Str := ["_law_work", "_law_caught", "e", "_law_marks"]
theorem scErD : FnScope NErD ["_law_work"] (defScope s__law_error) := ⟨rfl, rfl, rfl, by decide +kernel, rfl, by decide +kernel, by decide +kernel⟩
theorem isi_rdD {K : PySem.W.Frag} {σ : St} {H : Hp} {a Ci D : Addr} {fs : List (Str × V)} {b : Bool} {Q : VK} (h0 : σ[1]? = some (some (.ref a))) (X : XCls K Ci) (xv : XV H a Ci fs) (kit : PySem.W.kitOne K (.ref Ci) (.ref D) = some b) (q : Q (.bl b) H) :
    tCB (rIsX K) (tCons (tVar 1) (tCons (tC (.ref D)) tNil)) σ H Q := ⟨_, h0, a, Ci, fs, .ref D, _, b, rfl, .own _, X, xv, kit, q⟩
theorem error_givesD {X : Cx} {g R : Addr} {C : Nat → Addr} {cdg : Value} {q : Str} (N : Nm X.mg) (L : Cl18 X.K X.mg R C) (clr : Clr X.A) (hu : X.A.units + 100 < cLine) : GivesS X NErD "_law_error" (defScope s__law_error) g cdg (defBody s__law_error) "_law_work" q (TErrD (C 13)) := by
  intro f c' s H Q tl act hc h
  have hu : (X.A.deeper (PyProof.Rows.envOfC "_law_error" (defScope s__law_error) s.heap.objs.size g cdg)).units + 64 < cLine := by
    show X.A.units + 3 + 64 < cLine
    omega
  refine ⟨_, pss_cons (ps_set (i := 1) scErD.nd rfl (.inl rfl) pe_non)
    (pss_cons (ps_try_keep (X := (cxOf C8.CX0 X.prog X.w X.K X.mg X.base NErD "_law_error" (defScope s__law_error) g cdg X.A X.stack s H C8.E0).nox) (c := .ref R) (i := 2)
      rfl rfl rfl scErD.nd rfl rfl ⟨rfl, by decide, .inl L.gR⟩ LamX.takes0 (fun W pn xe tk _ => pss_one (ps_expr (act W pn xe _ _ tk))) (fun a oe cls d pn hz hf => pss_one (ps_set (i := 1) scErD.nd rfl (.inl rfl) (pv 2))))
    (pss_cons (ps_if (pt_cmpR op_isN (pv 1) pe_non (nomark _)) (pss_one (ps_ret pe_non)) pss_nil)
    (pss_cons (ps_set (i := 3) scErD.nd rfl (.inl rfl) (pe_lst (pa_cons (pe_callB call_isX (by rfl) N.isi (by decide +kernel) (pa_cons (pv 1) (pa_cons (pe_glob (v := .ref (C 0)) rfl (L.g 0 (by decide)) rfl) pa_nil))) (pa_cons (pe_callB call_isX (by rfl) N.isi (by decide +kernel) (pa_cons (pv 1) (pa_cons (pe_glob (v := .ref (C 1)) rfl (L.g 1 (by decide)) rfl) pa_nil))) (pa_cons (pe_callB call_isX (by rfl) N.isi (by decide +kernel) (pa_cons (pv 1) (pa_cons (pe_glob (v := .ref (C 2)) rfl (L.g 2 (by decide)) rfl) pa_nil))) pa_nil)))))
    (pss_cons (ps_set (i := 3) scErD.nd rfl (.inl rfl) (pe_op op_cat (pv 3) (pe_lst (pa_cons (pe_callB call_isX (by rfl) N.isi (by decide +kernel) (pa_cons (pv 1) (pa_cons (pe_glob (v := .ref (C 3)) rfl (L.g 3 (by decide)) rfl) pa_nil))) (pa_cons (pe_callB call_isX (by rfl) N.isi (by decide +kernel) (pa_cons (pv 1) (pa_cons (pe_glob (v := .ref (C 4)) rfl (L.g 4 (by decide)) rfl) pa_nil))) pa_nil)))))
    (pss_cons (ps_set (i := 3) scErD.nd rfl (.inl rfl) (pe_op op_cat (pv 3) (pe_lst (pa_cons (pe_callB call_isX (by rfl) N.isi (by decide +kernel) (pa_cons (pv 1) (pa_cons (pe_glob (v := .ref (C 5)) rfl (L.g 5 (by decide)) rfl) pa_nil))) (pa_cons (pe_callB call_isX (by rfl) N.isi (by decide +kernel) (pa_cons (pv 1) (pa_cons (pe_glob (v := .ref (C 6)) rfl (L.g 6 (by decide)) rfl) pa_nil))) (pa_cons (pe_callB call_isX (by rfl) N.isi (by decide +kernel) (pa_cons (pv 1) (pa_cons (pe_glob (v := .ref (C 7)) rfl (L.g 7 (by decide)) rfl) pa_nil))) pa_nil))))))
    (pss_cons (ps_expr (pe_bm PySem.F.plainAttrs_list PySem.F.slot_list_append PySem.F.type_list_append mt_append (pv 3) (pa_cons (pe_callB call_isX (by rfl) N.isi (by decide +kernel) (pa_cons (pv 1) (pa_cons (pe_glob (v := .ref (C 8)) rfl (L.g 8 (by decide)) rfl) pa_nil))) pa_nil)))
    (pss_cons (ps_set (i := 3) scErD.nd rfl (.inl rfl) (pe_op op_cat (pv 3) (pe_lst (pa_cons (pe_callB call_isX (by rfl) N.isi (by decide +kernel) (pa_cons (pv 1) (pa_cons (pe_glob (v := .ref (C 9)) rfl (L.g 9 (by decide)) rfl) pa_nil))) (pa_cons (pe_callB call_isX (by rfl) N.isi (by decide +kernel) (pa_cons (pv 1) (pa_cons (pe_glob (v := .ref (C 10)) rfl (L.g 10 (by decide)) rfl) pa_nil))) (pa_cons (pe_callB call_isX (by rfl) N.isi (by decide +kernel) (pa_cons (pv 1) (pa_cons (pe_glob (v := .ref (C 11)) rfl (L.g 11 (by decide)) rfl) pa_nil))) pa_nil))))))
    (pss_cons (ps_set (i := 3) scErD.nd rfl (.inl rfl) (pe_op op_cat (pv 3) (pe_lst (pa_cons (pe_callB call_isX (by rfl) N.isi (by decide +kernel) (pa_cons (pv 1) (pa_cons (pe_glob (v := .ref (C 12)) rfl (L.g 12 (by decide)) rfl) pa_nil))) (pa_cons (pe_callB call_isX (by rfl) N.isi (by decide +kernel) (pa_cons (pv 1) (pa_cons (pe_glob (v := .ref (C 13)) rfl (L.g 13 (by decide)) rfl) pa_nil))) (pa_cons (pe_callB call_isX (by rfl) N.isi (by decide +kernel) (pa_cons (pv 1) (pa_cons (pe_glob (v := .ref (C 14)) rfl (L.g 14 (by decide)) rfl) pa_nil))) pa_nil))))))
    (pss_cons (ps_set (i := 3) scErD.nd rfl (.inl rfl) (pe_op op_cat (pv 3) (pe_lst (pa_cons (pe_callB call_isX (by rfl) N.isi (by decide +kernel) (pa_cons (pv 1) (pa_cons (pe_glob (v := .ref (C 15)) rfl (L.g 15 (by decide)) rfl) pa_nil))) (pa_cons (pe_callB call_isX (by rfl) N.isi (by decide +kernel) (pa_cons (pv 1) (pa_cons (pe_glob (v := .ref (C 16)) rfl (L.g 16 (by decide)) rfl) pa_nil))) pa_nil)))))
    (pss_cons (ps_set (i := 3) scErD.nd rfl (.inl rfl) (pe_op op_cat (pv 3) (pe_lst (pa_cons (pe_callB call_isX (by rfl) N.isi (by decide +kernel) (pa_cons (pv 1) (pa_cons (pe_glob (v := .ref (C 17)) rfl (L.g 17 (by decide)) rfl) pa_nil))) pa_nil))))
    (pss_cons (ps_if (PW.pt (pw_or (pt_cmpR op_ne (pe_bm PySem.F.plainAttrs_list PySem.F.slot_list_count PySem.F.type_list_count mt_countF (pv 3) (pa_cons pe_bl pa_nil)) pe_int (nomark _))
        (pw_or1 (pt_not (pt_val (pe_callB call_isX (by rfl) N.isi (by decide +kernel) (pa_cons (pv 1) (pa_cons (pe_bltn (v := .ty "ValueError") (u := .type "ValueError") (by rfl) N.vE (by decide +kernel) rfl) pa_nil)))))))) pss_never pss_nil)
    (pss_cons (ps_if (pt_val (pe_callB call_isXT (by rfl) N.isi (by decide +kernel) (pa_cons (pv 1) (pa_cons (pe_tup (pa_cons (pe_glob (v := .ref (C 0)) rfl (L.g 0 (by decide)) rfl) (pa_cons (pe_glob (v := .ref (C 1)) rfl (L.g 1 (by decide)) rfl) pa_nil))) pa_nil)))) pss_never pss_nil)
    (pss_cons (ps_if (pt_val (pe_callB call_isX (by rfl) N.isi (by decide +kernel) (pa_cons (pv 1) (pa_cons (pe_glob (v := .ref (C 3)) rfl (L.g 3 (by decide)) rfl) pa_nil)))) pss_never pss_nil)
    (pss_cons (ps_if (pt_val (pe_callB call_isXT (by rfl) N.isi (by decide +kernel) (pa_cons (pv 1) (pa_cons (pe_tup (pa_cons (pe_glob (v := .ref (C 13)) rfl (L.g 13 (by decide)) rfl) (pa_cons (pe_glob (v := .ref (C 15)) rfl (L.g 15 (by decide)) rfl) (pa_cons (pe_glob (v := .ref (C 16)) rfl (L.g 16 (by decide)) rfl) pa_nil)))) pa_nil)))) (pss_one (ps_ret (pe_tup (pa_cons (pe_ix ix_list (pe_lst (pa_cons pe_str (pa_cons pe_str (pa_cons pe_str (pa_cons pe_str pa_nil))))) (pe_op op_sub (pe_bm PySem.F.plainAttrs_list PySem.F.slot_list_index PySem.F.type_list_index mt_index (pv 3) (pa_cons pe_bl pa_nil)) pe_int) (fun _ _ => rfl))
      (pa_cons (pe_callB (call_repr clr.deeper hu) (by rfl) N.rep (by decide +kernel) (pa_cons (pe_xfld (pv 1)) pa_nil)) pa_nil))))) pss_nil)
    pss_never)))))))))))))), ?_⟩
  have big : 1000 ≤ sizeLine := by decide
  refine ⟨_, _, fun cls d H' z => ?_, fun v H' z => ?_, rfl, hc, h⟩
  · obtain ⟨rfl, ⟨dd, rfl, hdd⟩, k⟩ := z
    refine ⟨true, C 13, rfl, L.te, fun _ a ha => ⟨_, rfl, ?_⟩, fun z => nomatch z⟩
    obtain ⟨H2, e2⟩ : ∃ X, X = upd H' a (exg a (C 13) (some dd)) := ⟨_, rfl⟩
    have s2 : Same H' H2 := e2 ▸ same_new ha
    have xv : XV H2 a (C 13) [("index", .int 0)] := .inr ⟨dd, .inr (by rw [e2]; exact upd_same), .inr (s2 _ _ hdd)⟩
    subst e2
    have Xi := L.x
    refine ⟨_, rfl, rfl, _, rfl, iteF ?_⟩
    refine (isi_rdD rfl Xi xv (L.kit 0 (by decide)) (isi_rdD rfl Xi xv (L.kit 1 (by decide)) (isi_rdD rfl Xi xv (L.kit 2 (by decide)) ⟨by show 3 ≤ sizeLine; omega, fun p0 n0 => ?_⟩)))
    have a0 := upd_same (H := upd H' a (exg a (C 13) (some dd))) (a := p0) (o := .lst ([V.bl (decide (13 = 0)), V.bl (decide (13 = 1)), V.bl (decide (13 = 2))] : List V))
    have S0 := same_new (o := .lst ([V.bl (decide (13 = 0)), V.bl (decide (13 = 1)), V.bl (decide (13 = 2))] : List V)) n0
    have x0 := XV_monoD S0 xv
    refine ⟨_, rfl, (isi_rdD rfl Xi x0 (L.kit 3 (by decide)) (isi_rdD rfl Xi x0 (L.kit 4 (by decide)) (cat_segD a0 (by show 3 + 2 ≤ 1000; omega) fun p1 H4 s4 n1 a1 => ?_)))⟩
    have S1 := S0.trans s4
    have x1 := XV_monoD S1 xv
    refine ⟨_, rfl, (isi_rdD rfl Xi x1 (L.kit 5 (by decide)) (isi_rdD rfl Xi x1 (L.kit 6 (by decide)) (isi_rdD rfl Xi x1 (L.kit 7 (by decide)) (cat_segD a1 (by show 5 + 3 ≤ 1000; omega) fun p2 H5 s5 n2 a2 => ?_))))⟩
    have S2 := S1.trans s5
    have x2 := XV_monoD S2 xv
    have f2 : (upd H' a (exg a (C 13) (some dd))) p2 = none := S1.free n2
    refine ⟨_, rfl, .inl ⟨rfl, _, SqL.of a2⟩, (isi_rdD rfl Xi x2 (L.kit 8 (by decide)) ⟨p2, _, _, rfl, rfl, a2, (by show 8 < sizeLine; omega), ?_⟩)⟩
    obtain ⟨H6, e6⟩ : ∃ X, X = upd H5 p2 (.lst ((([V.bl (decide (13 = 0)), V.bl (decide (13 = 1)), V.bl (decide (13 = 2))] ++ [V.bl (decide (13 = 3)), V.bl (decide (13 = 4))]) ++ [V.bl (decide (13 = 5)), V.bl (decide (13 = 6)), V.bl (decide (13 = 7))]) ++ [V.bl (decide (13 = 8))] : List V)) := ⟨_, rfl⟩
    have a3 : H6 p2 = some (.lst ([V.bl (decide (13 = 0)), V.bl (decide (13 = 1)), V.bl (decide (13 = 2)), V.bl (decide (13 = 3)), V.bl (decide (13 = 4)), V.bl (decide (13 = 5)), V.bl (decide (13 = 6)), V.bl (decide (13 = 7)), V.bl (decide (13 = 8))] : List V)) := by rw [e6]; exact upd_same
    have S3 : Same (upd H' a (exg a (C 13) (some dd))) H6 := by rw [e6]; exact S2.put f2
    have x3 := XV_monoD S3 xv
    rw [← e6]
    clear e6
    refine ⟨_, rfl, (isi_rdD rfl Xi x3 (L.kit 9 (by decide)) (isi_rdD rfl Xi x3 (L.kit 10 (by decide)) (isi_rdD rfl Xi x3 (L.kit 11 (by decide)) (cat_segD a3 (by show 9 + 3 ≤ 1000; omega) fun p4 H7 s7 n4 a4 => ?_))))⟩
    have S4 := S3.trans s7
    have x4 := XV_monoD S4 xv
    refine ⟨_, rfl, (isi_rdD rfl Xi x4 (L.kit 12 (by decide)) (isi_rdD rfl Xi x4 (L.kit 13 (by decide)) (isi_rdD rfl Xi x4 (L.kit 14 (by decide)) (cat_segD a4 (by show 12 + 3 ≤ 1000; omega) fun p5 H8 s8 n5 a5 => ?_))))⟩
    have S5 := S4.trans s8
    have x5 := XV_monoD S5 xv
    refine ⟨_, rfl, (isi_rdD rfl Xi x5 (L.kit 15 (by decide)) (isi_rdD rfl Xi x5 (L.kit 16 (by decide)) (cat_segD a5 (by show 15 + 2 ≤ 1000; omega) fun p6 H9 s9 n6 a6 => ?_)))⟩
    have S6 := S5.trans s9
    have x6 := XV_monoD S6 xv
    refine ⟨_, rfl, (isi_rdD rfl Xi x6 (L.kit 17 (by decide)) (cat_segD a6 (by show 17 + 1 ≤ 1000; omega) fun p7 H10 s10 n7 a7 => ?_))⟩
    have S7 := S6.trans s10
    have x7 := XV_monoD S7 xv
    have a7 : H10 p7 = some (.lst marks18) := a7
    refine ⟨_, rfl, .inl ⟨rfl, _, SqL.of a7⟩, p7, marks18, .bl true, rfl, rfl, SqL.of a7, rfl, rfl, rfl, _, rfl, ?_⟩
    have cnt : marks18.countP (fun z => eqV z (.bl true)) = 1 := rfl
    rw [cnt]
    refine iteF ?_
    refine ⟨_, rfl, a, C 13, _, .ty "ValueError", .type "ValueError", true, rfl, .ty _, Xi, x7, L.kitV, true, rfl, iteF ?_⟩
    have k0 : PySem.W.kitOne X.K (.ref (C 13)) (.ref (C 0)) = some false := L.kit 0 (by decide)
    have k1 : PySem.W.kitOne X.K (.ref (C 13)) (.ref (C 1)) = some false := L.kit 1 (by decide)
    have k13 : PySem.W.kitOne X.K (.ref (C 13)) (.ref (C 13)) = some true := L.kit 13 (by decide)
    refine ⟨_, rfl, by show 2 ≤ sizeLine; omega, fun t1 nt1 => ?_⟩
    have u1 := same_new (o := .tup ([.ref (C 0), .ref (C 1)] : List V)) nt1
    refine ⟨a, C 13, _, t1, _, _, false, rfl, upd_same, .cons (.own _) (.cons (.own _) .nil), Xi, XV_monoD u1 x7, kitAny_cons k0 (fun _ => kitAny_cons k1 (fun _ => kitAny_nil) fun z => nomatch z) (fun z => nomatch z), _, rfl, iteF ?_⟩
    refine isi_rdD rfl Xi (XV_monoD u1 x7) (L.kit 3 (by decide)) ⟨_, rfl, iteF ?_⟩
    refine ⟨_, rfl, by show 3 ≤ sizeLine; omega, fun t2 nt2 => ?_⟩
    have u2 := same_new (o := .tup ([.ref (C 13), .ref (C 15), .ref (C 16)] : List V)) nt2
    have U2 := u1.trans u2
    refine ⟨a, C 13, _, t2, _, _, true, rfl, upd_same, .cons (.own _) (.cons (.own _) (.cons (.own _) .nil)), Xi, XV_monoD U2 x7, kitAny_cons k13 (fun z => nomatch z) (fun _ => rfl), _, rfl, iteT ?_⟩
    refine ⟨by show 4 ≤ sizeLine; omega, fun pl npl => ?_⟩
    have u3 := same_new (o := .lst ([.str "pin", .str "crowded", .str "command", .str "journal"] : List V)) npl
    have U3 := U2.trans u3
    have x8 := XV_monoD U3 x7
    have m1 : marks18[13]? = some (V.bl true) := rfl
    have m2 : ∀ (m : Nat) (z' : V), m < 13 → marks18[m]? = some z' → eqV z' (.bl true) = false := fun m z' lt h => by
      have all : ∀ m, m < 13 → marks18[m]? = some (V.bl false) := by
        intro m hm
        have : m = 0 ∨ m = 1 ∨ m = 2 ∨ m = 3 ∨ m = 4 ∨ m = 5 ∨ m = 6 ∨ m = 7 ∨ m = 8 ∨ m = 9 ∨ m = 10 ∨ m = 11 ∨ m = 12 := by omega
        rcases this with rfl | rfl | rfl | rfl | rfl | rfl | rfl | rfl | rfl | rfl | rfl | rfl | rfl <;> rfl
      rw [all m lt] at h
      cases h
      rfl
    refine ⟨_, rfl, .inl ⟨rfl, _, SqL.of (U3 _ _ a7)⟩, p7, marks18, .bl true, 13, .bl true, rfl, rfl, SqL.of (U3 _ _ a7), rfl, rfl, m1, rfl, m2, _, _, rfl, rfl, pl, _, _, .str "pin", rfl, rfl, SqL.of upd_same, (show atI _ (((13 : Nat) : Int) - 13) = _ from atI_nat (j := 0) rfl), ?_⟩
    refine ⟨_, rfl, a, C 13, _, .int 0, rfl, x8, Xi, L.no, rfl, _, .int 0, rfl, .inl ⟨.int 0, rfl⟩, rfl, by decide, by decide +kernel, ?_⟩
    refine ⟨by show 2 ≤ sizeLine; omega, fun r nr => ?_⟩
    exact k r _ (((s2.trans S7).trans U3).trans (same_new nr)) (((s2.trans S7).trans U3).free nr) upd_same
  · exact ⟨_, rfl, rfl, _, rfl, iteT (z H' (fun _ _ e => e))⟩
end FT


/-! _law_allowed_right -/
namespace FT
open PySem L2 TL ClX LiI
theorem pe_any3 {X : Cx} {e : Expr} {t : Nat → TE} (h : ∀ i, i < 3 → PE X e (t i)) : PE X e (fun σ H Q => ∃ i, i < 3 ∧ t i σ H Q) := ⟨fun pins s σ H Q I ⟨i, hi, q⟩ => (h i hi).run pins s σ H Q I q⟩
def rev3 {α : Type} : List α → List α
  | [a, b, c] => [c, b, a]
  | l => l
theorem vals_rev3 {vs : List V} {us : List Value} (r : Vals vs us) : Vals (rev3 vs) (rev3 us) := by
  match vs, us, r with
  | [], _, .nil => exact .nil
  | [_], _, .cons a .nil => exact .cons a .nil
  | [_, _], _, .cons a (.cons b .nil) => exact .cons a (.cons b .nil)
  | [_, _, _], _, .cons a (.cons b (.cons c .nil)) => exact .cons c (.cons b (.cons a .nil))
  | _ :: _ :: _ :: _ :: _, _, .cons a (.cons b (.cons c (.cons d t))) => exact .cons a (.cons b (.cons c (.cons d t)))
/-- a method called by three keywords, in the other order -/
theorem kwM3 {K : PySem.W.Frag} {x qual b1 b2 b3 : Str} {st : Stmt} {f : Addr} {fd : FuncData} {ps : List Str} (F : L2.Fun K x qual st f fd)
    (h : ∀ (kV doc pm : Value) (an : Option Addr) (cdv ct u v1 v2 v3 : Value), bindArgs (PySem.W.fnOf x qual (defArgs st) (defBody st) (defScope st) .none kV doc pm an cdv ct) ⟨[u], [(b1, v1), (b2, v2), (b3, v3)]⟩ = pure (ps.zip [u, v3, v2, v1])) :
    KBn K fd ps 1 [b1, b2, b3] (fun us ws => us ++ rev3 ws) (fun vs zs => vs ++ rev3 zs) := by
  obtain ⟨oc, od, kV, doc, pm, an, cdv, ct, osl, rfl, lk, hcd⟩ := F.ex
  refine ⟨fun s us ws _ h1 h2 => ?_, fun r r' => r.append (vals_rev3 r')⟩
  match us, ws, h1, h2 with
  | [u], [v1, v2, v3], _, _ => exact .of_eq (h kV doc pm an cdv ct u v1 v2 v3)
/-- the method allows of each class -/
structure AlF (P : Program) (w : World) (K : PySem.W.Frag) (mg : Str → Option Value) (base : Heap) (C : Nat → Addr) (g : Nat → Addr) (fd : Nat → FuncData) : Prop where
  mt : ∀ i, i < 3 → Meth K (C i) "allows" (g i)
  fn : ∀ i, i < 3 → FnOk P w K mg base CX0 1 (g i) (fd i) ["self", "path", "goal", "flags"] (spAllow K C i)
  bn : ∀ i, i < 3 → Binds K (fd i) ["self", "path", "goal", "flags"] []
  kw : ∀ i, i < 3 → KBn K (fd i) ["self", "path", "goal", "flags"] 1 ["flags", "goal", "path"] (fun us ws => us ++ rev3 ws) (fun vs zs => vs ++ rev3 zs)
def spAllR (C : Nat → Addr) : Sp := fun vs H Q _ => ∃ (x r q1 q2 : Addr) (p : PinV) (t1 t2 : List (Str × Str)), vs = [.ref x, .ref r, .ref q1, .ref q2] ∧ PnAt C H x p ∧ H r = some (.tup p.tv) ∧ p.Ok ∧ H q1 = some (.dK (prs t1)) ∧ TreeOk t1 ∧ H q2 = some (.dK (prs t2)) ∧ TreeOk t2 ∧ ∀ H', Same H H' → Q (.bl true) H'
theorem path_strL {t : List (Str × Str)} (o : TreeOk t) {a : Str} (h : Pl t a) : StrL (pathOf t a) :=
  ⟨fun z hz => strOk_name (o.nm z (path_all o h z hz)), by have := path_len t a; have := o.few; omega⟩
theorem fs_no (p : PinV) : p.fs.lookup ("allows" : Str) = none := by cases p <;> rfl
section
variable {P : Program} {w : World} {K : PySem.W.Frag} {mg : Str → Option Value} {base : Heap}
abbrev NAr : List Str := ["_law_pin_here", "_law_told", "_law_parents_here", "_law_web", "_law_one", "_law_other", "_law_here", "_law_there", "_law_due"]
theorem scAr : FnScope NAr ["_law_pin_here", "_law_told", "_law_parents_here", "_law_web"] (defScope s__law_allowed_right) := ⟨rfl, rfl, rfl, by decide +kernel, rfl, by decide +kernel, by decide +kernel⟩
theorem ok_allR {f fPl fPt fA CP fE : Addr} {C g : Nat → Addr} {fd fdPl fdPt fdA : FuncData} {fdi : Nat → FuncData} (F : Fun K "_law_allowed_right" "_law_allowed_right" s__law_allowed_right f fd) (N : Nm mg) (L : PnF K mg CP C fE) (AL : AlF P w K mg base C g fdi)
    (DPl : Dn P w K mg base CX0 1 "_law_places" ["_law_parents_here"] spPlacesD fPl fdPl) (DPt : Dn P w K mg base CX0 13 "_law_path" ["_law_parents_here", "_law_spot"] spPathDX fPt fdPt) (DA : Dn P w K mg base CX0 1 "_law_allows" ["_law_told", "_law_here", "_law_there", "_law_known"] (spLawAl K) fA fdA) :
    FnG P w K mg base CX0 14 f fd ["_law_pin_here", "_law_told", "_law_parents_here", "_law_web"] (spAllR C) := by
  refine F.okG scAr (fun vs H Q E h => ?_) (fun cdv A outer s H vs Q E clr hr h => ?_)
  · obtain ⟨x, r, q1, q2, p, t1, t2, rfl, _⟩ := h
    rfl
  · obtain ⟨x, r, q1, q2, p, t1, t2, rfl, hp, hr', ok, h1, o1, h2, o2, k⟩ := h
    have hr1 : Room 1 _ := hr.mono (by decide)
    have nd := scAr.nd
    have big : 1000 ≤ sizeLine := by decide
    refine ⟨_, pss_cons (ps_for PassesOwn.never rfl (pi_list (pe_call DPl.ok hr1 rfl DPl.mgn DPl.kp DPl.bn .nil pass0 (pa_cons (pv 2) pa_nil))) (pg_name (i := 4) nd rfl (.inl rfl))
        (pss_one (ps_for PassesOwn.never rfl (pi_list (pe_call DPl.ok hr1 rfl DPl.mgn DPl.kp DPl.bn .nil pass0 (pa_cons (pv 3) pa_nil))) (pg_name (i := 5) nd rfl (.inl rfl))
          (pss_cons (ps_par (i := 6) (j := 7) rfl nd rfl rfl (by decide) rfl rfl (pa_cons (pe_call DPt.ok hr rfl DPt.mgn DPt.kp DPt.bn .nil pass0 (pa_cons (pv 2) (pa_cons (pv 4) pa_nil))) (pa_cons (pe_call DPt.ok hr rfl DPt.mgn DPt.kp DPt.bn .nil pass0 (pa_cons (pv 3) (pa_cons (pv 5) pa_nil))) pa_nil)) (by rfl))
          (pss_cons (ps_set (i := 8) nd rfl (.inl rfl) (pe_call DA.ok hr1 rfl DA.mgn DA.kp DA.bn .nil pass0 (pa_cons (pv 1) (pa_cons (pv 6) (pa_cons (pv 7) (pa_cons (pe_callB (call_sortedD rfl) (by rfl) N.srt (by decide +kernel) (pa_cons (pv 3) pa_nil)) pa_nil))))))
          (pss_cons (ps_if (pt_cmpR op_ne (pe_callB (call_repr clr.deeper hr.units) (by rfl) N.rep (by decide +kernel) (pa_cons (pe_any3 fun i hi => pe_meth (pv 0) (L.cl i hi) (AL.mt i hi) (AL.fn i hi) hr1 (AL.bn i hi) .nil pass0 (pa_cons (pv 6) (pa_cons (pv 7) (pa_cons (pe_callB (call_sortedD rfl) (by rfl) N.srt (by decide +kernel) (pa_cons (pv 3) pa_nil)) pa_nil)))) pa_nil))
              (pe_callB (call_repr clr.deeper hr.units) (by rfl) N.rep (by decide +kernel) (pa_cons (pv 8) pa_nil)) (nomark _)) pss_never pss_nil)
          (pss_one (ps_if (pt_cmpR op_ne (pe_any3 fun i hi => pe_methK (pv 0) (L.cl i hi) (AL.mt i hi) (AL.fn i hi) hr1 (AL.kw i hi) pass0 (pk_cons (pe_callB (call_sortedD rfl) (by rfl) N.srt (by decide +kernel) (pa_cons (pv 3) pa_nil)) (pk_cons (pv 7) (pk_cons (pv 6) pk_nil)))) (pv 8) (nomark _)) pss_never pss_nil)))))))) 
      (pss_one (ps_ret pe_bl)), ?_⟩
    refine ⟨_, rfl, q1, t1, rfl, h1, o1, fun pa ns1 H1 pm1 s1 n1 hpa => ⟨pa, rfl, ⟨_, SqL.of hpa⟩, ?_⟩⟩
    have few1 := o1.few
    have few2 := o2.few
    have lt2 : (t2.map Prod.fst).length < 64 := by rw [List.length_map]; omega
    refine for_it (walk_list (xs := (("" : Str) :: ns1).map V.str)) (fun j σ' H' => (∃ u4 u5 u6 u7 u8, σ' = [some (.ref x), some (.ref r), some (.ref q1), some (.ref q2), u4, u5, u6, u7, u8]) ∧ Same H1 H') ⟨⟨_, _, _, _, _, rfl⟩, fun _ _ e => e⟩ (fun j σ' H' _ z => Same.sql z.2 (SqL.of hpa)) ?_ ?_
    · intro j v1 σ' Ha Hb hj ⟨⟨u4, u5, u6, u7, u8, e⟩, sa⟩ ⟨e1, hx1⟩
      subst e
      subst e1
      obtain ⟨one, ho, rfl⟩ := map_of hx1
      have pl1 : Pl t1 one := by
        rcases List.mem_cons.mp (List.mem_of_getElem? ho) with rfl | h
        · exact .inl rfl
        · exact .inr (pm1.mem_iff.mp h)
      have sHa : Same H Hb := s1.trans sa
      refine ⟨_, rfl, q2, t2, rfl, sHa _ _ h2, o2, fun pb ns2 H2 pm2 s2 n2 hpb => ⟨pb, rfl, ⟨_, SqL.of hpb⟩, ?_⟩⟩
      refine for_it (walk_list (xs := (("" : Str) :: ns2).map V.str)) (fun j σ' H' => (∃ u5 u6 u7 u8, σ' = [some (.ref x), some (.ref r), some (.ref q1), some (.ref q2), some (.str one), u5, u6, u7, u8]) ∧ Same H2 H') ⟨⟨_, _, _, _, rfl⟩, fun _ _ e => e⟩ (fun j σ' H' _ z => Same.sql z.2 (SqL.of hpb)) ?_ ?_
      · intro j2 v2 σ' Hc Hd hj2 ⟨⟨u5, u6, u7, u8, e⟩, sc⟩ ⟨e1, hx2⟩
        subst e
        subst e1
        obtain ⟨other, ho2, rfl⟩ := map_of hx2
        have pl2 : Pl t2 other := by
          rcases List.mem_cons.mp (List.mem_of_getElem? ho2) with rfl | h
          · exact .inl rfl
          · exact .inr (pm2.mem_iff.mp h)
        have sHc : Same H Hd := (sHa.trans s2).trans sc
        refine ⟨_, rfl, _, rfl, q1, t1, one, rfl, sHc _ _ h1, o1, pl1, fun ph H3 s3 n3 hph => ⟨_, rfl, _, rfl, q2, t2, other, rfl, (sHc.trans s3) _ _ h2, o2, pl2, fun pt H4 s4 n4 hpt => ⟨_, _, rfl, ?_⟩⟩⟩
        have hph4 := s4 _ _ hph
        have sH4 : Same H H4 := (sHc.trans s3).trans s4
        have lp := path_strL o1 pl1
        have lg := path_strL o2 pl2
        refine ⟨_, rfl, _, rfl, _, rfl, _, rfl, q2, _, t2.map Prod.fst, rfl, .inl (sH4 _ _ h2), prs_keys t2, lt2, fun ys p5 pmy sy n5 => ?_⟩
        have s5 := same_new (o := .lst (ys.map V.str)) n5
        refine ⟨r, ph, pt, p5, p, pathOf t1 one, pathOf t2 other, ys, rfl, (sH4.trans s5) _ _ hr', ok, .inl (.inl (s5 _ _ hph4)), .inl (.inl (s5 _ _ hpt)), SqL.of upd_same, lp, lg, fun H6 s6 => ?_⟩
        obtain ⟨bv, ebv⟩ : ∃ bv, bv = allowsB p (pathOf t1 one) (pathOf t2 other) ys := ⟨_, rfl⟩
        rw [← ebv]
        have s56 := s5.trans s6
        have sH6 : Same H H6 := sH4.trans s56
        obtain ⟨dx, hx⟩ := hp
        refine ⟨p.ix, p.lt, _, rfl, x, dx, p.fs, rfl, sH6 _ _ hx, fs_no p, _, rfl, _, rfl, _, rfl, q2, _, t2.map Prod.fst, rfl, .inl (sH6 _ _ h2), prs_keys t2, lt2, fun ys2 p7 pm7 sy7 n7 => ?_⟩
        have s7 := same_new (o := .lst (ys2.map V.str)) n7
        have e7 : ys2 = ys := sorted_one (pm7.trans pmy.symm) sy7 sy
        subst e7
        refine ⟨x, ph, pt, p7, p, pathOf t1 one, pathOf t2 other, ys2, rfl, rfl, ok.is, ⟨dx, (sH6.trans s7) _ _ hx⟩, ok.tx, .inl (.inl ((s56.trans s7) _ _ hph4)), .inl (.inl ((s56.trans s7) _ _ hpt)), SqL.of upd_same, lp, lg, fun H8 s8 => ?_⟩
        rw [← ebv]
        have s68 := s7.trans s8
        have sH8 := sH6.trans s68
        refine ⟨_, .bool bv, rfl, .inl ⟨.bl bv, rfl⟩, rfl, by cases bv <;> decide, by cases bv <;> decide +kernel, ?_⟩
        refine ⟨_, rfl, _, .bool bv, rfl, .inl ⟨.bl bv, rfl⟩, rfl, by cases bv <;> decide, by cases bv <;> decide +kernel, rfl, _, rfl, ?_⟩
        rw [decide_eq_true rfl]
        refine iteF ?_
        refine ⟨p.ix, p.lt, _, rfl, x, dx, p.fs, rfl, sH8 _ _ hx, fs_no p, _, rfl, q2, _, t2.map Prod.fst, rfl, .inl (sH8 _ _ h2), prs_keys t2, lt2, fun ys3 p9 pm9 sy9 n9 => ?_⟩
        have s9 := same_new (o := .lst (ys3.map V.str)) n9
        have e9 : ys3 = ys2 := sorted_one (pm9.trans pmy.symm) sy9 sy
        subst e9
        have s69 := s68.trans s9
        refine ⟨_, rfl, _, rfl, rfl, x, ph, pt, p9, p, pathOf t1 one, pathOf t2 other, ys3, rfl, rfl, ok.is, ⟨dx, (sH8.trans s9) _ _ hx⟩, ok.tx, .inl (.inl ((s56.trans s69) _ _ hph4)), .inl (.inl ((s56.trans s69) _ _ hpt)), SqL.of upd_same, lp, lg, fun H10 s10 => ?_⟩
        rw [← ebv]
        refine ⟨_, rfl, rfl, _, rfl, ?_⟩
        rw [decide_eq_true rfl]
        refine iteF ?_
        exact ⟨⟨_, _, _, _, rfl⟩, ((((sc.trans s3).trans s4).trans s56).trans s69).trans s10⟩
      · intro σ' H' ⟨⟨u5, u6, u7, u8, e⟩, sc⟩
        subst e
        exact ⟨⟨_, _, _, _, _, rfl⟩, (sa.trans s2).trans sc⟩
    · intro σ' H' ⟨⟨u4, u5, u6, u7, u8, e⟩, sa⟩
      subst e
      exact k H' (s1.trans sa)
end
end FT


/-! plain: odd things as data -/
namespace FT
open PySem L2 TL ClX LiI SupX
inductive OdV (H : Hp) : V → PyData → Prop where
  | non : OdV H .non .none
  | bl (b : Bool) : OdV H (.bl b) (.bool b)
  | int (i : Int) : OdV H (.int i) (.int i)
  | str (z : Str) : OdV H (.str z) (.str z)
  | tup {a : Addr} (h : H a = some (.tup [.int 1])) : OdV H (.ref a) (.tuple [.int 1])
theorem OdV.dp {K : PySem.W.Frag} {H : Hp} {x : V} {d : PyData} (h : OdV H x d) : Dp K H x d := by
  cases h with
  | non => exact .non
  | bl b => exact .bl b
  | int i => exact .int i
  | str z => exact .str z
  | tup h => exact .tup (.inl (.inl h)) (.cons (.int 1) .nil)
theorem OdV.mono {H H' : Hp} {x : V} {d : PyData} (s : ∀ b u, H b = some (.tup u) → H' b = some (.tup u)) (h : OdV H x d) : OdV H' x d := by
  cases h with
  | non => exact .non
  | bl b => exact .bl b
  | int i => exact .int i
  | str z => exact .str z
  | tup h => exact .tup (s _ _ h)
def oddDs : List PyData := [.none, .int 5, .int (-1), .bool true, .str "x", .tuple [.int 1], .str "toolongxx", .int (10 ^ 20)]
def madeD (u n : PyData) : PyData := .list [.tuple [.str "must", u, n], .tuple [.str "never", u, n], .tuple [.str "stay", u]]
theorem madeD_ok : ∀ u ∈ oddDs, ∀ n ∈ oddDs, (madeD u n).hasDict = false ∧ (madeD u n).showable = true ∧ (madeD u n).depth ≤ 60 ∧ (madeD u n).shown.length ≤ 10000 := by decide +kernel
end FT


/-! _law_made_right -/
namespace FT
open PySem L2 TL ClX LiI SupX
def spMade : Sp := fun vs H Q _ => ∃ (d l i : Addr) (b : Int), vs = [.ref d] ∧ DrawD H d l i b ∧ b + 10 ≤ 10 ^ 12 ∧ ∀ H', DrawD H' d l i (b + 10) → KeepX [d, l] H H' → Q (.bl true) H'
theorem FunS.binds {P : Program} {K : PySem.W.Frag} {x qual : Str} {st : Stmt} {D f : Addr} {fd : FuncData} {ps : List Str} (F : FunS P K x qual st D f fd)
    (h : ∀ (cc : Addr) (kV doc pm : Value) (an : Option Addr) (cd : Addr) (ct : Value) (us : List Value), us.length = ps.length → bindArgs (PySem.W.fnX x qual (defArgs st) (defBody st) (defScope st) [("__class__", cc)] .none kV doc pm an (.ref cd) ct) ⟨us, []⟩ = pure (ps.zip us)) : Binds K fd ps [] := by
  obtain ⟨cc, oc, od, kV, doc, pm, an, cd, ct, osl, rfl, _⟩ := F.ex
  exact .all (h cc kV doc pm an cd ct)
def turnD {α : Type} : List α → List α
  | [a, b] => [b, a]
  | l => l
theorem vals_turnD {vs : List V} {us : List Value} (r : Vals vs us) : Vals (turnD vs) (turnD us) := by
  match vs, us, r with
  | [], _, .nil => exact .nil
  | [_], _, .cons a .nil => exact .cons a .nil
  | [_, _], _, .cons a (.cons b .nil) => exact .cons b (.cons a .nil)
  | _ :: _ :: _ :: _, _, .cons a (.cons b (.cons c t)) => exact .cons a (.cons b (.cons c t))
theorem FunS.kwT {P : Program} {K : PySem.W.Frag} {x qual a b : Str} {st : Stmt} {D f : Addr} {fd : FuncData} {ps : List Str} (F : FunS P K x qual st D f fd)
    (h : ∀ (cc : Addr) (kV doc pm : Value) (an : Option Addr) (cd : Addr) (ct o u v : Value), bindArgs (PySem.W.fnX x qual (defArgs st) (defBody st) (defScope st) [("__class__", cc)] .none kV doc pm an (.ref cd) ct) ⟨[o], [(a, u), (b, v)]⟩ = pure (ps.zip [o, v, u])) :
    KBn K fd ps 1 [a, b] (fun us ws => us ++ turnD ws) (fun vs zs => vs ++ turnD zs) := by
  obtain ⟨cc, oc, od, kV, doc, pm, an, cd, ct, osl, rfl, _⟩ := F.ex
  refine ⟨fun s us ws _ h1 h2 => ?_, fun r r' => r.append (vals_turnD r')⟩
  match us, ws, h1, h2 with
  | [o], [u, v], _, _ => exact .of_eq (h cc kV doc pm an cd ct o u v)
theorem FunS.kwN {P : Program} {K : PySem.W.Frag} {x qual a b : Str} {st : Stmt} {D f : Addr} {fd : FuncData} {ps : List Str} (F : FunS P K x qual st D f fd)
    (h : ∀ (cc : Addr) (kV doc pm : Value) (an : Option Addr) (cd : Addr) (ct o u v : Value), bindArgs (PySem.W.fnX x qual (defArgs st) (defBody st) (defScope st) [("__class__", cc)] .none kV doc pm an (.ref cd) ct) ⟨[o], [(a, u), (b, v)]⟩ = pure (ps.zip [o, u, v])) :
    KBn K fd ps 1 [a, b] (fun us ws => us ++ ws) (fun vs zs => vs ++ zs) := by
  obtain ⟨cc, oc, od, kV, doc, pm, an, cd, ct, osl, rfl, _⟩ := F.ex
  refine ⟨fun s us ws _ h1 h2 => ?_, fun r r' => r.append r'⟩
  match us, ws, h1, h2 with
  | [o], [u, v], _, _ => exact .of_eq (h cc kV doc pm an cd ct o u v)
section
variable {P : Program} {w : World} {K : PySem.W.Frag} {mg : Str → Option Value} {base : Heap}
abbrev NMr : List Str := ["_law_draw", "_law_odd", "_law_one", "_law_other", "_law_made", "_law_pin_here"]
theorem scMr : FnScope NMr ["_law_draw"] (defScope s__law_made_right) := ⟨rfl, rfl, rfl, by decide +kernel, rfl, by decide +kernel, by decide +kernel⟩
theorem ok_made {f fT fP fPi CP fE : Addr} {C fi p g : Nat → Addr} {fd fdT fdP fdPi : FuncData} {fdi fdt : Nat → FuncData} (F : Fun K "_law_made_right" "_law_made_right" s__law_made_right f fd) (N : Nm mg) (L : PnF K mg CP C fE) (T : ToF P w K mg base C p g fdt)
    (DP : Dn P w K mg base CX0 3 "_law_pick" ["_law_draw", "_law_some"] spPickD fP fdP)
    (GP : FnOk P w K mg base CX0 1 fPi fdPi ["self", "user"] (spPInit K)) (MS : Mk K (C 2) fPi) (kS : KBn K fdPi ["self", "user"] 1 ["user"] (fun us ws => us ++ ws) (fun vs zs => vs ++ zs))
    (GM : FnOk P w K mg base CX0 2 (fi 0) (fdi 0) ["self", "user", "name"] (spMInit C 0 "wanted_flag")) (GN : FnOk P w K mg base CX0 2 (fi 1) (fdi 1) ["self", "user", "name"] (spMInit C 1 "barred_flag"))
    (kM : KBn K (fdi 0) ["self", "user", "name"] 1 ["name", "user"] (fun us ws => us ++ turnD ws) (fun vs zs => vs ++ turnD zs)) (kN : KBn K (fdi 1) ["self", "user", "name"] 1 ["user", "name"] (fun us ws => us ++ ws) (fun vs zs => vs ++ zs)) (Mi : ∀ i, i < 2 → Mk K (C i) (fi i)) :
    FnG P w K mg base CX0 4 f fd ["_law_draw"] spMade := by
  refine F.okG scMr (fun vs H Q E h => ?_) (fun cdv A outer s H vs Q E clr hr h => ?_)
  · obtain ⟨d, l, i, b, rfl, _⟩ := h
    rfl
  · obtain ⟨d, l, i, b, rfl, hD, bb, k⟩ := h
    have hr2 : Room (1 + 1) _ := hr.mono (by decide)
    have nd := scMr.nd
    have big : 20000 ≤ sizeLine := by decide
    refine ⟨_, pss_cons (ps_set (i := 1) nd rfl (.inl rfl) (pe_lst (pa_cons pe_non (pa_cons pe_int (pa_cons (pe_un un_neg pe_int) (pa_cons pe_bl (pa_cons pe_str (pa_cons (pe_tup (pa_cons pe_int pa_nil)) (pa_cons pe_str (pa_cons (pe_op op_pow pe_int pe_int) pa_nil))))))))))
      (pss_cons (ps_par (i := 2) (j := 3) rfl nd rfl rfl (by decide) rfl rfl (pa_cons (pe_call DP.ok hr rfl DP.mgn DP.kp DP.bn .nil pass0 (pa_cons (pv 0) (pa_cons (pv 1) pa_nil))) (pa_cons (pe_call DP.ok hr rfl DP.mgn DP.kp DP.bn .nil pass0 (pa_cons (pv 0) (pa_cons (pv 1) pa_nil))) pa_nil)) (by rfl))
      (pss_cons (ps_set (i := 4) nd rfl (.inl rfl) (pe_lst (pa_cons (pe_makeK0 (Mi 0 (by decide)) GM hr (by rfl) L.gM kM pass0 (pk_cons (pv 2) (pk_cons (pv 3) pk_nil))) (pa_cons (pe_makeK0 (Mi 1 (by decide)) GN hr (by rfl) L.gN kN pass0 (pk_cons (pv 3) (pk_cons (pv 2) pk_nil)))
        (pa_cons (pe_makeK0 MS GP hr2 (by rfl) L.gS kS pass0 (pk_cons (pv 3) pk_nil)) pa_nil)))))
      (pss_one (ps_ret (pe_cmpR op_eq (pe_callB (call_repr clr.deeper hr.units) (by rfl) N.rep (by decide +kernel) (pa_cons (pe_lc (own := [("_law_pin_here", 5)]) (g := gName 5) (tt := tYes) (te := tTold C (tVar 5)) rfl nd (pi_list (pv 4))
          (blkOk_by (N := NMr) (sc := defScope s__law_made_right) (by decide +kernel)) (fun _ _ _ _ _ => pg_name (i := 5) nd rfl (Or.inl rfl)) (fun _ _ _ _ _ => pts_nil) (fun _ _ _ _ _ => pe_told (pv 5) L.cl T hr2 rfl)) pa_nil))
        (pe_callB (call_repr clr.deeper hr.units) (by rfl) N.rep (by decide +kernel) (pa_cons (pe_lst (pa_cons (pe_tup (pa_cons pe_str (pa_cons (pv 3) (pa_cons (pv 2) pa_nil)))) (pa_cons (pe_tup (pa_cons pe_str (pa_cons (pv 3) (pa_cons (pv 2) pa_nil)))) (pa_cons (pe_tup (pa_cons pe_str (pa_cons (pv 3) pa_nil))) pa_nil)))) pa_nil)) (nomark _)))))), ?_⟩
    have ODD : ∀ a5 : Addr, ∀ Hx : Hp, Hx a5 = some (.tup [V.int 1]) → ∀ (j : Nat) (v : V), ([V.non, V.int 5, V.int (-1), V.bl true, V.str "x", V.ref a5, V.str "toolongxx", V.int (10 ^ 20)] : List V)[j]? = some v → ∃ dt ∈ oddDs, OdV Hx v dt := by
      intro a5 Hx h5 j v hv
      have hm := List.mem_of_getElem? hv
      simp only [List.mem_cons, List.not_mem_nil, or_false] at hm
      rcases hm with rfl | rfl | rfl | rfl | rfl | rfl | rfl | rfl
      · exact ⟨.none, List.mem_of_getElem? (i := 0) rfl, .non⟩
      · exact ⟨.int 5, List.mem_of_getElem? (i := 1) rfl, .int 5⟩
      · exact ⟨.int (-1), List.mem_of_getElem? (i := 2) rfl, .int (-1)⟩
      · exact ⟨.bool true, List.mem_of_getElem? (i := 3) rfl, .bl true⟩
      · exact ⟨.str "x", List.mem_of_getElem? (i := 4) rfl, .str "x"⟩
      · exact ⟨.tuple [.int 1], List.mem_of_getElem? (i := 5) rfl, .tup h5⟩
      · exact ⟨.str "toolongxx", List.mem_of_getElem? (i := 6) rfl, .str _⟩
      · exact ⟨.int (10 ^ 20), List.mem_of_getElem? (i := 7) rfl, .int _⟩
    refine ⟨_, rfl, by show 1 ≤ sizeLine; omega, fun a5 n5 => ⟨10, 20, rfl, rfl, ⟨by decide, by decide, by decide⟩, by show 8 ≤ sizeLine; omega, fun R nR => ?_⟩⟩
    have s5 := same_new (o := .tup [V.int 1]) n5
    have sR := same_new (o := .lst [V.non, V.int 5, V.int (-1), V.bl true, V.str "x", V.ref a5, V.str "toolongxx", V.int (10 ^ 20)]) nR
    obtain ⟨Rd, Rl, Ri⟩ := (hD.mono s5).apart nR
    obtain ⟨H1, e1⟩ : ∃ X, X = upd (upd H a5 (.tup [V.int 1])) R (.lst [V.non, V.int 5, V.int (-1), V.bl true, V.str "x", V.ref a5, V.str "toolongxx", V.int (10 ^ 20)]) := ⟨_, rfl⟩
    have h5 : H1 a5 = some (.tup [V.int 1]) := by rw [e1]; exact sR _ _ upd_same
    have hR : H1 R = some (.lst [V.non, V.int 5, V.int (-1), V.bl true, V.str "x", V.ref a5, V.str "toolongxx", V.int (10 ^ 20)]) := by rw [e1]; exact upd_same
    have S1 : Same H H1 := e1 ▸ (s5.trans sR)
    subst e1
    have D1 := hD.mono S1
    refine ⟨_, rfl, _, rfl, d, l, i, b, .ref R, 8, (fun _ x => ∃ dt ∈ oddDs, OdV _ x dt), rfl, D1, by omega, .inl ⟨R, _, rfl, Rl, hR, rfl, ODD a5 _ h5⟩, by decide, by decide, fun j x H2 px D2 k2 => ?_⟩
    have kt : ∀ {Ha Hb : Hp} {bz : Int}, DrawD Ha d l i bz → KeepX [d, l] Ha Hb → ∀ b u, Ha b = some (.tup u) → Hb b = some (.tup u) := fun D kx b u e => kx b _ (by have := D.tup e; simp [this.1, this.2.1]) e
    have h52 := kt D1 k2 _ _ h5
    refine ⟨_, rfl, _, rfl, d, l, i, b + 1, .ref R, 8, (fun _ x => ∃ dt ∈ oddDs, OdV H2 x dt), rfl, D2, by omega, .inl ⟨R, _, rfl, Rl, k2 R _ (by simp [Rd, Rl]) hR, rfl, ODD a5 _ h52⟩, by decide, by decide, fun j' y H3 py D3 k3 => ⟨_, _, rfl, ?_⟩⟩
    obtain ⟨dx, mx, ox⟩ := px
    obtain ⟨dy, my, oy⟩ := py
    have ox : OdV H3 x dx := (ox.mono (kt D1 k2)).mono (kt D2 k3)
    have oy : OdV H3 y dy := oy.mono (kt D2 k3)
    have K3 : KeepX [d, l] H H3 := ((KeepX.of_same S1).trans k2).trans k3
    have s0 : Same H3 H3 := fun _ _ e => e
    refine ⟨_, rfl, _, rfl, rfl, rfl, fun x1 dx1 nx1 nd1 ne1 => ⟨x1, dx1, y, x, rfl, upd_same, rfl, ?_⟩⟩
    -- three pins
    obtain ⟨H4, e4⟩ : ∃ X, X = upd (upd (upd (upd H3 dx1 (.own x1)) x1 (.ins (C 0) dx1 [])) x1 (.ins (C 0) dx1 [("who", y)])) x1 (.ins (C 0) dx1 [("who", y), ("wanted_flag", x)]) := ⟨_, rfl⟩
    have S4 : Same H3 H4 := e4 ▸ (((s0.put nd1).put nx1).put nx1).put nx1
    have p1 : PnAt C H4 x1 (.must y x) := ⟨dx1, by rw [e4]; exact upd_same⟩
    rw [← e4]
    clear e4
    refine ⟨_, rfl, _, rfl, rfl, rfl, fun x2 dx2 nx2 nd2 ne2 => ⟨x2, dx2, y, x, rfl, upd_same, rfl, ?_⟩⟩
    have s0' : Same H4 H4 := fun _ _ e => e
    obtain ⟨H5, e5⟩ : ∃ X, X = upd (upd (upd (upd H4 dx2 (.own x2)) x2 (.ins (C 1) dx2 [])) x2 (.ins (C 1) dx2 [("who", y)])) x2 (.ins (C 1) dx2 [("who", y), ("barred_flag", x)]) := ⟨_, rfl⟩
    have S5 : Same H4 H5 := e5 ▸ (((s0'.put nd2).put nx2).put nx2).put nx2
    have p2 : PnAt C H5 x2 (.never y x) := ⟨dx2, by rw [e5]; exact upd_same⟩
    rw [← e5]
    clear e5
    refine ⟨_, rfl, rfl, rfl, fun x3 dx3 nx3 nd3 ne3 => ⟨x3, dx3, C 2, y, rfl, upd_same, L.cl 2 (by decide), L.who 2 (by decide), rfl, ?_⟩⟩
    have s0'' : Same H5 H5 := fun _ _ e => e
    obtain ⟨H6, e6⟩ : ∃ X, X = upd (upd (upd H5 dx3 (.own x3)) x3 (.ins (C 2) dx3 [])) x3 (.ins (C 2) dx3 [("who", y)]) := ⟨_, rfl⟩
    have S6 : Same H5 H6 := e6 ▸ ((s0''.put nd3).put nx3).put nx3
    have p3 : PnAt C H6 x3 (.stay y) := ⟨dx3, by rw [e6]; exact upd_same⟩
    rw [← e6]
    clear e6
    refine ⟨by show 3 ≤ sizeLine; omega, fun M nM => ?_⟩
    have sM := same_new (o := .lst [V.ref x1, V.ref x2, V.ref x3]) nM
    obtain ⟨H7, e7⟩ : ∃ X, X = upd H6 M (.lst [V.ref x1, V.ref x2, V.ref x3]) := ⟨_, rfl⟩
    have hM : H7 M = some (.lst [V.ref x1, V.ref x2, V.ref x3]) := by rw [e7]; exact upd_same
    rw [← e7] at sM ⊢
    clear e7
    have S7 : Same H3 H7 := ((S4.trans S5).trans S6).trans sM
    have p1 := p1.mono ((S5.trans S6).trans sM)
    have p2 := p2.mono (S6.trans sM)
    have p3 := p3.mono sM
    obtain ⟨pins, ep⟩ : ∃ q : List PinV, q = [.must y x, .never y x, .stay y] := ⟨_, rfl⟩
    have pr : Paired (fun (a : Addr) (p : PinV) => PnAt C H7 a p) [x1, x2, x3] pins := by rw [ep]; exact .cons p1 (.cons p2 (.cons p3 .nil))
    refine ⟨_, rfl, M, rfl, ⟨_, SqL.of hM⟩, fun D nD => lc_list (xs := [x1, x2, x3].map V.ref) (fun i H' => Same H7 H' ∧ ∃ qs : List Addr, H' D = some (.lst (qs.map V.ref)) ∧ TdR H' qs (pins.take i)) ⟨same_new nD, [], upd_same, .nil⟩ (fun i H' _ q => Same.sql q.1 (SqL.of hM)) ?_ ?_⟩
    · intro i v H' hv ⟨q1, qs, q2, q3⟩
      obtain ⟨xa, hxa, rfl⟩ := map_of hv
      obtain ⟨pn, hpn, at_⟩ := LiI.paired_get pr hxa
      refine ⟨rfl, ?_⟩
      refine ⟨_, rfl, xa, pn, rfl, at_.mono q1, fun q nq => ?_⟩
      have sq := same_new (o := .tup pn.tv) nq
      have lq : qs.length ≤ 3 := by
        have := q3.len
        rw [List.length_take, ep] at this
        have : ([PinV.must y x, .never y x, .stay y] : List PinV).length = 3 := rfl
        omega
      have qD : q ≠ D := (ne_of_none q2 nq).symm
      refine ⟨_, sq _ _ q2, by rw [List.length_map]; omega, Same.put (q1.trans sq) nD, qs ++ [q], by rw [upd_same, List.map_append] <;> rfl, ?_⟩
      rw [take_more hpn]
      refine TdR.snoc (by rw [upd_ne qD, upd_same]) (q3.mono fun b u e => ?_)
      rw [upd_ne (ne_of e q2 (by intro z; cases z))]
      exact sq _ _ e
    · intro H8 ⟨S8, qs, hD8, td⟩
      subst ep
      have td : TdR H8 qs [.must y x, .never y x, .stay y] := td
      obtain ⟨g1, g2, g3, g4⟩ := madeD_ok dy my dx mx
      have S38 : Same H3 H8 := S7.trans S8
      have ox8 : OdV H8 x dx := ox.mono fun b u e => S38 _ _ e
      have oy8 : OdV H8 y dy := oy.mono fun b u e => S38 _ _ e
      cases td with
      | cons w1 td =>
        cases td with
        | cons w2 td =>
          cases td with
          | cons w3 td =>
            cases td
            rename_i q1 q2 q3
            have dpA : Dp K H8 (.ref D) (madeD dy dx) := .lst (SqL.of hD8) (.cons (.tup (.inl (.inl w1)) (.cons (.str _) (.cons oy8.dp (.cons ox8.dp .nil)))) (.cons (.tup (.inl (.inl w2)) (.cons (.str _) (.cons oy8.dp (.cons ox8.dp .nil)))) (.cons (.tup (.inl (.inl w3)) (.cons (.str _) (.cons oy8.dp .nil))) .nil)))
            refine ⟨_, _, rfl, .inl ⟨dpA, g1⟩, g2, g3, by omega, ?_⟩
            refine ⟨_, rfl, _, rfl, by show 3 ≤ sizeLine; omega, fun r1 m1 => ⟨_, rfl, _, rfl, by show 3 ≤ sizeLine; omega, fun r2 m2 => ⟨_, rfl, by show 2 ≤ sizeLine; omega, fun r3 m3 => ⟨by show 3 ≤ sizeLine; omega, fun R2 mR => ?_⟩⟩⟩⟩
            have v1 := same_new (o := .tup [V.str "must", y, x]) m1
            have v2 := same_new (o := .tup [V.str "never", y, x]) m2
            have v3 := same_new (o := .tup [V.str "stay", y]) m3
            have vR := same_new (o := .lst [V.ref r1, V.ref r2, V.ref r3]) mR
            have V8 := ((v1.trans v2).trans v3).trans vR
            have ox9 := ox8.mono fun b u e => V8 _ _ e
            have oy9 := oy8.mono fun b u e => V8 _ _ e
            have e1 := ((v2.trans v3).trans vR) _ _ (upd_same (a := r1) (o := .tup [V.str "must", y, x]))
            have e2 := (v3.trans vR) _ _ (upd_same (a := r2) (o := .tup [V.str "never", y, x]))
            have e3 := vR _ _ (upd_same (a := r3) (o := .tup [V.str "stay", y]))
            refine ⟨_, madeD dy dx, rfl, .inl ⟨.lst (SqL.of upd_same) (.cons (.tup (.inl (.inl e1)) (.cons (.str _) (.cons oy9.dp (.cons ox9.dp .nil)))) (.cons (.tup (.inl (.inl e2)) (.cons (.str _) (.cons oy9.dp (.cons ox9.dp .nil)))) (.cons (.tup (.inl (.inl e3)) (.cons (.str _) (.cons oy9.dp .nil))) .nil))), g1⟩, g2, g3, by omega, rfl, ?_⟩
            rw [decide_eq_true rfl]
            exact k _ ((D3.mono (S38.trans V8)).more (by omega)) (K3.trans (.of_same (S38.trans V8)))
end
end FT


/-! Own: C.m(..) where m is a staticmethod of the class. -/
namespace L2
open PySem PySem.Spec PyProof.Rows
/-- C.m is a staticmethod: its record at p, its def at f -/
structure SMet (K : PySem.W.Frag) (C : Addr) (mc : Value) (m : Str) (p f : Addr) : Prop where
  at_ : PySem.W.findCls K (.ref C) mc m = some (.get (.builtin "staticmethod.__get__") (.ref p) .none (.ref C))
  rc : ∃ rest, PySem.W.recIn K p "staticmethod" = some (.ref f :: rest)
def tSMeth (C : Addr) (sp : Sp) (dvs : List V) (E : XK) (ta : TE) (t : TA) : TE := fun σ H Q => ta σ H fun x H1 => x = .ref C ∧ t σ H1 fun vs H2 => sp (vs ++ dvs) H2 Q E
section
variable {X : Cx} {CX : CXT} {k : Nat} {C p f : Addr} {mc : Value} {fd : FuncData} {ps : List Str} {sp : Sp} {dvs : List V} {ds : List Value} {E : XK} {o e : Expr} {es : List Expr} {m : Str} {pos apos : Pos} {ta : TE} {t : TA} {pl : Sem Bool}
theorem pe_smeth (he : PE X o ta) (r : ClX.CRead X.K C mc) (c : SMet X.K C mc m p f) (F : FnOk X.prog X.w X.K X.mg X.base CX k f fd ps sp) (hr : Room k X.A) (hk : PySem.W.keepIn X.K (.ref f) = true) (hb : Binds X.K fd ps ds) (hd : Vals dvs ds) (hx : Passes CX X E) (ha : PA X (e :: es) t)
    (one : starEach (e :: es) X.env = (false, eval e X.env) :: starEach es X.env := by rfl) (plain : (backTo pos (starEach es X.env)).any (·.1) = false := by rfl)
    (ev : eval (.Call (.Attribute o m apos) (e :: es) [] pos) X.env = (do
      let u ← eval o X.env
      standAt apos.atName
      let (g, first) ← holding [u] (getMethod u m pl)
      callWith pos g first (backTo pos (starEach (e :: es) X.env)) (backToKw pos (keywordEach [] X.env))) := by rfl) :
    PE X (.Call (.Attribute o m apos) (e :: es) [] pos) (tSMeth C sp dvs E ta t) := by
  refine ⟨fun pins s σ H Q I h => ?_⟩
  refine PySem.W.methodCall_KW (pl := pl) (thn (he.run pins s σ H _ I h) fun u s1 ⟨x, H1, J, rx, ex, q⟩ => ?_) ev
  subst ex
  obtain rfl : u = Value.ref C := rx
  obtain ⟨rest, hp⟩ := c.rc
  refine PySem.W.method_cls J.kIn r.ga (PySem.W.cls_bind J.kIn r.rd c.at_ (wpAny_call (PySem.W.sm_get (s := { s1 with toks := s1.toks + 1 }) J.kIn hp (PySem.W.handed_on rfl ?_))))
  refine PySem.W.callWith_K (h₀ := X.base) J.ok.mod.kin hk (thn (ha.run pos pins _ σ H1 _ (J.tok _) q) fun us s2 ⟨vs, H2, J2, rel, want⟩ => ⟨J2.kIn, ?_⟩) one plain
  have r2 : Vals (vs ++ dvs) (us ++ ds) := rel.append hd
  have len : (us ++ ds).length = ps.length := r2.length.symm.trans (F.len _ _ _ _ want)
  refine wpAny_call (codeAny_mono (F.run X.A X.stack s2 H2 ⟨us, []⟩ (us ++ ds) (vs ++ dvs) Q E hr J2.env0 (hb s2 us J2.kIn len) r2 want) fun r s' z => ?_)
  match r, z with
  | .error er, z => exact hx pins σ H2 s2 er s' J2 z
  | .ok (.ret u), z => exact J2.after z
  | .ok .next, z => exact z.elim
  | .ok .brk, z => exact z.elim
  | .ok .cont, z => exact z.elim
end
end L2


/-! Own: C.m(k = v, ..): a static method called by keywords alone -/
namespace FT
open PySem PySem.Spec PyProof.Rows L2 TL ClX
def tSMethK (C : Addr) (n : Nat) (sp : Sp) (gV : List V → List V → List V) (E : XK) (ta : TE) (tk : TA) : TE := fun σ H Q => ta σ H fun x H1 => x = .ref C ∧ tk σ H1 fun zs H2 => zs.length = n ∧ sp (gV [] zs) H2 Q E
theorem pe_smethK {X : Cx} {CX : CXT} {k : Nat} {C p f : Addr} {mc : Value} {fd : FuncData} {ps ks : List Str} {sp : Sp} {E : XK} {o : Expr} {m : Str} {pos apos : Pos} {kw : Keyword} {kws : List Keyword} {ta : TE} {tk : TA} {g : List Value → List Value → List Value} {gV : List V → List V → List V} {pl : Sem Bool}
    (he : PE X o ta) (r : ClX.CRead X.K C mc) (c : SMet X.K C mc m p f) (F : FnOk X.prog X.w X.K X.mg X.base CX k f fd ps sp) (hr : Room k X.A) (hk : PySem.W.keepIn X.K (.ref f) = true) (hb : KBn X.K fd ps 0 ks g gV) (hx : Passes CX X E)
    (hkw : PK X (kw :: kws) tk) (hall : (backToKw pos (keywordEach (kw :: kws) X.env)).all (·.1.isSome) = true := by rfl) (hks : (backToKw pos (keywordEach (kw :: kws) X.env)).filterMap (·.1) = ks := by rfl)
    (hpl : ((backTo pos (starEach [] X.env)).any (·.1) || (backToKw pos (keywordEach (kw :: kws) X.env)).any (·.1.isNone)) = false := by rfl)
    (ev : eval (.Call (.Attribute o m apos) [] (kw :: kws) pos) X.env = (do
      let u ← eval o X.env
      standAt apos.atName
      let (g, first) ← holding [u] (getMethod u m pl)
      callWith pos g first (backTo pos (starEach [] X.env)) (backToKw pos (keywordEach (kw :: kws) X.env))) := by rfl) :
    PE X (.Call (.Attribute o m apos) [] (kw :: kws) pos) (tSMethK C ks.length sp gV E ta tk) := by
  refine ⟨fun pins s σ H Q I h => ?_⟩
  refine PySem.W.methodCall_KW (pl := pl) (thn (he.run pins s σ H _ I h) fun u s1 ⟨x, H1, J, rx, ex, q⟩ => ?_) ev
  subst ex
  obtain rfl : u = Value.ref C := rx
  obtain ⟨rest, hp⟩ := c.rc
  refine PySem.W.method_cls J.kIn r.ga (PySem.W.cls_bind J.kIn r.rd c.at_ (wpAny_call (PySem.W.sm_get (s := { s1 with toks := s1.toks + 1 }) J.kIn hp (PySem.W.handed_on rfl ?_))))
  refine PySem.W.callWith_KW0 (first := []) (h₀ := X.base) J.ok.mod.kin hk hall ?_ hpl
  refine thn (hkw.run pos pins _ σ H1 _ (J.tok _) q) fun ws s2 ⟨zs, H2, J2, rz, l2, want⟩ => ⟨J2.kIn, ?_⟩
  rw [hks]
  exact run_fnN (us := []) (vs := []) F hr hb hx J2 .nil rz rfl l2 want
end FT


/-! the law of k29 -/
namespace FT
open PySem L2 TL ClX LamX NdefX LiI
theorem kwS1 {K : PySem.W.Frag} {x qual b : Str} {st : Stmt} {f : Addr} {fd : FuncData} {ps : List Str} (F : L2.Fun K x qual st f fd)
    (h : ∀ (kV doc pm : Value) (an : Option Addr) (cdv ct v : Value), bindArgs (PySem.W.fnOf x qual (defArgs st) (defBody st) (defScope st) .none kV doc pm an cdv ct) ⟨[], [(b, v)]⟩ = pure (ps.zip [v])) :
    KBn K fd ps 0 [b] (fun us ws => us ++ ws) (fun vs zs => vs ++ zs) := by
  obtain ⟨oc, od, kV, doc, pm, an, cdv, ct, osl, rfl, lk, hcd⟩ := F.ex
  refine ⟨fun s us ws _ h1 h2 => ?_, fun r r' => r.append r'⟩
  match us, ws, h1, h2 with
  | [], [v], _, _ => exact .of_eq (h kV doc pm an cdv ct v)
abbrev ap2 (α : Type) : List α → List α → List α := fun us ws => us ++ ws
abbrev lamQ (x : Str) : Str := x ++ ".<locals>." ++ "<lambda>"
theorem un_of {k n : Nat} {A : Around} (r : Room k A) (h : n ≤ 200) : A.units + n < cLine := by have := r.un; omega
structure Ge (K : PySem.W.Frag) (mg : Str → Option Value) (x : Str) (st : Stmt) (f : Addr) (fd : FuncData) : Prop where
  fn : Fun K x x st f fd
  bn : Binds K fd ["_law_work"] []
  mgn : mg x = some (.ref f)
theorem cut_butL (xs : List V) : cutV xs none (some (-1)) = xs.dropLast := by
  have e : HT.sIx xs.length xs.length (some (-1)) = ((-1 : Int) + (xs.length : Int)).toNat := by
    show (if (-1 : Int) < 0 then ((-1 : Int) + (xs.length : Int)).toNat else min (-1 : Int).toNat xs.length) = _
    rw [if_pos (by decide)]
  show (xs.drop 0).take (HT.sIx xs.length xs.length (some (-1)) - 0) = _
  rw [e, List.drop_zero, List.dropLast_eq_take]
  congr 1
  omega
theorem seq_join2 {t rest : TS} {D : Ends} {σ : St} {H : Hp} (R : St → Hp → Prop) (h : ∀ D' : Ends, (∀ σ' H', R σ' H' → D'.nx σ' H') → t D' σ H) (k : ∀ σ' H', R σ' H' → rest D σ' H') : tSeq t rest D σ H := h _ fun σ' H' r => k σ' H' r
/-! ### what stands -/
theorem DrawD.ext {H H' : Hp} {d l i : Addr} {b : Int} (s : ExtN H H') (x : DrawD H d l i b) : DrawD H' d l i b := by
  obtain ⟨lf, tn, lg, it, a1, a2, a3, r⟩ := x
  exact ⟨lf, tn, lg, it, s _ _ a1 (fun ps z => nomatch z), s _ _ a2 (fun ps z => nomatch z), s _ _ a3 (fun ps z => nomatch z), r⟩
theorem tabs_kx {T : List (Addr × Str)} {d l i : Addr} {b : Int} {H H' : Hp} (t : Tabs T H) (dr : DrawD H d l i b) (k : KeepX [d, l] H H') : Tabs T H' := fun p hp => by
  obtain ⟨rs, tn, lg, sm, h1, h2, _⟩ := dr
  obtain ⟨ps, e1, e2, e3⟩ := t p hp
  refine ⟨ps, k _ _ ?_ e1, e2, fun pos cv hc => ?_⟩
  · have n1 := ne_of e1 h1 (by intro z; cases z)
    have n2 := ne_of e1 h2 (by intro z; cases z)
    simp [n1, n2]
  · obtain ⟨c', q1, q2⟩ := e3 pos cv hc
    have n1 := ne_of q2 h1 (by intro z; unfold CodeO at z; cases z)
    have n2 := ne_of q2 h2 (by intro z; unfold CodeO at z; cases z)
    exact ⟨c', q1, k _ _ (by simp [n1, n2]) q2⟩
structure G29 (T : List (Addr × Str)) (C : Nat → Addr) (d l i : Addr) (b : Int) (q1 q2 R M : Addr) (t1 t2 : List (Str × Str)) (rs xs : List Addr) (ps : List PinV) (H : Hp) : Prop where
  dr : DrawD H d l i b
  tb : Tabs T H
  h1 : H q1 = some (.dK (prs t1))
  h2 : H q2 = some (.dK (prs t2))
  hR : H R = some (.lst (rs.map V.ref))
  hM : H M = some (.lst (xs.map V.ref))
  td : TdR H rs ps
  pn : Paired (fun (a : Addr) (p : PinV) => PnAt C H a p) xs ps
  o1 : q1 ≠ d ∧ q1 ≠ l
  o2 : q2 ≠ d ∧ q2 ≠ l
  oR : R ≠ d ∧ R ≠ l
  oM : M ≠ d ∧ M ≠ l
theorem pair_mv {α β : Type} {Pr Pr' : α → β → Prop} (h : ∀ a b, Pr a b → Pr' a b) : ∀ {xs : List α} {ys : List β}, Paired Pr xs ys → Paired Pr' xs ys
  | _, _, .nil => .nil
  | _, _, .cons a t => .cons (h _ _ a) (pair_mv h t)
section
variable {T : List (Addr × Str)} {C : Nat → Addr} {d l i : Addr} {b b' : Int} {q1 q2 R M : Addr} {t1 t2 : List (Str × Str)} {rs xs : List Addr} {ps : List PinV} {H H' : Hp}
theorem G29.mv (g : G29 T C d l i b q1 q2 R M t1 t2 rs xs ps H) (dr : DrawD H' d l i b') (tb : Tabs T H') (k : ∀ a u, a ≠ d → a ≠ l → H a = some u → (∀ ps, u ≠ .tbl ps) → H' a = some u) : G29 T C d l i b' q1 q2 R M t1 t2 rs xs ps H' := by
  obtain ⟨lf, tn, lg, sm, a1, a2, _⟩ := id g.dr
  refine ⟨dr, tb, k _ _ g.o1.1 g.o1.2 g.h1 (fun ps z => nomatch z), k _ _ g.o2.1 g.o2.2 g.h2 (fun ps z => nomatch z), k _ _ g.oR.1 g.oR.2 g.hR (fun ps z => nomatch z), k _ _ g.oM.1 g.oM.2 g.hM (fun ps z => nomatch z), pair_mv (fun a p h => ?_) g.td, pair_mv (fun a p h => ?_) g.pn, g.o1, g.o2, g.oR, g.oM⟩
  · exact k _ _ (ne_of h a1 (by intro z; cases z)) (ne_of h a2 (by intro z; cases z)) h (fun ps z => nomatch z)
  · obtain ⟨dx, h⟩ := h
    exact ⟨dx, k _ _ (ne_of h a1 (by intro z; cases z)) (ne_of h a2 (by intro z; cases z)) h (fun ps z => nomatch z)⟩
theorem G29.same (g : G29 T C d l i b q1 q2 R M t1 t2 rs xs ps H) (s : Same H H') : G29 T C d l i b q1 q2 R M t1 t2 rs xs ps H' := g.mv (g.dr.mono s) (g.tb.ext s) fun a u _ _ e _ => s _ _ e
theorem G29.kx (g : G29 T C d l i b q1 q2 R M t1 t2 rs xs ps H) (dr : DrawD H' d l i b') (k : KeepX [d, l] H H') : G29 T C d l i b' q1 q2 R M t1 t2 rs xs ps H' := g.mv dr (tabs_kx g.tb g.dr k) fun a u n1 n2 e _ => k _ _ (by simp [n1, n2]) e
theorem G29.extN (g : G29 T C d l i b q1 q2 R M t1 t2 rs xs ps H) (s : ExtN H H') (tb : Tabs T H') : G29 T C d l i b q1 q2 R M t1 t2 rs xs ps H' := g.mv (g.dr.ext s) tb fun a u _ _ e n => s _ _ e n
theorem G29.more (g : G29 T C d l i b q1 q2 R M t1 t2 rs xs ps H) (h : b ≤ b') : G29 T C d l i b' q1 q2 R M t1 t2 rs xs ps H := { g with dr := g.dr.more h }
end
theorem Dat.ext {K : PySem.W.Frag} {H H' : Hp} {v : V} {T : String} (s : ExtN H H') (h : Dat K H v T) : Dat K H' v T := by
  cases h with
  | non => exact .non
  | bl b => exact .bl b
  | int i => exact .int i
  | str z => exact .str z
  | lst h => exact .lst (s _ _ h fun ps z => nomatch z)
  | tup h => exact .tup (s _ _ h fun ps z => nomatch z)
  | dct h => exact .dct (s _ _ h fun ps z => nomatch z)
theorem ThX.ext {K : PySem.W.Frag} {d l : Addr} {m : Nat} {H H' : Hp} {v : V} {o : Option (List V)} (s : ExtN H H') (h : ThX K d l m H v o) : ThX K d l m H' v o := by
  obtain ⟨t, f, g⟩ := h
  refine ⟨?_, f, g⟩
  cases o with
  | none => exact let ⟨T, q, n⟩ := t; ⟨T, q.ext s, n⟩
  | some xs =>
    obtain ⟨a, rfl, ha, it, l12⟩ := t
    exact ⟨a, rfl, s _ _ ha (fun ps z => nomatch z), fun x hx => ⟨let ⟨T, q⟩ := (it x hx).1; ⟨T, q.ext s⟩, (it x hx).2⟩, l12⟩
theorem ThX.mono {K : PySem.W.Frag} {d l : Addr} {m : Nat} {H H' : Hp} {v : V} {o : Option (List V)} (s : Same H H') (h : ThX K d l m H v o) : ThX K d l m H' v o := h.ext (ExtN.of s)
/-! ### rows of bools -/
theorem dp_bls {K : PySem.W.Frag} {H : Hp} : ∀ bs : List Bool, DpAll K H (bs.map V.bl) (bs.map PyData.bool)
  | [] => .nil
  | b :: bs => .cons (.bl b) (dp_bls bs)
theorem lay_bls : ∀ bs : List Bool, PyData.canLayAll0 (bs.map PyData.bool) = true ∧ PyData.depthAll (bs.map PyData.bool) ≤ 0
  | [] => ⟨rfl, Nat.le_refl _⟩
  | b :: bs => by
    obtain ⟨h1, h2⟩ := lay_bls bs
    constructor
    · show (true && PyData.canLayAll0 (bs.map PyData.bool)) = true
      rw [h1] <;> rfl
    · show max 0 (PyData.depthAll (bs.map PyData.bool)) ≤ 0
      omega
theorem eqv_bls : ∀ bs : List Bool, PyData.eqvAll (bs.map PyData.bool) (bs.map PyData.bool) = true
  | [] => by simp [PyData.eqvAll]
  | b :: bs => by
    simp only [List.map_cons, PyData.eqvAll]
    rw [eqv_bls bs]
    simp [PyData.eqv]
theorem ne_bls {K : PySem.W.Frag} {H : Hp} {a b : Addr} {bs : List Bool} {Q : VK} (ha : H a = some (.lst (bs.map V.bl))) (hb : H b = some (.lst (bs.map V.bl))) (q : Q (.bl false) H) : rNeD K (.ref a) (.ref b) H Q := by
  have sh : SeqAt.shaped (.list (bs.map PyData.bool)) = true := by
    obtain ⟨h1, h2⟩ := lay_bls bs
    have c : (PyData.list (bs.map PyData.bool)).canLay0 = true := h1
    unfold SeqAt.shaped
    rw [c]
    have d : (PyData.list (bs.map PyData.bool)).depth ≤ 64 := by
      show PyData.depthAll (bs.map PyData.bool) + 1 ≤ 64
      omega
    rw [decide_eq_true d] <;> rfl
  refine ⟨_, _, .lst (SqL.of ha) (dp_bls bs), .lst (SqL.of hb) (dp_bls bs), sh, sh, ?_⟩
  have e : PyData.eqv (.list (bs.map PyData.bool)) (.list (bs.map PyData.bool)) = true := by
    simp only [PyData.eqv]
    exact eqv_bls bs
  rw [e]
  exact q
section
variable {K : PySem.W.Frag} {C : Nat → Addr} {CI : Addr} {H : Hp} {Q : VK} {E : XK}
theorem of_yes {r : Addr} {p : PinV} (ok : p.Ok) (hr : H r = some (.tup p.tv)) (k : ∀ y H', Same H H' → H y = none → PnAt C H' y p → Q (.ref y) H') : spOf K C CI [.ref r] H Q E := by
  refine ⟨.ref r, some p.tv, rfl, ok.th hr, ?_⟩
  rw [show toldOf (some p.tv) = some p from ok.told]
  exact k
theorem pin_pin {g : Bool → Bool} {y x : Addr} {p p' : PinV} (nf : ∀ i j, i < 3 → j < 3 → PySem.W.notFirst K (C i) (.ref (C j)) = true) (hy : PnAt C H y p) (hx : PnAt C H x p') (i1 : p.Is) (i2 : p'.Is) (k : ∀ H', Same H H' → Q (.bl (g (decide (p.tv = p'.tv)))) H') : rEqX K 3 C (RPn C) g (.ref y) (.ref x) H Q := by
  obtain ⟨dy, ey⟩ := id hy
  obtain ⟨dx, ex⟩ := id hx
  exact ⟨p.ix, y, dy, p.fs, _, p.lt, rfl, ey, .inl ⟨x, C p'.ix, dx, p'.fs, rfl, ex, nf _ _ p.lt p'.lt⟩, ⟨p, hy, i1, .inl ⟨x, p', rfl, hx, i2, rfl⟩⟩, fun H' e => k H' e⟩
theorem pin_tup {g : Bool → Bool} {y r : Addr} {p : PinV} {ws : List V} (hy : PnAt C H y p) (hr : H r = some (.tup ws)) (i1 : p.Is) (k : ∀ H', Same H H' → Q (.bl (g false)) H') : rEqX K 3 C (RPn C) g (.ref y) (.ref r) H Q := by
  obtain ⟨dy, ey⟩ := id hy
  exact ⟨p.ix, y, dy, p.fs, _, p.lt, rfl, ey, .inr (.inl ⟨r, ws, rfl, hr⟩), ⟨p, hy, i1, .inr (.inl ⟨⟨r, ws, rfl, hr⟩, rfl⟩)⟩, fun H' e => k H' e⟩
theorem pin_int {g : Bool → Bool} {y : Addr} {n : Int} {p : PinV} (hy : PnAt C H y p) (i1 : p.Is) (k : ∀ H', Same H H' → Q (.bl (g false)) H') : rEqX K 3 C (RPn C) g (.ref y) (.int n) H Q := by
  obtain ⟨dy, ey⟩ := id hy
  exact ⟨p.ix, y, dy, p.fs, _, p.lt, rfl, ey, .inr (.inr ⟨n, rfl⟩), ⟨p, hy, i1, .inr (.inr ⟨⟨n, rfl⟩, rfl⟩)⟩, fun H' e => k H' e⟩
end
theorem Off.ok {d l : Addr} {p : PinV} (h : p.Ok) : ∀ x ∈ p.tv, Off d l x := fun x hx => by
  rcases h.is x hx with ⟨n, rfl⟩ | ⟨z, rfl, _⟩
  · exact fun p e => nomatch e
  · exact fun p e => nomatch e
theorem tv_len (p : PinV) : p.tv.length ≤ 3 := by
  cases p with
  | must u n => exact (by decide : 3 ≤ 3)
  | never u n => exact (by decide : 3 ≤ 3)
  | stay u => exact (by decide : 2 ≤ 3)
theorem ThX.more {K : PySem.W.Frag} {d l : Addr} {m m' : Nat} {H : Hp} {v : V} {o : Option (List V)} (h : ThX K d l m H v o) (le : m ≤ m') : ThX K d l m' H v o := ⟨h.1, h.2.1, fun xs e => ⟨(h.2.2 xs e).1, Nat.le_trans (h.2.2 xs e).2 le⟩⟩
theorem shown0 : (PyData.int 0).shown = ("0" : Str) := by decide +kernel
theorem pair_snoc {α β : Type} {Pr : α → β → Prop} {a : α} {b : β} : ∀ {xs : List α} {ys : List β}, Paired Pr xs ys → Pr a b → Paired Pr (xs ++ [a]) (ys ++ [b])
  | _, _, .nil, h => .cons h .nil
  | _, _, .cons h' t, h => .cons h' (pair_snoc t h)
theorem paired_get2 {α β : Type} {F : α → β → Prop} : ∀ {l₁ : List α} {l₂ : List β} {j : Nat} {x : β}, Paired F l₁ l₂ → l₂[j]? = some x → ∃ y, l₁[j]? = some y ∧ F y x
  | _, _, _, _, .nil, h => by cases h
  | _, _, 0, x, .cons p t, h => ⟨_, rfl, by cases h; exact p⟩
  | _, _, j + 1, x, .cons p t, h => let ⟨y, e, f⟩ := paired_get2 (j := j) (x := x) t h; ⟨y, e, f⟩
structure W29 (P : Program) (w : World) (K : PySem.W.Frag) (mg : Str → Option Value) (base : Heap) (CP CI fE : Addr) (mc : Value) (C : Nat → Addr) (pr g : Nat → Addr) (fdt : Nat → FuncData) (f : Nat → Addr) (fd : Nat → FuncData) : Prop where
  pn : PnF K mg CP C fE
  to : ToF P w K mg base C pr g fdt
  nf : ∀ i j, i < 3 → j < 3 → PySem.W.notFirst K (C i) (.ref (C j)) = true
  rd : ClX.CRead K CP mc
  bg : Dn P w K mg base CX0 1 "_law_begin" ["_law_script"] (spBeginD K) (f 0) (fd 0)
  dt : Dn P w K mg base CX0 2 "_law_take" ["_law_draw", "_law_size"] spTakeD (f 1) (fd 1)
  nm : Dn P w K mg base CX0 4 "_law_names" ["_law_draw", "_law_many"] spNamesD (f 2) (fd 2)
  pa : Dn P w K mg base CX0 3 "_law_parents" ["_law_draw", "_law_names_here"] spParentsD (f 3) (fd 3)
  ts : Dn P w K mg base CX0 4 "_law_tolds" ["_law_draw", "_law_names_here", "_law_total", "_law_most"] spTolds (f 4) (fd 4)
  lp : Dn P w K mg base CX0 4 "_law_pin" ["_law_told"] (spLawPin C) (f 5) (fd 5)
  ch : Dn P w K mg base CX0 4 "_law_changed" ["_law_draw", "_law_thing"] (spChg K) (f 6) (fd 6)
  it : Dn P w K mg base CX0 1 "_law_is_told" ["_law_thing"] (spIsTold K) (f 7) (fd 7)
  of_ : FnOk P w K mg base (L2.CX P w) 4 (f 8) (fd 8) ["value"] (spOf K C CI)
  ofm : SMet K CP mc "of" (pr 8) (f 8)
  ofp : PySem.W.keepIn K (.ref (f 8)) = true
  ofb : Binds K (fd 8) ["value"] []
  ofk : KBn K (fd 8) ["value"] 0 ["value"] (ap2 Value) (ap2 V)
  eq : FnOk P w K mg base CX0 3 fE (fd 9) ["self", "other"] (spEqX (RPn C))
  eqb : Binds K (fd 9) ["self", "other"] []
  ar : FnG P w K mg base CX0 14 (f 10) (fd 10) ["_law_pin_here", "_law_told", "_law_parents_here", "_law_web"] (spAllR C)
  arm : mg "_law_allowed_right" = some (.ref (f 10))
  ark : PySem.W.keepIn K (.ref (f 10)) = true
  arb : Binds K (fd 10) ["_law_pin_here", "_law_told", "_law_parents_here", "_law_web"] []
  md : FnG P w K mg base CX0 4 (f 11) (fd 11) ["_law_draw"] spMade
  mdm : mg "_law_made_right" = some (.ref (f 11))
  mdk : PySem.W.keepIn K (.ref (f 11)) = true
  mdb : Binds K (fd 11) ["_law_draw"] []
def spLaw29 (K : PySem.W.Frag) (T : List (Addr × Str)) : Sp := fun vs H Q _ => ∃ (a : Addr) (ns : List Int), vs = [.ref a] ∧ SqL K H a (ns.map V.int) ∧ ns.length ≤ 63 ∧ Tabs T H ∧ ∀ H', Q (.bl true) H'
abbrev N29 : List Str := ["_law_script", "_law_draw", "_law_turn", "_law_names_here", "_law_parents_here", "_law_web", "_law_tolds_here", "_law_told", "_law_pins", "_law_at", "_law_step", "_law_due", "_law_thing", "_law_other"]
section
variable {P : Program} {w : World} {K : PySem.W.Frag} {mg : Str → Option Value} {base : Heap}
theorem sc29 : FnScope N29 ["_law_script"] (defScope s_law) := ⟨rfl, rfl, rfl, by decide +kernel, rfl, by decide +kernel, by decide +kernel⟩
theorem ok_law29 {f0 fEr CP CI fE R co ta : Addr} {mc : Value} {C CC : Nat → Addr} {T : List (Addr × Str)} {pr g f : Nat → Addr} {fdt fd : Nat → FuncData} {fd0 fdEr : FuncData} (F : FunC K "law" "law" s_law f0 fd0 co) (N : Nm mg) (L : W29 P w K mg base CP CI fE mc C pr g fdt f fd)
    (GE : Ge K mg "_law_error" s__law_error fEr fdEr) (Ce : Cl18 K mg R CC) (eI : CC 13 = CI) (TB : TabB base mg co ta) (hmT : (ta, lamQ "law") ∈ T) (hut : ∀ p ∈ T, p.1 = ta → p.2 = lamQ "law") : FnG P w K mg base CX0 15 f0 fd0 ["_law_script"] (spLaw29 K T) := by
  refine F.okG sc29 (fun vs H Q E h => ?_) (fun A outer s H vs Q E clr hr h => ?_)
  · obtain ⟨a, ns, rfl, _⟩ := h
    rfl
  · obtain ⟨a, nums, rfl, hS, hlen, tT, k⟩ := h
    have hu := hu_of hr
    have hr1 : Room 1 _ := hr.mono (by decide)
    have hr2 : Room 2 _ := hr.mono (by decide)
    have hr3 : Room 3 _ := hr.mono (by decide)
    have hr4 : Room (3 + 1) _ := hr.mono (by decide)
    have hr6 : Room (4 + 2) _ := hr.mono (by decide)
    have hr14 : Room 14 _ := hr.mono (by decide)
    have nd := sc29.nd
    have big : 20000 ≤ sizeLine := by decide
    refine ⟨_, pss_cons (ps_set (i := 1) nd rfl (.inl rfl) (pe_call L.bg.ok hr1 rfl L.bg.mgn L.bg.kp L.bg.bn .nil pass0 (pa_cons (pv 0) pa_nil)))
      (pss_cons (ps_for PassesOwn.never rfl (pi_range1 rfl N.rng (pa_cons (pe_op op_add pe_int (pe_callB (call_min2 rfl) (by rfl) N.min (by decide +kernel) (pa_cons (pe_callB call_len_seq (by rfl) N.len PySem.boot_len (pa_cons (pv 0) pa_nil)) (pa_cons pe_int pa_nil)))) pa_nil)) (pg_name (i := 2) nd rfl (.inl rfl))
          (pss_cons (ps_set (i := 3) nd rfl (.inl rfl) (pe_call L.nm.ok hr4 rfl L.nm.mgn L.nm.kp L.nm.bn .nil pass0 (pa_cons (pv 1) (pa_cons (pe_op op_add pe_int (pe_call L.dt.ok hr2 rfl L.dt.mgn L.dt.kp L.dt.bn .nil pass0 (pa_cons (pv 1) (pa_cons pe_int pa_nil)))) pa_nil))))
          (pss_cons (ps_par (i := 4) (j := 5) rfl nd rfl rfl (by decide) rfl rfl (pa_cons (pe_call L.pa.ok hr3 rfl L.pa.mgn L.pa.kp L.pa.bn .nil pass0 (pa_cons (pv 1) (pa_cons (pe_slice sl_list (pv 3) (po_some pe_int) po_none) pa_nil))) (pa_cons (pe_call L.pa.ok hr3 rfl L.pa.mgn L.pa.kp L.pa.bn .nil pass0 (pa_cons (pv 1) (pa_cons (pe_slice sl_list (pv 3) po_none (po_some (pe_un un_neg pe_int))) pa_nil))) pa_nil)) (by rfl))
          (pss_cons (ps_if (pt_not (pt_val (pe_callG L.md clr.deeper hr4 rfl L.mdm L.mdk L.mdb .nil pass0 (pa_cons (pv 1) pa_nil)))) (pss_one (ps_ret pe_bl)) pss_nil)
          (pss_cons (ps_set (i := 6) nd rfl (.inl rfl) (pe_op op_cat (pe_call L.ts.ok hr4 rfl L.ts.mgn L.ts.kp L.ts.bn .nil pass0 (pa_cons (pv 1) (pa_cons (pv 3) (pa_cons pe_int (pa_cons pe_int pa_nil))))) (pe_lst (pa_cons (pe_tup (pa_cons pe_str (pa_cons pe_int pa_nil))) (pa_cons (pe_tup (pa_cons pe_str (pa_cons pe_int (pa_cons (pe_ix ix_list (pv 3) pe_int (fun _ _ => rfl)) pa_nil)))) (pa_cons (pe_tup (pa_cons pe_str (pa_cons pe_int (pa_cons (pe_ix ix_list (pv 3) pe_int (fun _ _ => rfl)) pa_nil)))) pa_nil))))))
          (pss_cons (ps_set (i := 8) nd rfl (.inr rfl) (pe_lc (own := [("_law_told", 7)]) (g := gName 7) (tt := tYes) (te := tCall (spLawPin C) [] E0 (tCons (tVar 7) tNil)) rfl nd (pi_list (pv 6)) (blkOk_by (N := N29) (sc := defScope s_law) (by decide +kernel)) (fun _ _ _ _ _ => pg_name (i := 7) nd rfl (Or.inl rfl)) (fun _ _ _ _ _ => pts_nil) (fun _ _ _ _ _ => (pe_call L.lp.ok hr4 rfl L.lp.mgn L.lp.kp L.lp.bn .nil pass0 (pa_cons (pv 7) pa_nil)))))
          (pss_one (ps_for PassesOwn.never rfl (pi_enum rfl N.enu (pa_cons (pv 6) pa_nil)) (pg_tup rfl (pgs_cons (pg_name (i := 9) nd rfl (.inr rfl)) (pgs_cons (pg_name (i := 7) nd rfl (.inr rfl)) pgs_nil)))
            (pss_cons (ps_if (PW.pt (pw_or (pt_cmpR (op_neD hr.units) (pe_told (pe_ix ix_list (pv 8) (pv 9) (fun _ _ => rfl)) L.pn.cl L.to hr2 rfl) (pv 7) (nomark _)) (pw_or (pt_not (pt_val (pe_callB call_isi (by rfl) N.isi (by decide +kernel) (pa_cons (pe_ix ix_list (pv 8) (pv 9) (fun _ _ => rfl)) (pa_cons (pe_glob (v := .ref CP) (by rfl) L.pn.gP rfl) pa_nil))))) (pw_or1 (pt_cmpR (op_neX L.pn.eqx L.eq L.eqb (E := E0) pass0 hr4 (un_of hr1 (by decide))) (pe_smeth (E := E0) (pe_glob (v := .ref CP) (by rfl) L.pn.gP rfl) L.rd L.ofm L.of_ hr4 L.ofp L.ofb .nil L2.passL (pa_cons (pv 7) pa_nil)) (pe_ix ix_list (pv 8) (pv 9) (fun _ _ => rfl)) (nomark _)))))) (pss_one (ps_ret pe_bl)) pss_nil)
            (pss_cons (ps_if (PW.pt (pw_or (pt_cmpR (op_neD hr.units) (pe_told (pe_smethK (E := E0) (pe_glob (v := .ref CP) (by rfl) L.pn.gP rfl) L.rd L.ofm L.of_ hr4 L.ofp L.ofk L2.passL (pk_cons (pv 7) pk_nil)) L.pn.cl L.to hr2 rfl) (pv 7) (nomark _)) (pw_or (pt_cmpR (op_eqX L.pn.eqx L.eq L.eqb (E := E0) pass0 hr3) (pe_ix ix_list (pv 8) (pv 9) (fun _ _ => rfl)) (pv 7) (nomark _)) (pw_or1 (pt_cmpR (op_eqX L.pn.eqx L.eq L.eqb (E := E0) pass0 hr3) (pe_ix ix_list (pv 8) (pv 9) (fun _ _ => rfl)) pe_int (nomark _)))))) (pss_one (ps_ret pe_bl)) pss_nil)
            (pss_cons (ps_if (pt_cmpR (op_neD hr.units) (pe_lc (own := [("_law_other", 13)]) (g := gName 13) (tt := tYes) (te := tOp (rEqX K 3 C (RPn C) id) (tOp (rIxL K) (tVar 8) (tVar 9)) (tVar 13)) rfl nd (pi_list (pv 8)) (blkOk_by (N := N29) (sc := defScope s_law) (by decide +kernel)) (fun _ _ _ _ _ => pg_name (i := 13) nd rfl (Or.inl rfl)) (fun _ _ _ _ _ => pts_nil) (fun _ _ _ _ _ => pe_cmpR (op_eqX L.pn.eqx L.eq L.eqb (E := E0) pass0 hr3) (pe_ix ix_list (pv 8) (pv 9) (fun _ _ => rfl)) (pv 13) (nomark _))) (pe_lc (own := [("_law_other", 13)]) (g := gName 13) (tt := tYes) (te := tOp (rEqD K) (tVar 7) (tVar 13)) rfl nd (pi_list (pv 6)) (blkOk_by (N := N29) (sc := defScope s_law) (by decide +kernel)) (fun _ _ _ _ _ => pg_name (i := 13) nd rfl (Or.inl rfl)) (fun _ _ _ _ _ => pts_nil) (fun _ _ _ _ _ => pe_cmpR (op_eqD hr.units) (pv 7) (pv 13) (nomark _))) (nomark _)) (pss_one (ps_ret pe_bl)) pss_nil)
            (pss_cons (ps_if (pt_not (pt_val (pe_callG L.ar clr.deeper hr14 rfl L.arm L.ark L.arb .nil pass0 (pa_cons (pe_smeth (E := E0) (pe_glob (v := .ref CP) (by rfl) L.pn.gP rfl) L.rd L.ofm L.of_ hr4 L.ofp L.ofb .nil L2.passL (pa_cons (pv 7) pa_nil)) (pa_cons (pv 7) (pa_cons (pv 4) (pa_cons (pv 5) pa_nil))))))) (pss_one (ps_ret pe_bl)) pss_nil)
            (pss_cons (ps_if (pt_not (pt_val (pe_callG L.ar clr.deeper hr14 rfl L.arm L.ark L.arb .nil pass0 (pa_cons (pe_ix ix_list (pv 8) (pv 9) (fun _ _ => rfl)) (pa_cons (pv 7) (pa_cons (pv 4) (pa_cons (pv 4) pa_nil))))))) (pss_one (ps_ret pe_bl)) pss_nil)
            (pss_cons (ps_set (i := 12) nd rfl (.inr rfl) (pe_call L.ch.ok hr4 rfl L.ch.mgn L.ch.kp L.ch.bn .nil pass0 (pa_cons (pv 1) (pa_cons (pv 7) pa_nil))))
            (pss_cons (ps_for PassesOwn.never rfl (pi_range1 rfl N.rng (pa_cons (pe_call L.dt.ok hr2 rfl L.dt.mgn L.dt.kp L.dt.bn .nil pass0 (pa_cons (pv 1) (pa_cons pe_int pa_nil))) pa_nil)) (pg_name (i := 10) nd rfl (.inl rfl)) (pss_one (ps_set (i := 12) nd rfl (.inr rfl) (pe_call L.ch.ok hr4 rfl L.ch.mgn L.ch.kp L.ch.bn .nil pass0 (pa_cons (pv 1) (pa_cons (pv 12) pa_nil))))))
            (pss_cons (ps_set (i := 11) nd rfl (.inl rfl) (pe_ifExp (pt_val (pe_call L.it.ok hr1 rfl L.it.mgn L.it.kp L.it.bn .nil pass0 (pa_cons (pv 12) pa_nil))) pe_non (pe_tup (pa_cons pe_str (pa_cons pe_str pa_nil)))))
            (pss_one (ps_if (PW.pt (pw_or (pt_cmpR (op_neD hr.units) (pe_lamS (T := T) (k := 4) (t := fun E => tSMeth CP (spOf K C CI) [] E (tC (.ref CP)) (tCons (tVar 12) tNil)) rfl GE.mgn GE.fn GE.bn scErD rfl (.inl rfl) (fun cdg => error_givesD N Ce clr.deeper (un_of hr1 (by decide))) TB rfl hmT hut hr6 (lamS_by (sc := defScope s_law) (by decide +kernel)) rfl (fun _ _ _ _ _ => rfl) (fun A outer s H E f c' hr2 => pe_smeth (pe_glob (v := .ref CP) (by rfl) L.pn.gP rfl) L.rd L.ofm L.of_ hr2 L.ofp L.ofb .nil (passes_call (takes_of rfl rfl rfl rfl) (fun _ _ _ _ h => h)) (pa_cons (pv 12) pa_nil))) (pv 11) (nomark _)) (pw_or1 (PW.pt (pw_and (pt_cmpR op_isN (pv 11) pe_non (nomark _)) (pw_and1 (pt_cmpR (op_neD hr.units) (pe_told (pe_smeth (E := E0) (pe_glob (v := .ref CP) (by rfl) L.pn.gP rfl) L.rd L.ofm L.of_ hr4 L.ofp L.ofb .nil L2.passL (pa_cons (pv 12) pa_nil)) L.pn.cl L.to hr2 rfl) (pv 12) (nomark _)))))))) (pss_one (ps_ret pe_bl)) pss_nil))))))))))))))))))
      (pss_one (ps_ret pe_bl))), ?_⟩
    refine ⟨_, rfl, a, nums, rfl, hS, hlen, fun H0 d l i s0 nd0 nl0 ni0 dr0 => ?_⟩
    have tT0 : Tabs T H0 := tT.ext s0
    refine ⟨_, rfl, a, _, rfl, .inl (Same.sql s0 hS), _, _, rfl, _, _, rfl, rfl, ?_⟩
    obtain ⟨m, em⟩ : ∃ m : Int, m = 2 + (if (6 : Int) < ((nums.map V.int).length : Int) then 6 else ((nums.map V.int).length : Int)) := ⟨_, rfl⟩
    have lm : 0 ≤ m ∧ m ≤ 8 := by
      rw [List.length_map] at em
      subst em
      split <;> constructor <;> omega
    refine ⟨m, by rw [em] <;> rfl, by omega, by omega, ?_⟩
    refine for_it (walk_range (lo := 0) (n := m.toNat)) (fun j σ' H' => (∃ u2 u3 u4 u5 u6 u7 u8 u9 u10 u11 u12, σ' = [some (.ref a), some (.ref d), u2, u3, u4, u5, u6, u7, u8, u9, u10, u11, u12, none]) ∧ DrawD H' d l i (2000 * (j : Int)) ∧ Tabs T H') ⟨⟨_, _, _, _, _, _, _, _, _, _, _, rfl⟩, dr0.more (by decide), tT0⟩ (fun _ _ _ _ _ => trivial) ?_ ?_
    rotate_left
    · intro σ' He _
      exact k He
    intro jj xj σ' Ha Hb hj ⟨⟨u2, u3, u4, u5, u6, u7, u8, u9, u10, u11, u12, e⟩, dr, tb⟩ ⟨ea, eb⟩
    subst e
    subst ea
    subst eb
    obtain ⟨B, eB⟩ : ∃ B : Int, B = 2000 * (jj : Int) := ⟨_, rfl⟩
    have hB : B ≤ 20000 := by omega
    have fin : ∀ {H'' : Hp}, DrawD H'' d l i (B + 1900) → DrawD H'' d l i (2000 * (((jj + 1 : Nat)) : Int)) := fun D => D.more (by push_cast; omega)
    rw [← eB] at dr
    clear em lm hj eB
    -- the names
    refine seq_join2 (fun σ' H' => ∃ (pn : Addr) (ns : List Str), σ' = [some (.ref a), some (.ref d), some (.int (0 + ((jj : Nat) : Int))), some (.ref pn), u4, u5, u6, u7, u8, u9, u10, u11, u12, none] ∧ (2 ≤ ns.length ∧ ns.length ≤ 5) ∧ ns.Nodup ∧ (∀ z ∈ ns, NameL z) ∧ H' pn = some (.lst (ns.map V.str)) ∧ (pn ≠ d ∧ pn ≠ l) ∧ DrawD H' d l i (B + 501) ∧ Tabs T H') (fun D' nxD => ?_) (fun σ3 H3 ⟨pn, ns, e3, ln, ndn, nmn, hpn, on, dr3, tb3⟩ => ?_)
    · refine ⟨_, rfl, _, rfl, d, l, i, B, 4, rfl, dr, by omega, by decide, by decide, fun k1 H1 k10 k11 dr1 kp1 => ⟨_, _, rfl, rfl, d, l, i, B + 1, (2 + k1).toNat, by rw [Int.toNat_of_nonneg (by omega)] <;> rfl, dr1, by omega, by omega, fun pn ns H2 len nd_ nm np hp dr2 kp2 => ?_⟩⟩
      have ap := dr1.apart np
      exact nxD _ _ ⟨pn, ns, rfl, ⟨by omega, by omega⟩, nd_, nm, hp, ⟨ap.1, ap.2.1⟩, dr2.more (by omega), tabs_kx tb dr (kp1.trans kp2)⟩
    subst e3
    clear dr tb
    -- the two trees
    refine seq_join2 (fun σ' H' => ∃ (q1 q2 : Addr) (t1 t2 : List (Str × Str)), σ' = [some (.ref a), some (.ref d), some (.int (0 + ((jj : Nat) : Int))), some (.ref pn), some (.ref q1), some (.ref q2), u6, u7, u8, u9, u10, u11, u12, none] ∧ TreeOk t1 ∧ TreeOk t2 ∧ H' q1 = some (.dK (prs t1)) ∧ H' q2 = some (.dK (prs t2)) ∧ (q1 ≠ d ∧ q1 ≠ l) ∧ (q2 ≠ d ∧ q2 ≠ l) ∧ H' pn = some (.lst (ns.map V.str)) ∧ DrawD H' d l i (B + 701) ∧ Tabs T H') (fun D' nxD => ?_) (fun σ4 H4 ⟨q1, q2, t1, t2, e4, ok1, ok2, h1, h2, of1, of2, hpn4, dr4, tb4⟩ => ?_)
    · refine ⟨_, rfl, _, rfl, 1, rfl, pn, _, rfl, SqL.of hpn, fun p np => ?_⟩
      have s1 := same_new (o := .lst (cutV (ns.map V.str) (some 1) none)) np
      have ap := dr3.apart np
      have c1 : cutV (ns.map V.str) (some 1) none = (ns.drop 1).map V.str := by
        have := cut_dropD (xs := ns.map V.str) (j := 1) (by rw [List.length_map]; omega)
        rw [List.map_drop]
        exact this
      refine ⟨d, l, i, p, B + 501, ns.drop 1, rfl, dr3.mono s1, by omega, by rw [upd_same, c1], ap.1, ap.2.1, by rw [List.length_drop]; omega, by rw [List.length_drop]; omega, ndn.sublist (List.drop_sublist _ _), fun z hz => nmn z (List.mem_of_mem_drop hz), fun q1 t1 H5 o1 et1 nq1 hq1 dr5 kx5 => ?_⟩
      have K5 : KeepX [d, l] H3 H5 := (KeepX.of_same s1).trans kx5
      have aq1 := (dr3.mono s1).apart nq1
      have hpn5 := K5 pn _ (by simp [on.1, on.2]) hpn
      refine ⟨_, rfl, _, rfl, 1, rfl, _, rfl, pn, _, rfl, SqL.of hpn5, fun p' np' => ?_⟩
      have s6 := same_new (o := .lst (cutV (ns.map V.str) none (some (-1)))) np'
      have ap' := dr5.apart np'
      refine ⟨d, l, i, p', B + 601, ns.dropLast, rfl, (dr5.mono s6).more (by omega), by omega, by rw [upd_same, cut_butL, List.map_dropLast], ap'.1, ap'.2.1, by rw [List.length_dropLast]; omega, by rw [List.length_dropLast]; omega, ndn.sublist (List.dropLast_sublist _), fun z hz => nmn z (List.dropLast_subset _ hz), fun q2 t2 H7 o2 et2 nq2 hq2 dr7 kx7 => ?_⟩
      have K7 : KeepX [d, l] H5 H7 := (KeepX.of_same s6).trans kx7
      have aq2 := (dr5.mono s6).apart nq2
      exact ⟨_, _, rfl, nxD _ _ ⟨q1, q2, t1, t2, rfl, o1, o2, K7 q1 _ (by simp [aq1.1, aq1.2.1]) hq1, hq2, ⟨aq1.1, aq1.2.1⟩, ⟨aq2.1, aq2.2.1⟩, K7 pn _ (by simp [on.1, on.2]) hpn5, dr7.more (by omega), tabs_kx tb3 dr3 (K5.trans K7)⟩⟩
    subst e4
    clear dr3 tb3 hpn
    -- pins of any values
    refine seq_join2 (fun σ' H' => σ' = [some (.ref a), some (.ref d), some (.int (0 + ((jj : Nat) : Int))), some (.ref pn), some (.ref q1), some (.ref q2), u6, u7, u8, u9, u10, u11, u12, none] ∧ H' q1 = some (.dK (prs t1)) ∧ H' q2 = some (.dK (prs t2)) ∧ H' pn = some (.lst (ns.map V.str)) ∧ DrawD H' d l i (B + 711) ∧ Tabs T H') (fun D' nxD => ?_) (fun σ5 H5 ⟨e5, h1, h2, hpn5, dr5, tb5⟩ => ?_)
    · refine ⟨_, rfl, d, l, i, B + 701, rfl, dr4, by omega, fun H6 dr6 kx6 => ⟨_, rfl, ?_⟩⟩
      exact iteF (nxD _ _ ⟨rfl, kx6 q1 _ (by simp [of1.1, of1.2]) h1, kx6 q2 _ (by simp [of2.1, of2.2]) h2, kx6 pn _ (by simp [on.1, on.2]) hpn4, dr6.more (by omega), tabs_kx tb4 dr4 kx6⟩)
    subst e5
    clear dr4 tb4 hpn4
    -- what is told
    refine seq_join2 (fun σ' H' => ∃ (R : Addr) (rs : List Addr) (ps : List PinV), σ' = [some (.ref a), some (.ref d), some (.int (0 + ((jj : Nat) : Int))), some (.ref pn), some (.ref q1), some (.ref q2), some (.ref R), u7, u8, u9, u10, u11, u12, none] ∧ (∀ p ∈ ps, p.Ok) ∧ ps.length ≤ 13 ∧ H' R = some (.lst (rs.map V.ref)) ∧ (R ≠ d ∧ R ≠ l) ∧ TdR H' rs ps ∧ H' q1 = some (.dK (prs t1)) ∧ H' q2 = some (.dK (prs t2)) ∧ DrawD H' d l i (B + 811) ∧ Tabs T H') (fun D' nxD => ?_) (fun σ6 H6 ⟨R, rs, ps, e6, okp, lps, hR, oR, td, h1, h2, dr6, tb6⟩ => ?_)
    · refine ⟨_, rfl, _, rfl, d, l, i, pn, B + 711, 60, 5, ns, rfl, dr5, by omega, hpn5, on.1, on.2, by omega, by omega, nmn, by decide, by decide, by decide, by decide, fun R0 rs ps H1 nR hR0 td ok lps dr1 kx1 => ?_⟩
      have hpn1 := kx1 pn _ (by simp [on.1, on.2]) hpn5
      obtain ⟨n0, hn0⟩ : ∃ n0, ns[0]? = some n0 := ⟨_, List.getElem?_eq_getElem (by omega)⟩
      have nm0 := nmn n0 (List.mem_of_getElem? hn0)
      have at0 := atI_nat (map_at (f := V.str) hn0)
      refine ⟨by show 2 ≤ sizeLine; omega, fun p1 n1 => ?_⟩
      have s1 := same_new (o := .tup [V.str "stay", .int 0]) n1
      refine ⟨_, rfl, pn, _, 0, .str n0, rfl, rfl, SqL.of (s1 _ _ hpn1), at0, by show 3 ≤ sizeLine; omega, fun p2 n2 => ?_⟩
      have s2 := same_new (o := .tup [V.str "must", .int 0, .str n0]) n2
      refine ⟨_, rfl, pn, _, 0, .str n0, rfl, rfl, SqL.of (s2 _ _ (s1 _ _ hpn1)), at0, by show 3 ≤ sizeLine; omega, fun p3 n3 => ?_⟩
      have s3 := same_new (o := .tup [V.str "never", .int 0, .str n0]) n3
      refine ⟨by show 3 ≤ sizeLine; omega, fun p4 n4 => ?_⟩
      have s4 := same_new (o := .lst [V.ref p1, .ref p2, .ref p3]) n4
      have S := ((s1.trans s2).trans s3).trans s4
      have lrs := td.len
      refine ⟨R0, p4, _, _, rfl, rfl, S _ _ hR0, upd_same, by rw [List.length_map]; show _ + 3 ≤ sizeLine; omega, fun R nR' => ?_⟩
      have s5 := same_new (o := .lst (rs.map V.ref ++ [V.ref p1, .ref p2, .ref p3])) nR'
      have S5 := S.trans s5
      have ap := (dr1.mono S).apart nR'
      have K5 : KeepX [d, l] H5 _ := kx1.trans (.of_same S5)
      refine nxD _ _ ⟨R, rs ++ [p1, p2, p3], ps ++ [.stay (.int 0), .must (.int 0) (.str n0), .never (.int 0) (.str n0)], rfl, fun p hp => ?_, by rw [List.length_append]; show _ + 3 ≤ 13; omega, by rw [upd_same, List.map_append] <;> rfl, ⟨ap.1, ap.2.1⟩, ?_, K5 q1 _ (by simp [of1.1, of1.2]) h1, K5 q2 _ (by simp [of2.1, of2.2]) h2, (dr1.mono S5).more (by omega), tabs_kx tb5 dr5 K5⟩
      · rcases List.mem_append.mp hp with h | h
        · exact ok p h
        · simp only [List.mem_cons, List.not_mem_nil, or_false] at h
          rcases h with rfl | rfl | rfl
          · exact ⟨0, rfl, Int.le_refl _⟩
          · exact ⟨0, n0, rfl, Int.le_refl _, rfl, nm0⟩
          · exact ⟨0, n0, rfl, Int.le_refl _, rfl, nm0⟩
      · have td5 := td.mono fun b u e => S5 b _ e
        have a1 : TdR _ (rs ++ [p1]) (ps ++ [.stay (.int 0)]) := TdR.snoc (((s2.trans s3).trans s4).trans s5 _ _ upd_same) td5
        have a2 : TdR _ ((rs ++ [p1]) ++ [p2]) ((ps ++ [.stay (.int 0)]) ++ [.must (.int 0) (.str n0)]) := TdR.snoc ((s3.trans s4).trans s5 _ _ upd_same) a1
        have a3 := TdR.snoc (p := .never (.int 0) (.str n0)) (s4.trans s5 _ _ upd_same) a2
        simpa using a3
    subst e6
    clear dr5 tb5 hpn5
    -- the pins
    refine seq_join2 (fun σ' H' => ∃ (M : Addr) (xs : List Addr), σ' = [some (.ref a), some (.ref d), some (.int (0 + ((jj : Nat) : Int))), some (.ref pn), some (.ref q1), some (.ref q2), some (.ref R), u7, some (.ref M), u9, u10, u11, u12, none] ∧ G29 T C d l i (B + 811) q1 q2 R M t1 t2 rs xs ps H') (fun D' nxD => ?_) (fun σ7 H7 ⟨M, xs, e7, g7⟩ => ?_)
    · refine ⟨_, rfl, R, rfl, ⟨_, SqL.of hR⟩, fun D nD => lc_list (xs := rs.map V.ref) (fun n H' => Same H6 H' ∧ ∃ qs : List Addr, H' D = some (.lst (qs.map V.ref)) ∧ Paired (fun (a : Addr) (p : PinV) => PnAt C H' a p) qs (ps.take n) ∧ qs.length = n) ⟨same_new nD, [], upd_same, .nil, rfl⟩ (fun n H' _ z => SqL.of (z.1 _ _ hR)) ?_ ?_⟩
      · intro n v H' hv ⟨z1, qs, z2, z3, z4⟩
        obtain ⟨r, hr_, rfl⟩ := map_of hv
        obtain ⟨p, hp, hrp⟩ := LiI.paired_get td hr_
        have okp_ := okp p (List.mem_of_getElem? hp)
        refine ⟨rfl, ?_⟩
        refine ⟨_, rfl, r, p, rfl, z1 _ _ hrp, okp_, fun y H2 s2 ny at_ => ?_⟩
        have yD : y ≠ D := (ne_of_none z2 ny).symm
        have ln' := (List.getElem?_eq_some_iff.mp hp).1
        refine ⟨_, s2 _ _ z2, by rw [List.length_map]; omega, Same.put (z1.trans s2) nD, qs ++ [y], by rw [upd_same, List.map_append] <;> rfl, ?_, by rw [List.length_append, z4] <;> rfl⟩
        rw [take_more hp]
        have mv : ∀ (a' : Addr) (p' : PinV), PnAt C H2 a' p' → PnAt C (upd H2 D (.lst (qs.map V.ref ++ [V.ref y]))) a' p' := fun a' p' ⟨dx, h⟩ => ⟨dx, by
          rw [upd_ne (ne_of h (s2 _ _ z2) (by intro z; cases z))]
          exact h⟩
        exact pair_snoc (pair_mv (fun a' p' h => mv a' p' (h.mono s2)) z3) (mv y p at_)
      · intro H8 ⟨z1, qs, z2, z3, z4⟩
        have lr := td.len
        rw [List.length_map] at z3 z4
        rw [List.take_of_length_le (by omega)] at z3
        have ap := dr6.apart nD
        refine nxD _ _ ⟨D, qs, rfl, ⟨dr6.mono z1, tb6.ext z1, z1 _ _ h1, z1 _ _ h2, z1 _ _ hR, z2, td.mono fun b u e => z1 b _ e, z3, of1, of2, oR, ⟨ap.1, ap.2.1⟩⟩⟩
    subst e7
    clear dr6 tb6 hR td h1 h2
    have lrp := g7.td.len
    refine ⟨_, rfl, R, rs.map V.ref, rfl, SqL.of g7.hR, ?_⟩
    refine for_it walk_enum (fun j σ' H' => (∃ u7 u9 u10 u11 u12, σ' = [some (.ref a), some (.ref d), some (.int (0 + ((jj : Nat) : Int))), some (.ref pn), some (.ref q1), some (.ref q2), some (.ref R), u7, some (.ref M), u9, u10, u11, u12, none]) ∧ G29 T C d l i (B + 811 + 22 * (j : Int)) q1 q2 R M t1 t2 rs xs ps H') ⟨⟨_, _, _, _, _, rfl⟩, g7.more (by omega)⟩ (fun j σ' H' _ z => SqL.of z.2.hR) ?_ ?_
    rotate_left
    · intro σ' H8 ⟨⟨u7, u9, u10, u11, u12, e⟩, g⟩
      subst e
      rw [List.length_map] at g
      exact ⟨⟨_, _, _, _, _, _, _, _, _, _, _, rfl⟩, fin (g.dr.more (by omega)), g.tb⟩
    intro j TT σ' Hc Hd hj' ⟨⟨u7, u9, u10, u11, u12, e⟩, g8⟩ ⟨T', y, z, eT, nT, eH, ey, ez⟩
    subst e
    subst eT
    subst eH
    cases ey
    rw [List.length_map] at hj'
    obtain ⟨r, hr_, rfl⟩ := map_of (show (rs.map V.ref)[j]? = some z from ez)
    obtain ⟨p, hp, hrp0⟩ := LiI.paired_get g8.td hr_
    have okp_ := okp p (List.mem_of_getElem? hp)
    have is_ := okp_.is
    obtain ⟨x, hx, hxp0⟩ := paired_get2 g8.pn hp
    have atM := atI_nat (map_at (f := V.ref) hx)
    have lxp := Paired.length g8.pn
    obtain ⟨H9, e9⟩ : ∃ X, X = upd Hc T' (.tup [.int (j : Int), .ref r]) := ⟨_, rfl⟩
    have s9 : Same Hc H9 := e9 ▸ same_new nT
    have a9 : H9 T' = some (.tup [.int (j : Int), .ref r]) := by rw [e9]; exact upd_same
    rw [← e9]
    have g9 := g8.same s9
    clear g8 e9 nT hrp0 hxp0
    refine ⟨T', _, rfl, .inl (.inl a9), rfl, _, _, rfl, _, _, rfl, rfl, ?_⟩
    obtain ⟨b, eb⟩ : ∃ b : Int, b = B + 811 + 22 * (j : Int) := ⟨_, rfl⟩
    rw [← eb] at g9
    have hb : b ≤ 10 ^ 6 := by omega
    have atp : ∀ {H'}, G29 T C d l i b q1 q2 R M t1 t2 rs xs ps H' → H' r = some (.tup p.tv) ∧ PnAt C H' x p := fun g => by
      obtain ⟨p1, hp1, z1⟩ := LiI.paired_get g.td hr_
      obtain ⟨p2, hp2, z2⟩ := LiI.paired_get g.pn hx
      cases hp.symm.trans hp1
      cases hp.symm.trans hp2
      exact ⟨z1, z2⟩
    -- told, the class, made of what is told
    refine seq_join2 (fun σ' H' => σ' = [some (.ref a), some (.ref d), some (.int (0 + ((jj : Nat) : Int))), some (.ref pn), some (.ref q1), some (.ref q2), some (.ref R), some (.ref r), some (.ref M), some (.int (j : Int)), u10, u11, u12, none] ∧ G29 T C d l i b q1 q2 R M t1 t2 rs xs ps H') (fun D' nxD => ?_) (fun σ10 H10 ⟨e10, g10⟩ => ?_)
    · obtain ⟨hrp, hxp⟩ := atp g9
      refine ⟨_, rfl, _, rfl, M, _, j, .ref x, rfl, rfl, SqL.of g9.hM, atM, x, p, rfl, hxp, fun q nq => ?_⟩
      have s1 := same_new (o := .tup p.tv) nq
      have g1 := g9.same s1
      refine ⟨_, rfl, ne_tups (.inl (.inl upd_same)) (.inl (.inl (s1 _ _ hrp))) is_ is_ ?_⟩
      rw [decide_eq_true rfl]
      refine ⟨_, rfl, iteF ?_⟩
      obtain ⟨dx, hdx⟩ := (atp g1).2
      have S := L.pn.isf _ p.lt
      refine ⟨_, rfl, _, rfl, M, _, j, .ref x, rfl, rfl, SqL.of g1.hM, atM, .ref x, _, .ref (C p.ix), _, true, rfl, .own _, .base (.ins hdx (L.pn.cl _ p.lt) S.ha S.hn S.ht S.hm), L.pn.kit _ p.lt, true, rfl, iteF ?_⟩
      refine ⟨rfl, _, rfl, of_yes okp_ (s1 _ _ hrp) fun y H2 s2 ny at_ => ?_⟩
      have g2 := g1.same s2
      refine ⟨_, rfl, _, rfl, M, _, j, .ref x, rfl, rfl, SqL.of g2.hM, atM, pin_pin L.nf at_ (atp g2).2 is_ is_ fun H3 s3 => ?_⟩
      rw [decide_eq_true rfl]
      exact ⟨_, rfl, iteF (nxD _ _ ⟨rfl, g2.same s3⟩)⟩
    subst e10
    clear g9 a9
    -- by keyword, == to other things
    refine seq_join2 (fun σ' H' => σ' = [some (.ref a), some (.ref d), some (.int (0 + ((jj : Nat) : Int))), some (.ref pn), some (.ref q1), some (.ref q2), some (.ref R), some (.ref r), some (.ref M), some (.int (j : Int)), u10, u11, u12, none] ∧ G29 T C d l i b q1 q2 R M t1 t2 rs xs ps H') (fun D' nxD => ?_) (fun σ11 H11 ⟨e11, g11⟩ => ?_)
    · obtain ⟨hrp, hxp⟩ := atp g10
      refine ⟨rfl, _, rfl, rfl, of_yes okp_ hrp fun y H1 s1 ny at_ => ?_⟩
      have g1 := g10.same s1
      refine ⟨y, p, rfl, at_, fun q nq => ?_⟩
      have s2 := same_new (o := .tup p.tv) nq
      have g2 := g1.same s2
      refine ⟨_, rfl, ne_tups (.inl (.inl upd_same)) (.inl (.inl (atp g2).1)) is_ is_ ?_⟩
      rw [decide_eq_true rfl]
      refine ⟨_, rfl, iteF ?_⟩
      refine ⟨_, rfl, _, rfl, M, _, j, .ref x, rfl, rfl, SqL.of g2.hM, atM, _, rfl, pin_tup (atp g2).2 (atp g2).1 is_ fun H3 s3 => ⟨_, rfl, iteF ?_⟩⟩
      have g3 := g2.same s3
      refine ⟨_, rfl, _, rfl, M, _, j, .ref x, rfl, rfl, SqL.of g3.hM, atM, ?_⟩
      dsimp only [tC]
      refine pin_int (atp g3).2 is_ fun H4 s4 => ⟨_, rfl, iteF ?_⟩
      exact nxD _ _ ⟨rfl, g3.same s4⟩
    subst e11
    clear g10
    -- == to all pins
    refine seq_join2 (fun σ' H' => σ' = [some (.ref a), some (.ref d), some (.int (0 + ((jj : Nat) : Int))), some (.ref pn), some (.ref q1), some (.ref q2), some (.ref R), some (.ref r), some (.ref M), some (.int (j : Int)), u10, u11, u12, none] ∧ G29 T C d l i b q1 q2 R M t1 t2 rs xs ps H') (fun D' nxD => ?_) (fun σ12 H12 ⟨e12, g12⟩ => ?_)
    · refine ⟨_, rfl, M, rfl, ⟨_, SqL.of g11.hM⟩, fun D1 nD1 => lc_list (xs := xs.map V.ref) (fun n H' => Same H11 H' ∧ H' D1 = some (.lst (((ps.take n).map fun p' => decide (p.tv = p'.tv)).map V.bl))) ⟨same_new nD1, upd_same⟩ (fun n H' _ z => SqL.of (z.1 _ _ g11.hM)) ?_ ?_⟩
      · intro n v H' hv ⟨z1, z2⟩
        obtain ⟨x', hx', rfl⟩ := map_of hv
        have gn := g11.same z1
        obtain ⟨p', hp', hxp'⟩ := LiI.paired_get gn.pn hx'
        have ln' := (List.getElem?_eq_some_iff.mp hp').1
        refine ⟨rfl, ?_⟩
        refine ⟨_, rfl, _, rfl, M, _, j, .ref x, rfl, rfl, SqL.of gn.hM, atM, _, rfl, pin_pin L.nf (atp gn).2 hxp' is_ (okp p' (List.mem_of_getElem? hp')).is fun H2 s2 => ?_⟩
        refine ⟨_, s2 _ _ z2, by rw [List.length_map, List.length_map, List.length_take]; omega, Same.put (z1.trans s2) nD1, ?_⟩
        rw [upd_same, take_more hp', List.map_append, List.map_append] <;> rfl
      · intro H13 ⟨z1, z2⟩
        rw [List.length_map, List.take_of_length_le (by omega)] at z2
        have g13 := g11.same z1
        refine ⟨_, rfl, R, rfl, ⟨_, SqL.of g13.hR⟩, fun D2 nD2 => lc_list (xs := rs.map V.ref) (fun n H' => Same H13 H' ∧ H' D2 = some (.lst (((ps.take n).map fun p' => decide (p.tv = p'.tv)).map V.bl))) ⟨same_new nD2, upd_same⟩ (fun n H' _ z => SqL.of (z.1 _ _ g13.hR)) ?_ ?_⟩
        · intro n v H' hv ⟨y1, y2⟩
          obtain ⟨r', hr', rfl⟩ := map_of hv
          have gn := g13.same y1
          obtain ⟨p', hp', hrp'⟩ := LiI.paired_get gn.td hr'
          have ln' := (List.getElem?_eq_some_iff.mp hp').1
          refine ⟨rfl, ?_⟩
          refine ⟨_, rfl, _, rfl, eq_tups (.inl (.inl (atp gn).1)) (.inl (.inl hrp')) is_ (okp p' (List.mem_of_getElem? hp')).is ?_⟩
          refine ⟨_, y2, by rw [List.length_map, List.length_map, List.length_take]; omega, Same.put y1 nD2, ?_⟩
          rw [upd_same, take_more hp', List.map_append, List.map_append] <;> rfl
        · intro H14 ⟨y1, y2⟩
          rw [List.length_map, List.take_of_length_le (by omega)] at y2
          exact ne_bls (y1 _ _ z2) y2 ⟨_, rfl, iteF (nxD _ _ ⟨rfl, g13.same y1⟩)⟩
    subst e12
    clear g11
    -- what it allows
    refine seq_join2 (fun σ' H' => σ' = [some (.ref a), some (.ref d), some (.int (0 + ((jj : Nat) : Int))), some (.ref pn), some (.ref q1), some (.ref q2), some (.ref R), some (.ref r), some (.ref M), some (.int (j : Int)), u10, u11, u12, none] ∧ G29 T C d l i b q1 q2 R M t1 t2 rs xs ps H') (fun D' nxD => ?_) (fun σ13 H13 ⟨e13, g13⟩ => ?_)
    · refine ⟨rfl, _, rfl, of_yes okp_ (atp g12).1 fun y H1 s1 ny at_ => ?_⟩
      have g1 := g12.same s1
      refine ⟨_, rfl, _, rfl, _, rfl, y, r, q1, q2, p, t1, t2, rfl, at_, (atp g1).1, okp_, g1.h1, ok1, g1.h2, ok2, fun H2 s2 => ⟨_, rfl, iteF (nxD _ _ ⟨rfl, g1.same s2⟩)⟩⟩
    subst e13
    clear g12
    refine seq_join2 (fun σ' H' => σ' = [some (.ref a), some (.ref d), some (.int (0 + ((jj : Nat) : Int))), some (.ref pn), some (.ref q1), some (.ref q2), some (.ref R), some (.ref r), some (.ref M), some (.int (j : Int)), u10, u11, u12, none] ∧ G29 T C d l i b q1 q2 R M t1 t2 rs xs ps H') (fun D' nxD => ?_) (fun σ14 H14 ⟨e14, g14⟩ => ?_)
    · refine ⟨_, rfl, _, rfl, M, _, j, .ref x, rfl, rfl, SqL.of g13.hM, atM, _, rfl, _, rfl, _, rfl, x, r, q1, q1, p, t1, t1, rfl, (atp g13).2, (atp g13).1, okp_, g13.h1, ok1, g13.h1, ok1, fun H2 s2 => ⟨_, rfl, iteF (nxD _ _ ⟨rfl, g13.same s2⟩)⟩⟩
    subst e14
    clear g13
    -- another thing
    refine seq_join2 (fun σ' H' => ∃ (v : V) (o : Option (List V)), σ' = [some (.ref a), some (.ref d), some (.int (0 + ((jj : Nat) : Int))), some (.ref pn), some (.ref q1), some (.ref q2), some (.ref R), some (.ref r), some (.ref M), some (.int (j : Int)), u10, u11, some v, none] ∧ ThX K d l 5 H' v o ∧ G29 T C d l i (b + 10) q1 q2 R M t1 t2 rs xs ps H') (fun D' nxD => ?_) (fun σ15 H15 ⟨v0, o0, e15, th15, g15⟩ => ?_)
    · have hrp := (atp g14).1
      refine ⟨_, rfl, _, rfl, d, l, i, b, .ref r, some p.tv, 3, rfl, g14.dr, by omega, ⟨okp_.th hrp, off_tup g14.dr hrp, fun ws e => by cases e; exact ⟨Off.ok okp_, tv_len p⟩⟩, by decide, fun v o H1 th dr1 kx1 => ?_⟩
      exact nxD _ _ ⟨v, o, rfl, th, g14.kx dr1 kx1⟩
    subst e15
    clear g14
    refine seq_join2 (fun σ' H' => ∃ (u10 : Option V) (v : V) (o : Option (List V)), σ' = [some (.ref a), some (.ref d), some (.int (0 + ((jj : Nat) : Int))), some (.ref pn), some (.ref q1), some (.ref q2), some (.ref R), some (.ref r), some (.ref M), some (.int (j : Int)), u10, u11, some v, none] ∧ ThX K d l 7 H' v o ∧ G29 T C d l i (b + 21) q1 q2 R M t1 t2 rs xs ps H') (fun D' nxD => ?_) (fun σ16 H16 ⟨w10, v, o, e16, th16, g16⟩ => ?_)
    · refine ⟨_, rfl, d, l, i, b + 10, 2, rfl, g15.dr, by omega, by decide, by decide, fun k1 H1 k10 k11 dr1 kp1 => ⟨k1, rfl, by omega, by omega, ?_⟩⟩
      have g1 := g15.kx dr1 kp1
      have th1 := th15.kx kp1
      refine for_it (walk_range (lo := 0) (n := k1.toNat)) (fun n σ' H' => ∃ (u10 : Option V) (v : V) (o : Option (List V)), σ' = [some (.ref a), some (.ref d), some (.int (0 + ((jj : Nat) : Int))), some (.ref pn), some (.ref q1), some (.ref q2), some (.ref R), some (.ref r), some (.ref M), some (.int (j : Int)), u10, u11, some v, none] ∧ ThX K d l (5 + 2 * n) H' v o ∧ G29 T C d l i (b + 11 + 10 * (n : Int)) q1 q2 R M t1 t2 rs xs ps H') ⟨_, v0, o0, rfl, th1, g1.more (by omega)⟩ (fun _ _ _ _ _ => trivial) ?_ ?_
      · intro n y σ' Hc Hd hn ⟨u10, v, o, e, th, g⟩ ⟨ea, eb⟩
        subst e
        subst ea
        subst eb
        have n0 : n = 0 := by omega
        subst n0
        refine ⟨_, rfl, _, rfl, d, l, i, b + 11, v, o, 5, rfl, g.dr.more (by omega), by omega, th, by decide, fun v' o' H2 th2 dr2 kx2 => ?_⟩
        exact ⟨_, v', o', rfl, th2, (g.kx dr2 kx2).more (by omega)⟩
      · intro σ' H2 ⟨u10, v, o, e, th, g⟩
        subst e
        exact nxD _ _ ⟨_, v, o, rfl, th.more (by omega), g.more (by omega)⟩
    subst e16
    clear g15 th15
    -- what is due
    refine seq_join2 (fun σ' H' => ∃ due : V, σ' = [some (.ref a), some (.ref d), some (.int (0 + ((jj : Nat) : Int))), some (.ref pn), some (.ref q1), some (.ref q2), some (.ref R), some (.ref r), some (.ref M), some (.int (j : Int)), w10, some due, some v, none] ∧ ThX K d l 7 H' v o ∧ (((toldOf o).isSome = true ∧ due = .non) ∨ ((toldOf o).isSome = false ∧ ∃ q, due = .ref q ∧ H' q = some (.tup [.str "pin", .str "0"]))) ∧ G29 T C d l i (b + 21) q1 q2 R M t1 t2 rs xs ps H') (fun D' nxD => ?_) (fun σ17 H17 ⟨due, e17, th17, dd, g17⟩ => ?_)
    · refine ⟨_, rfl, v, o, rfl, th16.1, fun H1 s1 => ⟨_, rfl, ?_⟩⟩
      refine ite2 (fun yes => ?_) (fun no => ?_)
      · exact nxD _ _ ⟨.non, rfl, th16.mono s1, .inl ⟨yes, rfl⟩, g16.same s1⟩
      · refine ⟨by show 2 ≤ sizeLine; omega, fun q nq => ?_⟩
        have s2 := same_new (o := .tup [V.str "pin", .str "0"]) nq
        exact nxD _ _ ⟨.ref q, rfl, th16.mono (s1.trans s2), .inr ⟨Bool.not_eq_true _ |>.mp no, q, rfl, upd_same⟩, g16.same (s1.trans s2)⟩
    subst e17
    clear g16 th16
    -- the error
    have fin2 : ∀ {H''}, G29 T C d l i (b + 21) q1 q2 R M t1 t2 rs xs ps H'' → (∃ u7 u9 u10 u11 u12, ([some (.ref a), some (.ref d), some (.int (0 + ((jj : Nat) : Int))), some (.ref pn), some (.ref q1), some (.ref q2), some (.ref R), some (.ref r), some (.ref M), some (.int (j : Int)), w10, some due, some v, none] : St) = [some (.ref a), some (.ref d), some (.int (0 + ((jj : Nat) : Int))), some (.ref pn), some (.ref q1), some (.ref q2), some (.ref R), u7, some (.ref M), u9, u10, u11, u12, none]) ∧ G29 T C d l i (B + 811 + 22 * (((j + 1 : Nat)) : Int)) q1 q2 R M t1 t2 rs xs ps H'' := fun g => ⟨⟨_, _, _, _, _, rfl⟩, g.more (by push_cast; omega)⟩
    refine ⟨g17.tb, fun H18 e18 tb18 => ?_⟩
    have g18 := g17.extN e18 tb18
    have th18 := th17.ext e18
    refine ⟨rfl, _, rfl, v, o, rfl, th18.1, ?_⟩
    rcases dd with ⟨yes, rfl⟩ | ⟨no, q, rfl, hq⟩
    · obtain ⟨p', ep'⟩ := Option.isSome_iff_exists.mp yes
      rw [ep']
      intro y H19 s19 ny at19
      intro H20 s20
      have S20 := s19.trans s20
      have g20 := g18.same S20
      have th20 := th18.mono S20
      refine ⟨_, rfl, .none, .none, .non, .non, rfl, rfl, ?_⟩
      refine ⟨_, rfl, iteF ?_⟩
      refine ⟨_, rfl, rfl, _, rfl, iteT ?_⟩
      cases o with
      | none => cases ep'
      | some ws =>
        have tv := told_tv (show toldX ws = some p' from ep')
        obtain ⟨th, _⟩ := th20
        refine ⟨rfl, _, rfl, v, some ws, rfl, th, ?_⟩
        rw [ep']
        intro y2 H21 s21 ny2 at21
        obtain ⟨av, rfl, hav, _⟩ := th
        refine ⟨y2, p', rfl, at21, fun q nq => ?_⟩
        have s22 := same_new (o := .tup p'.tv) nq
        refine ⟨_, rfl, ne_tups (.inl (.inl upd_same)) (.inl (.inl (s22 _ _ (s21 _ _ hav)))) tv.2.1 (by rw [← tv.1]; exact tv.2.1) ?_⟩
        rw [decide_eq_true tv.1]
        exact ⟨_, rfl, iteF (fin2 (g20.same (s21.trans s22)))⟩
    · rw [show toldOf o = none from Option.not_isSome_iff_eq_none.mp (by rw [no]; decide)]
      have hq18 := e18 _ _ hq fun ps z => nomatch z
      intro dd0 H19 s19 nd19 hd19
      refine ⟨by rw [eI], ⟨dd0, rfl, hd19⟩, fun p1 H20 s20 np hp20 => ?_⟩
      have S20 := s19.trans s20
      have hq20 := S20 _ _ hq18
      rw [shown0] at hp20
      have I2 : ∀ x ∈ ([V.str "pin", .str "0"] : List V), IS x := fun x hx => by
        simp only [List.mem_cons, List.not_mem_nil, or_false] at hx
        rcases hx with rfl | rfl
        · exact .inr ⟨_, rfl, by decide +kernel⟩
        · exact .inr ⟨_, rfl, by decide +kernel⟩
      refine ⟨_, rfl, ne_tups (.inl (.inl hp20)) (.inl (.inl hq20)) I2 I2 ?_⟩
      rw [decide_eq_true rfl]
      refine ⟨_, rfl, iteF ?_⟩
      refine ⟨_, rfl, rfl, _, rfl, ?_⟩
      exact iteF (iteF (fin2 (g18.same S20)))
end
end FT


/-! Own: FunS from what the top's run shows -/
namespace SupX
open PySem PySem.Spec PyProof.Rows L2 ClX
theorem funS_mk {P : Program} {K : PySem.W.Frag} {x qual : Str} {st : Stmt} {D f cc cd : Addr} {oc : Value} {od : Option Addr} {kV doc pm : Value} {an : Option Addr} {ct : Value} {osl : Array (Option Value)} {ccl : Value} {cdd : Option Addr} {vs : Array Value} {ccs : Array (Option Value)} {file : Str} {tf : Tok} {cl : Value} {cld : Option Addr} {csl : Array (Option Value)}
    (l : K.lookup f = some ⟨oc, od, .func (PySem.W.fnX x qual (defArgs st) (defBody st) (defScope st) [("__class__", cc)] .none kV doc pm an (.ref cd) ct), osl⟩) (c : PySem.W.codeIn K (.ref cd) qual = true) (d : K.lookup cd = some ⟨ccl, cdd, .fields vs, ccs⟩) (v : vs[2]? = some (.str file tf)) (e : ((P.main.file : Str) == file) = true)
    (z : K.lookup cc = some ⟨cl, cld, .cell (some (.ref D)), csl⟩) (k : PySem.W.keepIn K (.ref f) = true) : FunS P K x qual st D f (PySem.W.fnX x qual (defArgs st) (defBody st) (defScope st) [("__class__", cc)] .none kV doc pm an (.ref cd) ct) :=
  ⟨⟨cc, oc, od, kV, doc, pm, an, cd, ct, osl, rfl, l, c, ⟨ccl, cdd, vs, ccs, file, tf, d, v, e⟩, cl, cld, csl, z⟩, k⟩
end SupX


/-! what the module's top says of classes, of defs: the form that the row's end asks for. -/
namespace FT
open PySem L2 TL ClX
abbrev exTail : List Value := [.type "ValueError", .type "Exception", .type "BaseException", .type "object"]
/-- an own class at C, its chain behind it -/
def ClsAt (K : PySem.W.Frag) (C : Addr) (bm : List Value) : Prop := ∃ nm q N bs sn sub ab col dd k0 k1 k2 k3 k5, K.lookup C = some (excClassObj nm q C N bs bm true sn sub ab col dd k0 k1 k2 k3 k5 "ValueError.__new__")
section
variable {K : PySem.W.Frag} {C : Addr} {bm : List Value}
theorem ClsAt.cls (h : ClsAt K C bm) : ∃ cd : ClassData, PySem.W.clsIn K C = some cd ∧ cd.mro = .ref C :: bm ∧ cd.hasDict = true := by
  obtain ⟨nm, q, N, bs, sn, sub, ab, col, dd, k0, k1, k2, k3, k5, e⟩ := h
  refine ⟨{ name := nm, bases := bs, mro := .ref C :: bm, ns := N, qualname := q, hasDict := true, slotNames := sn, subclasses := sub, abstract := ab, collection := col }, ?_, rfl, rfl⟩
  unfold PySem.W.clsIn
  rw [e]
theorem ClsAt.ty (h : ClsAt K C bm) : PySem.W.typeIn K (.ref C) = some (.type "type") := by
  obtain ⟨nm, q, N, bs, sn, sub, ab, col, dd, k0, k1, k2, k3, k5, e⟩ := h
  show (K.lookup C).map (·.cls) = _
  rw [e] <;> rfl
theorem ClsAt.mroIs (h : ClsAt K C bm) (b : Value) : PySem.W.mroIn K C b = some ((Value.ref C :: bm).contains b) := by
  obtain ⟨cd, e1, e2, _⟩ := h.cls
  unfold PySem.W.mroIn
  rw [e1]
  show (if cd.mro.isEmpty then none else some (cd.mro.contains b)) = _
  rw [e2] <;> rfl
theorem ClsAt.sub (h : ClsAt K C bm) (b : Value) : PySem.W.subIn K (.ref C) b = some ((Value.ref C :: bm).contains b) := h.mroIs b
theorem ClsAt.hd (h : ClsAt K C bm) : PySem.W.hasDictIn K C = true := by
  obtain ⟨cd, e1, _, e3⟩ := h.cls
  show (PySem.W.clsIn K C).any (·.hasDict) = true
  rw [e1]
  exact e3
theorem ClsAt.isC (h : ClsAt K C bm) : (PySem.W.clsIn K C).isSome = true := by
  obtain ⟨cd, e1, _⟩ := h.cls
  rw [e1] <;> rfl
/-- isinstance of the class at C against the class at D -/
theorem ClsAt.kit {D : Addr} {bn : List Value} (h : ClsAt K C bm) (g : ClsAt K D bn) : PySem.W.kitOne K (.ref C) (.ref D) = some ((Value.ref C :: bm).contains (.ref D)) := by
  unfold PySem.W.kitOne
  by_cases e : (Value.ref C == Value.ref D) = true
  · rw [if_pos e, beq_iff_eq.mp e, List.contains_cons, beq_self_eq_true] <;> rfl
  · rw [if_neg e]
    have e2 : ((PySem.W.clsIn K D).isSome && PySem.W.typeIn K (.ref D) == some (.type "type")) = true := by rw [g.isC, g.ty] <;> rfl
    show (if _ then PySem.W.subIn K (.ref C) (.ref D) else none) = _
    rw [if_pos e2, h.sub]
theorem ClsAt.exm {D : Addr} {bn : List Value} (h : ClsAt K C bm) (g : ClsAt K D bn) (eD : (Value.ref D :: bn).contains (.type "BaseException") = true) : PySem.W.exmOne K (.ref C) (.ref D) = some ((Value.ref C :: bm).contains (.ref D)) :=
  PySem.W.exm_ref (by rw [g.sub, eD]) g.hd g.ty (h.sub _)
end
/-- what the top says of one error class -/
structure ClsF (K : PySem.W.Frag) (nm f : Str) (C I R : Addr) : Prop where
  nsn : PySem.W.nsIn K mainGlobals nm = some (some (.ref C))
  at_ : ClsAt K C (.ref R :: exTail)
  sa : PySem.W.findIn K (.ref C) "__setattr__" = some (some (.builtin "object.__setattr__"))
  ga : PySem.W.findIn K (.ref C) "__getattribute__" = some (some (.builtin "BaseException.__getattribute__"))
  gg : PySem.W.findIn K (.ref C) "__getattr__" = some none
  ha : PySem.W.findIn K (.ref C) "__class__" = some (some (.builtin "object.__class__"))
  kC : PySem.W.keepIn K (.ref C) = true
  no : PySem.W.findIn K (.ref C) f = some none
  ini : PySem.W.findIn K (.ref C) "__init__" = some (some (.ref I))
  ity : PySem.W.typeIn K (.ref I) = some (.type "function")
/-- and of what they share -/
structure RootF (K : PySem.W.Frag) (R : Addr) : Prop where
  nsn : PySem.W.nsIn K mainGlobals "RolloutError" = some (some (.ref R))
  at_ : ClsAt K R exTail
  rd : PySem.W.readsIn K R (.type "type") = true
  ga : PySem.W.specialIn K (.ref R) "__getattribute__" = some (some (.builtin "type.__getattribute__"))
  ini : PySem.W.findCls K (.ref R) (.type "type") "__init__" = some (.val (.builtin "ValueError.__init__"))
  hn : PySem.W.specialIn K (.builtin "object.__class__") "__get__" = some (some (.builtin "getset_descriptor.__get__"))
  ht : PySem.W.takesIn K (.builtin "object.__class__") = some true
theorem ClsF.x {K : PySem.W.Frag} {nm f : Str} {C I R : Addr} (c : ClsF K nm f C I R) (r : RootF K R) : XCls K C where
  cls := by
    obtain ⟨nm, q, N, bs, sn, sub, ab, col, dd, k0, k1, k2, k3, k5, e⟩ := c.at_
    exact ⟨nm, q, N, bs, _, sn, sub, ab, col, dd, k0, k1, k2, k3, k5, e, rfl⟩
  sa := c.sa
  exC := by rw [c.at_.sub] <;> rfl
  tyC := c.at_.ty
  kC := c.kC
  ga := c.ga
  gg := c.gg
  hdC := c.at_.hd
  ha := c.ha
  hn := r.hn
  ht := r.ht
  hm := by rw [c.at_.mroIs] <;> rfl
theorem has_cls {C R D : Addr} {b : Bool} (h : decide (C = D) = b) (n : R ≠ D) : (Value.ref C :: Value.ref R :: exTail).contains (.ref D) = b := by
  subst h
  by_cases e : C = D
  · subst e
    rw [List.contains_cons, beq_self_eq_true, decide_eq_true rfl] <;> rfl
  · have e1 : (Value.ref D == Value.ref C) = false := beq_eq_false_iff_ne.mpr fun z => e (Value.ref.inj z).symm
    have e2 : (Value.ref D == Value.ref R) = false := beq_eq_false_iff_ne.mpr fun z => n (Value.ref.inj z).symm
    rw [decide_eq_false e, List.contains_cons, e1, List.contains_cons, e2] <;> rfl
theorem has_root {C R : Addr} : (Value.ref C :: Value.ref R :: exTail).contains (.ref R) = true := by
  rw [List.contains_cons, List.contains_cons, beq_self_eq_true, Bool.true_or, Bool.or_true]
theorem kit_bt {K : PySem.W.Frag} {C R : Addr} (c : ClsAt K C (.ref R :: exTail)) : PySem.W.kitOne K (.ref C) (.type "ValueError") = some true := by
  unfold PySem.W.kitOne
  rw [if_neg (show ¬ (Value.ref C == Value.type "ValueError") = true from fun z => nomatch (show false = true from z))]
  have e2 : PySem.W.kitMeta "ValueError" = true := by decide +kernel
  show (if PySem.W.kitMeta "ValueError" = true then PySem.W.subIn K (.ref C) (.type "ValueError") else none) = _
  rw [if_pos e2, c.sub] <;> rfl
/-- what the top says of a class with a constant MOST -/
structure ClsK (K : PySem.W.Frag) (nm : Str) (C : Addr) (n : Int) (t : Nat) : Prop where
  nsn : PySem.W.nsIn K mainGlobals nm = some (some (.ref C))
  rd : PySem.W.readsIn K C (.type "type") = true
  ga : PySem.W.specialIn K (.ref C) "__getattribute__" = some (some (.builtin "type.__getattribute__"))
  most : PySem.W.findCls K (.ref C) (.type "type") "MOST" = some (.val (.int n t))
  pg : PySem.W.plainGet K C Str.empty = true
  hd : PySem.W.hasDictIn K C = true
  po : PySem.W.plainOver K C = true
  sa : PySem.W.findIn K (.ref C) "__setattr__" = some (some (.builtin "object.__setattr__"))
  mks : PySem.W.makesIn K C = true
  kp : PySem.W.keepIn K (.ref C) = true
  ha : PySem.W.findIn K (.ref C) "__class__" = some (some (.builtin "object.__class__"))
  hn : PySem.W.specialIn K (.builtin "object.__class__") "__get__" = some (some (.builtin "getset_descriptor.__get__"))
  ht : PySem.W.takesIn K (.builtin "object.__class__") = some true
  hm : PySem.W.mroIn K C (.type "object") = some true
/-- a method -/
structure MetK (K : PySem.W.Frag) (C : Addr) (m : Str) (f : Addr) : Prop where
  at_ : PySem.W.findIn K (.ref C) m = some (some (.ref f))
  fn : PySem.W.isFn K (.ref f) = true
/-- a property -/
structure PrK (K : PySem.W.Frag) (C : Addr) (m : Str) (p g : Addr) (rest : List Value) : Prop where
  at_ : PySem.W.findIn K (.ref C) m = some (some (.ref p))
  get : PySem.W.specialIn K (.ref p) "__get__" = some (some (.builtin "property.__get__"))
  tak : PySem.W.takesIn K (.ref p) = some true
  rec_ : PySem.W.recIn K p "property" = some (.ref g :: rest)
theorem ClsF.er {K : PySem.W.Frag} {h : Heap} {mg : Str → Option Value} {nm f : Str} {C I R : Addr} (X : K.In h) (G : h.Ns mainGlobals mg) (c : ClsF K nm f C I R) (r : RootF K R) : Er K mg nm f C I :=
  ⟨PySem.W.mg_of X G c.nsn, c.x r, c.ini, c.ity, c.no⟩
theorem RootF.rt {K : PySem.W.Frag} {h : Heap} {mg : Str → Option Value} {R : Addr} (X : K.In h) (G : h.Ns mainGlobals mg) (r : RootF K R) : Rt K mg R := ⟨PySem.W.mg_of X G r.nsn, ⟨r.rd, r.ga, r.ini⟩⟩
theorem ClsK.cls {K : PySem.W.Frag} {nm : Str} {C : Addr} {n : Int} {t : Nat} (k : ClsK K nm C n t) : Cls K C := ⟨k.pg, k.hd, k.po, k.sa⟩
/-- a def with its code object and the table of that -/
structure TabK (K : PySem.W.Frag) (x : Str) (c P : Addr) : Prop where
  at_ : PySem.W.tabIn K x = some (c, P)
  no : K.lookup P = none
end FT


/-! a list is no instance of an own class, an own instance is no tuple -/
namespace FT
open PySem L2 TL ClX LamX NdefX
end FT


/-! an own class and its own base: isinstance, super() -/
namespace FT
open PySem L2 TL ClX LamX NdefX
theorem mro_ty {C : Addr} {T : String} (e : (PySem.fastBuiltinMro T).any (fun l => l.all fun v => match v with | .type _ => true | _ => false) = true) : ∃ l, PySem.fastBuiltinMro T = some l ∧ l.contains (Value.ref C) = false := by
  cases h : PySem.fastBuiltinMro T with
  | none => rw [h] at e; cases e
  | some l =>
    refine ⟨l, rfl, ?_⟩
    rw [h] at e
    cases hc : l.contains (Value.ref C) with
    | false => rfl
    | true =>
      have z := List.all_eq_true.mp e _ (List.contains_iff_mem.mp hc)
      cases z
theorem kit_tyC {K : PySem.W.Frag} {C : Addr} {T : String} (e : (PySem.fastBuiltinMro T).any (fun l => l.all fun v => match v with | .type _ => true | _ => false) = true) (hd : PySem.W.hasDictIn K C = true) (ty : PySem.W.typeIn K (.ref C) = some (.type "type")) : PySem.W.kitOne K (.type T) (.ref C) = some false := by
  obtain ⟨cd, hc, _⟩ := PySem.W.any_some hd
  obtain ⟨l, h1, h2⟩ := mro_ty (C := C) e
  show (if (Value.type T == Value.ref C) = true then some true else if ((PySem.W.clsIn K C).isSome && PySem.W.typeIn K (.ref C) == some (.type "type")) = true then (PySem.fastBuiltinMro T).map (·.contains (Value.ref C)) else none) = some false
  rw [hc, ty, h1, Option.map_some, h2]
  simp
theorem isC_of {K : PySem.W.Frag} {C : Addr} (hd : PySem.W.hasDictIn K C = true) : (PySem.W.clsIn K C).isSome = true := by
  obtain ⟨cd, hc, _⟩ := PySem.W.any_some hd
  rw [hc] <;> rfl
theorem kit_base {K : PySem.W.Frag} {C B : Addr} (hd : PySem.W.hasDictIn K B = true) (ty : PySem.W.typeIn K (.ref B) = some (.type "type")) (m : PySem.W.mroIn K C (.ref B) = some true) : PySem.W.kitOne K (.ref C) (.ref B) = some true := by
  unfold PySem.W.kitOne
  by_cases e : (Value.ref C == Value.ref B) = true
  · rw [if_pos e]
  · rw [if_neg e]
    have e2 : ((PySem.W.clsIn K B).isSome && PySem.W.typeIn K (.ref B) == some (.type "type")) = true := by rw [isC_of hd, ty] <;> rfl
    show (if _ then PySem.W.mroIn K C (.ref B) else none) = _
    rw [if_pos e2, m]
/-- the class at C stands right before the class at B and its bases -/
structure SubOf (K : PySem.W.Frag) (C B : Addr) : Prop where
  ex : ∃ (a : Value) (b : Option Addr) (cd : ClassData) (d : Array (Option Value)) (a' : Value) (b' : Option Addr) (cd' : ClassData) (d' : Array (Option Value)), K.lookup C = some ⟨a, b, .cls cd, d⟩ ∧ K.lookup B = some ⟨a', b', .cls cd', d'⟩ ∧ cd.mro = .ref C :: cd'.mro
theorem subOf_mk {K : PySem.W.Frag} {C B : Addr} {a a' : Value} {b b' : Option Addr} {cd cd' : ClassData} {d d' : Array (Option Value)} (h1 : K.lookup C = some ⟨a, b, .cls cd, d⟩) (h2 : K.lookup B = some ⟨a', b', .cls cd', d'⟩) (e : cd.mro = .ref C :: cd'.mro) : SubOf K C B := ⟨a, b, cd, d, a', b', cd', d', h1, h2, e⟩
theorem SubOf.sup {K : PySem.W.Frag} {C B : Addr} {m : Str} {v : Value} (s : SubOf K C B) (f : PySem.W.findIn K (.ref B) m = some (some v)) : PySem.W.ks_superIn K C C m = some (some v) := by
  obtain ⟨a, b, cd, d, a', b', cd', d', h1, h2, e⟩ := s.ex
  unfold PySem.W.findIn at f
  simp only [h2] at f
  have hc : PySem.W.clsIn K C = some cd := by
    unfold PySem.W.clsIn
    rw [h1]
  unfold PySem.W.ks_superIn
  rw [hc, Option.bind_some, e]
  rw [List.dropWhile_cons, if_neg (by simp), List.drop_succ_cons, List.drop_zero]
  exact f
end FT


/-! what the top says of a class without a constant, of a static method -/
namespace FT
open PySem L2 TL ClX
structure ClsN (K : PySem.W.Frag) (nm : Str) (C : Addr) : Prop where
  nsn : PySem.W.nsIn K mainGlobals nm = some (some (.ref C))
  rd : PySem.W.readsIn K C (.type "type") = true
  ga : PySem.W.specialIn K (.ref C) "__getattribute__" = some (some (.builtin "type.__getattribute__"))
  pg : PySem.W.plainGet K C Str.empty = true
  hd : PySem.W.hasDictIn K C = true
  po : PySem.W.plainOver K C = true
  sa : PySem.W.findIn K (.ref C) "__setattr__" = some (some (.builtin "object.__setattr__"))
  mks : PySem.W.makesIn K C = true
  kp : PySem.W.keepIn K (.ref C) = true
theorem ClsN.cls {K : PySem.W.Frag} {nm : Str} {C : Addr} (k : ClsN K nm C) : Cls K C := ⟨k.pg, k.hd, k.po, k.sa⟩
/-- a static method -/
structure StK (K : PySem.W.Frag) (C : Addr) (m : Str) (p f : Addr) (rest : List Value) : Prop where
  at_ : PySem.W.findCls K (.ref C) (.type "type") m = some (.get (.builtin "staticmethod.__get__") (.ref p) .none (.ref C))
  rec_ : PySem.W.recIn K p "staticmethod" = some (.ref f :: rest)
theorem StK.sm {K : PySem.W.Frag} {C p f : Addr} {m : Str} {rest : List Value} (s : StK K C m p f rest) : SMet K C (.type "type") m p f := ⟨s.at_, _, s.rec_⟩
end FT


namespace FT
open PySem PySem.Spec PyProof.Rows L2 TL ClX LamX NdefX
section
variable {q : Program} {l : PySem.W.OpenLaw} {w : World} {K : PySem.W.Frag} {h : Heap} {mg : Str → Option Value} {fa : Addr}
theorem all_mk {f_bgD f_dtD f_dpD f_nmD f_paD f_phD f_plD f_tsD f_alD f_lpD f_itD f_chD f_erD f_arD f_mdR f_unr f_isV f_pin f_tM f_tN f_tS f_aM f_aN f_aS f_peq f_of f_law p_tM p_tN p_tS p_of C_InvalidForest C_UnknownName C_InvalidUsers C_InvalidSizes C_InvalidPlace C_NotBest C_UnknownUser C_Mismatch C_InvalidNumber C_InvalidLists C_NeedsMemory C_TooMany C_InvalidLimits C_InvalidPin C_Crowded C_InvalidCommand C_InvalidJournal C_InvalidText I_InvalidForest I_UnknownName I_InvalidUsers I_InvalidSizes I_InvalidPlace I_NotBest I_UnknownUser I_Mismatch I_InvalidNumber I_InvalidLists I_NeedsMemory I_TooMany I_InvalidLimits I_InvalidPin I_Crowded I_InvalidCommand I_InvalidJournal I_InvalidText R c_law t_law CP CM CN CS f_mi f_ni : Addr} {d_bgD d_dtD d_dpD d_nmD d_paD d_phD d_plD d_tsD d_alD d_lpD d_itD d_chD d_erD d_arD d_mdR d_unr d_isV d_pin d_tM d_tN d_tS d_aM d_aN d_aS d_peq d_of d_law D_InvalidForest D_UnknownName D_InvalidUsers D_InvalidSizes D_InvalidPlace D_NotBest D_UnknownUser D_Mismatch D_InvalidNumber D_InvalidLists D_NeedsMemory D_TooMany D_InvalidLimits D_InvalidPin D_Crowded D_InvalidCommand D_InvalidJournal D_InvalidText d_mi d_ni : FuncData} {tL tT : Nat} {r_tM r_tN r_tS r_of : List Value} (X : K.In h) (G : h.Ns mainGlobals mg) (hfa : mg "law" = some (.ref fa)) (TO : TabsOf q K h)
    (kCP : ClsN K "Pin" CP)
    (kCM : ClsN K "Must" CM)
    (noCM_who : PySem.W.findIn K (.ref CM) "who" = some none)
    (noCM_wanted_flag : PySem.W.findIn K (.ref CM) "wanted_flag" = some none)
    (kCN : ClsN K "Never" CN)
    (noCN_who : PySem.W.findIn K (.ref CN) "who" = some none)
    (noCN_barred_flag : PySem.W.findIn K (.ref CN) "barred_flag" = some none)
    (kCS : ClsN K "Stay" CS)
    (noCS_who : PySem.W.findIn K (.ref CS) "who" = some none)
    (x_haCM : PySem.W.findIn K (.ref CM) "__class__" = some (some (.builtin "object.__class__")))
    (x_hmCM : PySem.W.mroIn K CM (.type "object") = some true)
    (x_mrCM : PySem.W.mroIn K CM (.ref CP) = some true)
    (x_neCM : PySem.W.findIn K (.ref CM) "__ne__" = some (some (.builtin "object.__ne__")))
    (x_haCN : PySem.W.findIn K (.ref CN) "__class__" = some (some (.builtin "object.__class__")))
    (x_hmCN : PySem.W.mroIn K CN (.type "object") = some true)
    (x_mrCN : PySem.W.mroIn K CN (.ref CP) = some true)
    (x_neCN : PySem.W.findIn K (.ref CN) "__ne__" = some (some (.builtin "object.__ne__")))
    (x_haCS : PySem.W.findIn K (.ref CS) "__class__" = some (some (.builtin "object.__class__")))
    (x_hmCS : PySem.W.mroIn K CS (.type "object") = some true)
    (x_mrCS : PySem.W.mroIn K CS (.ref CP) = some true)
    (x_neCS : PySem.W.findIn K (.ref CS) "__ne__" = some (some (.builtin "object.__ne__")))
    (x_hn : PySem.W.specialIn K (.builtin "object.__class__") "__get__" = some (some (.builtin "getset_descriptor.__get__")))
    (x_ht : PySem.W.takesIn K (.builtin "object.__class__") = some true)
    (x_tyP : PySem.W.typeIn K (.ref CP) = some (.type "type"))
    (x_sup : PySem.W.nsIn K mainGlobals "super" = some none)
    (x_op : PySem.W.nsIn K cStatics "thirdparty.any" = some none)
    (x_nf00 : PySem.W.notFirst K CM (.ref CM) = true)
    (x_nf01 : PySem.W.notFirst K CM (.ref CN) = true)
    (x_nf02 : PySem.W.notFirst K CM (.ref CS) = true)
    (x_nf10 : PySem.W.notFirst K CN (.ref CM) = true)
    (x_nf11 : PySem.W.notFirst K CN (.ref CN) = true)
    (x_nf12 : PySem.W.notFirst K CN (.ref CS) = true)
    (x_nf20 : PySem.W.notFirst K CS (.ref CM) = true)
    (x_nf21 : PySem.W.notFirst K CS (.ref CN) = true)
    (x_nf22 : PySem.W.notFirst K CS (.ref CS) = true)
    (cL : PySem.W.nsIn K mainGlobals "LONGEST" = some (some (.int 8 tL)))
    (cT : PySem.W.nsIn K mainGlobals "LETTERS" = some (some (.str letters tT)))
    (n_bgD : PySem.W.nsIn K mainGlobals "_law_begin" = some (some (.ref f_bgD)))
    (u_bgD : L2.Fun K "_law_begin" "_law_begin" s__law_begin f_bgD d_bgD)
    (n_dtD : PySem.W.nsIn K mainGlobals "_law_take" = some (some (.ref f_dtD)))
    (u_dtD : L2.Fun K "_law_take" "_law_take" s__law_take f_dtD d_dtD)
    (n_dpD : PySem.W.nsIn K mainGlobals "_law_pick" = some (some (.ref f_dpD)))
    (u_dpD : L2.Fun K "_law_pick" "_law_pick" s__law_pick f_dpD d_dpD)
    (n_nmD : PySem.W.nsIn K mainGlobals "_law_names" = some (some (.ref f_nmD)))
    (u_nmD : L2.Fun K "_law_names" "_law_names" s__law_names f_nmD d_nmD)
    (n_paD : PySem.W.nsIn K mainGlobals "_law_parents" = some (some (.ref f_paD)))
    (u_paD : L2.Fun K "_law_parents" "_law_parents" s__law_parents f_paD d_paD)
    (n_phD : PySem.W.nsIn K mainGlobals "_law_path" = some (some (.ref f_phD)))
    (u_phD : L2.Fun K "_law_path" "_law_path" s__law_path f_phD d_phD)
    (n_plD : PySem.W.nsIn K mainGlobals "_law_places" = some (some (.ref f_plD)))
    (u_plD : L2.Fun K "_law_places" "_law_places" s__law_places f_plD d_plD)
    (n_tsD : PySem.W.nsIn K mainGlobals "_law_tolds" = some (some (.ref f_tsD)))
    (u_tsD : L2.Fun K "_law_tolds" "_law_tolds" s__law_tolds f_tsD d_tsD)
    (n_alD : PySem.W.nsIn K mainGlobals "_law_allows" = some (some (.ref f_alD)))
    (u_alD : L2.Fun K "_law_allows" "_law_allows" s__law_allows f_alD d_alD)
    (n_lpD : PySem.W.nsIn K mainGlobals "_law_pin" = some (some (.ref f_lpD)))
    (u_lpD : L2.Fun K "_law_pin" "_law_pin" s__law_pin f_lpD d_lpD)
    (n_itD : PySem.W.nsIn K mainGlobals "_law_is_told" = some (some (.ref f_itD)))
    (u_itD : L2.Fun K "_law_is_told" "_law_is_told" s__law_is_told f_itD d_itD)
    (n_chD : PySem.W.nsIn K mainGlobals "_law_changed" = some (some (.ref f_chD)))
    (u_chD : L2.Fun K "_law_changed" "_law_changed" s__law_changed f_chD d_chD)
    (n_erD : PySem.W.nsIn K mainGlobals "_law_error" = some (some (.ref f_erD)))
    (u_erD : L2.Fun K "_law_error" "_law_error" s__law_error f_erD d_erD)
    (n_arD : PySem.W.nsIn K mainGlobals "_law_allowed_right" = some (some (.ref f_arD)))
    (u_arD : L2.Fun K "_law_allowed_right" "_law_allowed_right" s__law_allowed_right f_arD d_arD)
    (n_mdR : PySem.W.nsIn K mainGlobals "_law_made_right" = some (some (.ref f_mdR)))
    (u_mdR : L2.Fun K "_law_made_right" "_law_made_right" s__law_made_right f_mdR d_mdR)
    (n_unr : PySem.W.nsIn K mainGlobals "is_user_number" = some (some (.ref f_unr)))
    (u_unr : L2.Fun K "is_user_number" "is_user_number" s_is_user_number f_unr d_unr)
    (n_isV : PySem.W.nsIn K mainGlobals "is_name" = some (some (.ref f_isV)))
    (u_isV : L2.Fun K "is_name" "is_name" s_is_name f_isV d_isV)
    (n_law : PySem.W.nsIn K mainGlobals "law" = some (some (.ref f_law)))
    (u_law : FunC K "law" "law" s_law f_law d_law c_law)
    (t1_law : PySem.W.tabIn K "law" = some (c_law, t_law))
    (t2_law : K.lookup t_law = none)
    (t3_law : ((recsOf q).find? (fun e => e.name == ("law" : Str))).isSome = true)
    (a_mi : PySem.W.findIn K (.ref CM) "__init__" = some (some (.ref f_mi)))
    (af_mi : PySem.W.isFn K (.ref f_mi) = true)
    (fs_mi : SupX.FunS l.prog K "__init__" "Must.__init__" s_Must___init__ CM f_mi d_mi)
    (a_ni : PySem.W.findIn K (.ref CN) "__init__" = some (some (.ref f_ni)))
    (af_ni : PySem.W.isFn K (.ref f_ni) = true)
    (fs_ni : SupX.FunS l.prog K "__init__" "Never.__init__" s_Never___init__ CN f_ni d_ni)
    (x_top : (l.prog.main.scope.names.lookup ("super" : Str)).isSome = false)
    (m_pin : MetK K CS "__init__" f_pin)
    (m_aM : MetK K CM "allows" f_aM)
    (m_aN : MetK K CN "allows" f_aN)
    (m_aS : MetK K CS "allows" f_aS)
    (m_peq : MetK K CM "__eq__" f_peq)
    (m_tM : PrK K CM "told" p_tM f_tM r_tM)
    (m_tN : PrK K CN "told" p_tN f_tN r_tN)
    (m_tS : PrK K CS "told" p_tS f_tS r_tS)
    (m_of : StK K CP "of" p_of f_of r_of)
    (u_pin : L2.Fun K "__init__" "Pin.__init__" s_Pin___init__ f_pin d_pin)
    (u_aM : L2.Fun K "allows" "Must.allows" s_Must_allows f_aM d_aM)
    (u_aN : L2.Fun K "allows" "Never.allows" s_Never_allows f_aN d_aN)
    (u_aS : L2.Fun K "allows" "Stay.allows" s_Stay_allows f_aS d_aS)
    (u_peq : L2.Fun K "__eq__" "Pin.__eq__" s_Pin___eq__ f_peq d_peq)
    (u_tM : L2.Fun K "told" "Must.told" s_Must_told f_tM d_tM)
    (u_tN : L2.Fun K "told" "Never.told" s_Never_told f_tN d_tN)
    (u_tS : L2.Fun K "told" "Stay.told" s_Stay_told f_tS d_tS)
    (u_of : L2.Fun K "of" "Pin.of" s_Pin_of f_of d_of)
    (y_somi : SubOf K CM CP)
    (y_submi : PySem.W.mroIn K CM (.ref CM) = some true)
    (y_eqmi : PySem.W.findIn K (.ref CN) "__eq__" = some (some (.ref f_peq)))
    (y_soni : SubOf K CN CP)
    (y_subni : PySem.W.mroIn K CN (.ref CN) = some true)
    (y_eqni : PySem.W.findIn K (.ref CS) "__eq__" = some (some (.ref f_peq)))
    (y_iP : PySem.W.findIn K (.ref CP) "__init__" = some (some (.ref f_pin)))
    (y_ty : PySem.W.typeIn K (.ref f_pin) = some (.type "function"))
    (y_fi : PySem.W.fnIn K f_pin = true)
    (rt0 : RootF K R)
    (e_InvalidForest : ClsF K "InvalidForest" "name" C_InvalidForest I_InvalidForest R)
    (i_InvalidForest : L2.Fun K "__init__" "InvalidForest.__init__" s_InvalidForest___init__ I_InvalidForest D_InvalidForest)
    (e_UnknownName : ClsF K "UnknownName" "name" C_UnknownName I_UnknownName R)
    (i_UnknownName : L2.Fun K "__init__" "UnknownName.__init__" s_UnknownName___init__ I_UnknownName D_UnknownName)
    (e_InvalidUsers : ClsF K "InvalidUsers" "" C_InvalidUsers I_InvalidUsers R)
    (i_InvalidUsers : L2.Fun K "__init__" "InvalidUsers.__init__" s_InvalidUsers___init__ I_InvalidUsers D_InvalidUsers)
    (e_InvalidSizes : ClsF K "InvalidSizes" "place" C_InvalidSizes I_InvalidSizes R)
    (i_InvalidSizes : L2.Fun K "__init__" "InvalidSizes.__init__" s_InvalidSizes___init__ I_InvalidSizes D_InvalidSizes)
    (e_InvalidPlace : ClsF K "InvalidPlace" "user" C_InvalidPlace I_InvalidPlace R)
    (i_InvalidPlace : L2.Fun K "__init__" "InvalidPlace.__init__" s_InvalidPlace___init__ I_InvalidPlace D_InvalidPlace)
    (e_NotBest : ClsF K "NotBest" "" C_NotBest I_NotBest R)
    (i_NotBest : L2.Fun K "__init__" "NotBest.__init__" s_NotBest___init__ I_NotBest D_NotBest)
    (e_UnknownUser : ClsF K "UnknownUser" "user" C_UnknownUser I_UnknownUser R)
    (i_UnknownUser : L2.Fun K "__init__" "UnknownUser.__init__" s_UnknownUser___init__ I_UnknownUser D_UnknownUser)
    (e_Mismatch : ClsF K "Mismatch" "" C_Mismatch I_Mismatch R)
    (i_Mismatch : L2.Fun K "__init__" "Mismatch.__init__" s_Mismatch___init__ I_Mismatch D_Mismatch)
    (e_InvalidNumber : ClsF K "InvalidNumber" "" C_InvalidNumber I_InvalidNumber R)
    (i_InvalidNumber : L2.Fun K "__init__" "InvalidNumber.__init__" s_InvalidNumber___init__ I_InvalidNumber D_InvalidNumber)
    (e_InvalidLists : ClsF K "InvalidLists" "" C_InvalidLists I_InvalidLists R)
    (i_InvalidLists : L2.Fun K "__init__" "InvalidLists.__init__" s_InvalidLists___init__ I_InvalidLists D_InvalidLists)
    (e_NeedsMemory : ClsF K "NeedsMemory" "" C_NeedsMemory I_NeedsMemory R)
    (i_NeedsMemory : L2.Fun K "__init__" "NeedsMemory.__init__" s_NeedsMemory___init__ I_NeedsMemory D_NeedsMemory)
    (e_TooMany : ClsF K "TooMany" "most" C_TooMany I_TooMany R)
    (i_TooMany : L2.Fun K "__init__" "TooMany.__init__" s_TooMany___init__ I_TooMany D_TooMany)
    (e_InvalidLimits : ClsF K "InvalidLimits" "name" C_InvalidLimits I_InvalidLimits R)
    (i_InvalidLimits : L2.Fun K "__init__" "InvalidLimits.__init__" s_InvalidLimits___init__ I_InvalidLimits D_InvalidLimits)
    (e_InvalidPin : ClsF K "InvalidPin" "index" C_InvalidPin I_InvalidPin R)
    (i_InvalidPin : L2.Fun K "__init__" "InvalidPin.__init__" s_InvalidPin___init__ I_InvalidPin D_InvalidPin)
    (e_Crowded : ClsF K "Crowded" "users" C_Crowded I_Crowded R)
    (i_Crowded : L2.Fun K "__init__" "Crowded.__init__" s_Crowded___init__ I_Crowded D_Crowded)
    (e_InvalidCommand : ClsF K "InvalidCommand" "index" C_InvalidCommand I_InvalidCommand R)
    (i_InvalidCommand : L2.Fun K "__init__" "InvalidCommand.__init__" s_InvalidCommand___init__ I_InvalidCommand D_InvalidCommand)
    (e_InvalidJournal : ClsF K "InvalidJournal" "index" C_InvalidJournal I_InvalidJournal R)
    (i_InvalidJournal : L2.Fun K "__init__" "InvalidJournal.__init__" s_InvalidJournal___init__ I_InvalidJournal D_InvalidJournal)
    (e_InvalidText : ClsF K "InvalidText" "line" C_InvalidText I_InvalidText R)
    (i_InvalidText : L2.Fun K "__init__" "InvalidText.__init__" s_InvalidText___init__ I_InvalidText D_InvalidText)
    (apart : ∀ i : Fin 18, R ≠ ([C_InvalidForest, C_UnknownName, C_InvalidUsers, C_InvalidSizes, C_InvalidPlace, C_NotBest, C_UnknownUser, C_Mismatch, C_InvalidNumber, C_InvalidLists, C_NeedsMemory, C_TooMany, C_InvalidLimits, C_InvalidPin, C_Crowded, C_InvalidCommand, C_InvalidJournal, C_InvalidText] : List Nat).getD i.1 0)
    (dist : ∀ i j : Fin 18, decide (([C_InvalidForest, C_UnknownName, C_InvalidUsers, C_InvalidSizes, C_InvalidPlace, C_NotBest, C_UnknownUser, C_Mismatch, C_InvalidNumber, C_InvalidLists, C_NeedsMemory, C_TooMany, C_InvalidLimits, C_InvalidPin, C_Crowded, C_InvalidCommand, C_InvalidJournal, C_InvalidText] : List Nat).getD i.1 0 = ([C_InvalidForest, C_UnknownName, C_InvalidUsers, C_InvalidSizes, C_InvalidPlace, C_NotBest, C_UnknownUser, C_Mismatch, C_InvalidNumber, C_InvalidLists, C_NeedsMemory, C_TooMany, C_InvalidLimits, C_InvalidPin, C_Crowded, C_InvalidCommand, C_InvalidJournal, C_InvalidText] : List Nat).getD j.1 0) = decide (i.1 = j.1))
    (z_abs : PySem.W.nsIn K mainGlobals "abs" = some none)
    (z_len : PySem.W.nsIn K mainGlobals "len" = some none)
    (z_rng : PySem.W.nsIn K mainGlobals "range" = some none)
    (z_enu : PySem.W.nsIn K mainGlobals "enumerate" = some none)
    (z_zip : PySem.W.nsIn K mainGlobals "zip" = some none)
    (z_isi : PySem.W.nsIn K mainGlobals "isinstance" = some none)
    (z_all : PySem.W.nsIn K mainGlobals "all" = some none)
    (z_srt : PySem.W.nsIn K mainGlobals "sorted" = some none)
    (z_lst : PySem.W.nsIn K mainGlobals "list" = some none)
    (z_dct : PySem.W.nsIn K mainGlobals "dict" = some none)
    (z_str : PySem.W.nsIn K mainGlobals "str" = some none)
    (z_int : PySem.W.nsIn K mainGlobals "int" = some none)
    (z_tup : PySem.W.nsIn K mainGlobals "tuple" = some none)
    (z_sum : PySem.W.nsIn K mainGlobals "sum" = some none)
    (z_min : PySem.W.nsIn K mainGlobals "min" = some none)
    (z_max : PySem.W.nsIn K mainGlobals "max" = some none)
    (z_rep : PySem.W.nsIn K mainGlobals "repr" = some none)
    (z_bool : PySem.W.nsIn K mainGlobals "bool" = some none)
    (z_any : PySem.W.nsIn K mainGlobals "any" = some none)
    (z_vE : PySem.W.nsIn K mainGlobals "ValueError" = some none)
    : LawTG l w K 15 63 "_law_script" mg fa h := by
  cases hfa.symm.trans (PySem.W.mg_of X G n_law)
  have N : Nm mg := ⟨PySem.W.mg_none_of X G z_abs, PySem.W.mg_none_of X G z_len, PySem.W.mg_none_of X G z_rng, PySem.W.mg_none_of X G z_enu, PySem.W.mg_none_of X G z_zip, PySem.W.mg_none_of X G z_isi, PySem.W.mg_none_of X G z_all, PySem.W.mg_none_of X G z_srt, PySem.W.mg_none_of X G z_lst, PySem.W.mg_none_of X G z_dct, PySem.W.mg_none_of X G z_str, PySem.W.mg_none_of X G z_int, PySem.W.mg_none_of X G z_tup, PySem.W.mg_none_of X G z_sum, PySem.W.mg_none_of X G z_min, PySem.W.mg_none_of X G z_max, PySem.W.mg_none_of X G z_rep, PySem.W.mg_none_of X G z_bool, PySem.W.mg_none_of X G z_any, PySem.W.mg_none_of X G z_vE⟩
  have Cs_ : Cs mg := ⟨⟨_, PySem.W.mg_of X G cL⟩, ⟨_, PySem.W.mg_of X G cT⟩⟩
  have b_bgD := u_bgD.binds (ps := ["_law_script"]) fun _ _ _ _ _ _ us hl => match us, hl with | [_], _ => rfl
  have b_dtD := u_dtD.binds (ps := ["_law_draw", "_law_size"]) fun _ _ _ _ _ _ us hl => match us, hl with | [_, _], _ => rfl
  have b_dpD := u_dpD.binds (ps := ["_law_draw", "_law_some"]) fun _ _ _ _ _ _ us hl => match us, hl with | [_, _], _ => rfl
  have b_nmD := u_nmD.binds (ps := ["_law_draw", "_law_many"]) fun _ _ _ _ _ _ us hl => match us, hl with | [_, _], _ => rfl
  have b_paD := u_paD.binds (ps := ["_law_draw", "_law_names_here"]) fun _ _ _ _ _ _ us hl => match us, hl with | [_, _], _ => rfl
  have b_phD := u_phD.binds (ps := ["_law_parents_here", "_law_spot"]) fun _ _ _ _ _ _ us hl => match us, hl with | [_, _], _ => rfl
  have b_plD := u_plD.binds (ps := ["_law_parents_here"]) fun _ _ _ _ _ _ us hl => match us, hl with | [_], _ => rfl
  have b_tsD := u_tsD.binds (ps := ["_law_draw", "_law_names_here", "_law_total", "_law_most"]) fun _ _ _ _ _ _ us hl => match us, hl with | [_, _, _, _], _ => rfl
  have b_alD := u_alD.binds (ps := ["_law_told", "_law_here", "_law_there", "_law_known"]) fun _ _ _ _ _ _ us hl => match us, hl with | [_, _, _, _], _ => rfl
  have b_lpD := u_lpD.binds (ps := ["_law_told"]) fun _ _ _ _ _ _ us hl => match us, hl with | [_], _ => rfl
  have b_itD := u_itD.binds (ps := ["_law_thing"]) fun _ _ _ _ _ _ us hl => match us, hl with | [_], _ => rfl
  have b_chD := u_chD.binds (ps := ["_law_draw", "_law_thing"]) fun _ _ _ _ _ _ us hl => match us, hl with | [_, _], _ => rfl
  have b_erD := u_erD.binds (ps := ["_law_work"]) fun _ _ _ _ _ _ us hl => match us, hl with | [_], _ => rfl
  have b_arD := u_arD.binds (ps := ["_law_pin_here", "_law_told", "_law_parents_here", "_law_web"]) fun _ _ _ _ _ _ us hl => match us, hl with | [_, _, _, _], _ => rfl
  have b_mdR := u_mdR.binds (ps := ["_law_draw"]) fun _ _ _ _ _ _ us hl => match us, hl with | [_], _ => rfl
  have b_unr := u_unr.binds (ps := ["value"]) fun _ _ _ _ _ _ us hl => match us, hl with | [_], _ => rfl
  have b_isV := u_isV.binds (ps := ["value"]) fun _ _ _ _ _ _ us hl => match us, hl with | [_], _ => rfl
  have b_pin := u_pin.binds (ps := ["self", "user"]) fun _ _ _ _ _ _ us hl => match us, hl with | [_, _], _ => rfl
  have b_tM := u_tM.binds (ps := ["self"]) fun _ _ _ _ _ _ us hl => match us, hl with | [_], _ => rfl
  have b_tN := u_tN.binds (ps := ["self"]) fun _ _ _ _ _ _ us hl => match us, hl with | [_], _ => rfl
  have b_tS := u_tS.binds (ps := ["self"]) fun _ _ _ _ _ _ us hl => match us, hl with | [_], _ => rfl
  have b_aM := u_aM.binds (ps := ["self", "path", "goal", "flags"]) fun _ _ _ _ _ _ us hl => match us, hl with | [_, _, _, _], _ => rfl
  have b_aN := u_aN.binds (ps := ["self", "path", "goal", "flags"]) fun _ _ _ _ _ _ us hl => match us, hl with | [_, _, _, _], _ => rfl
  have b_aS := u_aS.binds (ps := ["self", "path", "goal", "flags"]) fun _ _ _ _ _ _ us hl => match us, hl with | [_, _, _, _], _ => rfl
  have b_peq := u_peq.binds (ps := ["self", "other"]) fun _ _ _ _ _ _ us hl => match us, hl with | [_, _], _ => rfl
  have b_of := u_of.binds (ps := ["value"]) fun _ _ _ _ _ _ us hl => match us, hl with | [_], _ => rfl
  have g_bgD := PySem.W.mg_of X G n_bgD
  have g_dtD := PySem.W.mg_of X G n_dtD
  have g_dpD := PySem.W.mg_of X G n_dpD
  have g_nmD := PySem.W.mg_of X G n_nmD
  have g_paD := PySem.W.mg_of X G n_paD
  have g_phD := PySem.W.mg_of X G n_phD
  have g_plD := PySem.W.mg_of X G n_plD
  have g_tsD := PySem.W.mg_of X G n_tsD
  have g_alD := PySem.W.mg_of X G n_alD
  have g_lpD := PySem.W.mg_of X G n_lpD
  have g_itD := PySem.W.mg_of X G n_itD
  have g_chD := PySem.W.mg_of X G n_chD
  have g_erD := PySem.W.mg_of X G n_erD
  have g_arD := PySem.W.mg_of X G n_arD
  have g_mdR := PySem.W.mg_of X G n_mdR
  have g_unr := PySem.W.mg_of X G n_unr
  have g_isV := PySem.W.mg_of X G n_isV
  have rt := rt0.rt X G
  have at_ : ∀ i, i < 18 → ClsAt K (([C_InvalidForest, C_UnknownName, C_InvalidUsers, C_InvalidSizes, C_InvalidPlace, C_NotBest, C_UnknownUser, C_Mismatch, C_InvalidNumber, C_InvalidLists, C_NeedsMemory, C_TooMany, C_InvalidLimits, C_InvalidPin, C_Crowded, C_InvalidCommand, C_InvalidJournal, C_InvalidText] : List Nat).getD i 0) (.ref R :: exTail) := fun i hi => match i, hi with
    | 0, _ => e_InvalidForest.at_
    | 1, _ => e_UnknownName.at_
    | 2, _ => e_InvalidUsers.at_
    | 3, _ => e_InvalidSizes.at_
    | 4, _ => e_InvalidPlace.at_
    | 5, _ => e_NotBest.at_
    | 6, _ => e_UnknownUser.at_
    | 7, _ => e_Mismatch.at_
    | 8, _ => e_InvalidNumber.at_
    | 9, _ => e_InvalidLists.at_
    | 10, _ => e_NeedsMemory.at_
    | 11, _ => e_TooMany.at_
    | 12, _ => e_InvalidLimits.at_
    | 13, _ => e_InvalidPin.at_
    | 14, _ => e_Crowded.at_
    | 15, _ => e_InvalidCommand.at_
    | 16, _ => e_InvalidJournal.at_
    | 17, _ => e_InvalidText.at_
    | n + 18, h => absurd h (by omega)
  have xs_ : ∀ i, i < 18 → XCls K (([C_InvalidForest, C_UnknownName, C_InvalidUsers, C_InvalidSizes, C_InvalidPlace, C_NotBest, C_UnknownUser, C_Mismatch, C_InvalidNumber, C_InvalidLists, C_NeedsMemory, C_TooMany, C_InvalidLimits, C_InvalidPin, C_Crowded, C_InvalidCommand, C_InvalidJournal, C_InvalidText] : List Nat).getD i 0) := fun i hi => match i, hi with
    | 0, _ => e_InvalidForest.x rt0
    | 1, _ => e_UnknownName.x rt0
    | 2, _ => e_InvalidUsers.x rt0
    | 3, _ => e_InvalidSizes.x rt0
    | 4, _ => e_InvalidPlace.x rt0
    | 5, _ => e_NotBest.x rt0
    | 6, _ => e_UnknownUser.x rt0
    | 7, _ => e_Mismatch.x rt0
    | 8, _ => e_InvalidNumber.x rt0
    | 9, _ => e_InvalidLists.x rt0
    | 10, _ => e_NeedsMemory.x rt0
    | 11, _ => e_TooMany.x rt0
    | 12, _ => e_InvalidLimits.x rt0
    | 13, _ => e_InvalidPin.x rt0
    | 14, _ => e_Crowded.x rt0
    | 15, _ => e_InvalidCommand.x rt0
    | 16, _ => e_InvalidJournal.x rt0
    | 17, _ => e_InvalidText.x rt0
    | n + 18, h => absurd h (by omega)
  have kits : ∀ i j, i < 18 → j < 18 → PySem.W.kitOne K (.ref (([C_InvalidForest, C_UnknownName, C_InvalidUsers, C_InvalidSizes, C_InvalidPlace, C_NotBest, C_UnknownUser, C_Mismatch, C_InvalidNumber, C_InvalidLists, C_NeedsMemory, C_TooMany, C_InvalidLimits, C_InvalidPin, C_Crowded, C_InvalidCommand, C_InvalidJournal, C_InvalidText] : List Nat).getD i 0)) (.ref (([C_InvalidForest, C_UnknownName, C_InvalidUsers, C_InvalidSizes, C_InvalidPlace, C_NotBest, C_UnknownUser, C_Mismatch, C_InvalidNumber, C_InvalidLists, C_NeedsMemory, C_TooMany, C_InvalidLimits, C_InvalidPin, C_Crowded, C_InvalidCommand, C_InvalidJournal, C_InvalidText] : List Nat).getD j 0)) = some (decide (i = j)) := fun i j hi hj => by rw [(at_ i hi).kit (at_ j hj), has_cls (dist ⟨i, hi⟩ ⟨j, hj⟩) (apart ⟨j, hj⟩)]
  have exs : ∀ i j, i < 18 → j < 18 → PySem.W.exmOne K (.ref (([C_InvalidForest, C_UnknownName, C_InvalidUsers, C_InvalidSizes, C_InvalidPlace, C_NotBest, C_UnknownUser, C_Mismatch, C_InvalidNumber, C_InvalidLists, C_NeedsMemory, C_TooMany, C_InvalidLimits, C_InvalidPin, C_Crowded, C_InvalidCommand, C_InvalidJournal, C_InvalidText] : List Nat).getD i 0)) (.ref (([C_InvalidForest, C_UnknownName, C_InvalidUsers, C_InvalidSizes, C_InvalidPlace, C_NotBest, C_UnknownUser, C_Mismatch, C_InvalidNumber, C_InvalidLists, C_NeedsMemory, C_TooMany, C_InvalidLimits, C_InvalidPin, C_Crowded, C_InvalidCommand, C_InvalidJournal, C_InvalidText] : List Nat).getD j 0)) = some (decide (i = j)) := fun i j hi hj => by rw [(at_ i hi).exm (at_ j hj) rfl, has_cls (dist ⟨i, hi⟩ ⟨j, hj⟩) (apart ⟨j, hj⟩)]
  obtain ⟨T, eT⟩ : ∃ T : List (Addr × Str), T = [(t_law, lamQ "law")] := ⟨_, rfl⟩
  have m_law : (t_law, lamQ "law") ∈ T := by rw [eT]; simp
  have un_law : ∀ p ∈ T, p.1 = t_law → p.2 = lamQ "law" := fun p hp e => by
    rw [eT] at hp
    simp only [List.mem_cons, List.not_mem_nil, or_false] at hp
    rcases hp with rfl
    · rfl
  refine ⟨d_law, ([(c_law, t_law)] : List (Addr × Addr)), spLaw29 K T, fun p hp => ?_, fun s u => ?_, fun H a ns hl hts hS => ?_, fun base KB GB TBs => ?_⟩
  · simp only [List.mem_cons, List.not_mem_nil, or_false] at hp
    rcases hp with rfl
    · exact ⟨(TO _ _ _ t3_law t1_law).1, (TO _ _ _ t3_law t1_law).2, t2_law⟩
  · obtain ⟨oc, od, kV, doc, pm, an, cdv, ct, osl, rfl, lk, hcd⟩ := u_law.fun.ex
    exact .of_eq rfl
  · refine ⟨a, ns, rfl, hS, hl, ?_, fun _ => rfl⟩
    intro p hp
    rw [eT] at hp
    simp only [List.mem_cons, List.not_mem_nil, or_false] at hp
    rcases hp with rfl
    · exact TabS.nil (hts (c_law, t_law) (by simp))
  have E_InvalidPin : Er1 l.prog w K mg base "InvalidPin" "index" C_InvalidPin I_InvalidPin D_InvalidPin := ⟨e_InvalidPin.er X G rt0, ok_InvalidPin i_InvalidPin rt (e_InvalidPin.er X G rt0), i_InvalidPin.binds (ps := ["self", "index"]) fun _ _ _ _ _ _ us hl => match us, hl with | [_, _], _ => rfl⟩
  have D_bgD : Dn l.prog w K mg base CX0 1 "_law_begin" ["_law_script"] (spBeginD K) f_bgD d_bgD := ⟨ok_beginD u_bgD N, u_bgD.kp, b_bgD, g_bgD⟩
  have D_dtD : Dn l.prog w K mg base CX0 2 "_law_take" ["_law_draw", "_law_size"] (spTakeD) f_dtD d_dtD := ⟨ok_takeD u_dtD N, u_dtD.kp, b_dtD, g_dtD⟩
  have D_dpD : Dn l.prog w K mg base CX0 3 "_law_pick" ["_law_draw", "_law_some"] (spPickD) f_dpD d_dpD := ⟨ok_pickD u_dpD N D_dtD, u_dpD.kp, b_dpD, g_dpD⟩
  have D_nmD : Dn l.prog w K mg base CX0 4 "_law_names" ["_law_draw", "_law_many"] (spNamesD) f_nmD d_nmD := ⟨ok_namesD u_nmD N D_dtD D_dpD, u_nmD.kp, b_nmD, g_nmD⟩
  have D_paD : Dn l.prog w K mg base CX0 3 "_law_parents" ["_law_draw", "_law_names_here"] (spParentsD) f_paD d_paD := ⟨ok_parentsD u_paD N D_dtD, u_paD.kp, b_paD, g_paD⟩
  have D_phD : Dn l.prog w K mg base CX0 13 "_law_path" ["_law_parents_here", "_law_spot"] (spPathDX) f_phD d_phD := ⟨ok_pathDX u_phD b_phD g_phD, u_phD.kp, b_phD, g_phD⟩
  have D_plD : Dn l.prog w K mg base CX0 1 "_law_places" ["_law_parents_here"] (spPlacesD) f_plD d_plD := ⟨ok_placesD u_plD N, u_plD.kp, b_plD, g_plD⟩
  have D_tsD : Dn l.prog w K mg base CX0 4 "_law_tolds" ["_law_draw", "_law_names_here", "_law_total", "_law_most"] (spTolds) f_tsD d_tsD := ⟨ok_tolds u_tsD N D_dtD D_dpD, u_tsD.kp, b_tsD, g_tsD⟩
  have D_alD : Dn l.prog w K mg base CX0 1 "_law_allows" ["_law_told", "_law_here", "_law_there", "_law_known"] (spLawAl K) f_alD d_alD := ⟨ok_lawAl u_alD N, u_alD.kp, b_alD, g_alD⟩
  skip
  have D_itD : Dn l.prog w K mg base CX0 1 "_law_is_told" ["_law_thing"] (spIsTold K) f_itD d_itD := ⟨ok_isTold u_itD N, u_itD.kp, b_itD, g_itD⟩
  have D_chD : Dn l.prog w K mg base CX0 4 "_law_changed" ["_law_draw", "_law_thing"] (spChg K) f_chD d_chD := ⟨ok_chg u_chD N D_dtD D_dpD, u_chD.kp, b_chD, g_chD⟩
  have GE : Ge K mg "_law_error" s__law_error f_erD d_erD := ⟨u_erD, b_erD, g_erD⟩
  skip
  skip
  have D_unr : Dn l.prog w K mg base CX0 1 "is_user_number" ["value"] (spUserNo K) f_unr d_unr := ⟨ok_userNo u_unr N, u_unr.kp, b_unr, g_unr⟩
  have D_isV : Dn l.prog w K mg base CX0 1 "is_name" ["value"] (spNameV K) f_isV d_isV := ⟨ok_nameV u_isV N Cs_, u_isV.kp, b_isV, g_isV⟩
  have F_pin : FnOk l.prog w K mg base CX0 1 f_pin d_pin ["self", "user"] (spPInit K) := ok_pinit u_pin
  have MK_pin : Mk K CS f_pin := ⟨kCS.mks, m_pin.at_, m_pin.fn, kCS.kp⟩
  skip
  skip
  skip
  skip
  skip
  skip
  skip
  skip
  have LP : PnF K mg CP (fun i => ([CM, CN, CS] : List Nat).getD i 0) f_peq := { cl := (fun i hi => match i, hi with | 0, _ => kCM.cls | 1, _ => kCN.cls | 2, _ => kCS.cls), who := (fun i hi => match i, hi with | 0, _ => noCM_who | 1, _ => noCN_who | 2, _ => noCS_who), fM := noCM_wanted_flag, fN := noCN_barred_flag, isf := (fun i hi => match i, hi with | 0, _ => ⟨x_haCM, x_hn, x_ht, x_hmCM⟩ | 1, _ => ⟨x_haCN, x_hn, x_ht, x_hmCN⟩ | 2, _ => ⟨x_haCS, x_hn, x_ht, x_hmCS⟩), kit := (fun i hi => match i, hi with | 0, _ => kit_base kCP.hd x_tyP x_mrCM | 1, _ => kit_base kCP.hd x_tyP x_mrCN | 2, _ => kit_base kCP.hd x_tyP x_mrCS), kitT := kit_tyC (by decide +kernel) kCP.hd x_tyP, kitI := kit_tyC (by decide +kernel) kCP.hd x_tyP, eqx := { eq := (fun i hi => match i, hi with | 0, _ => m_peq.at_ | 1, _ => y_eqmi | 2, _ => y_eqni), ne := (fun i hi => match i, hi with | 0, _ => x_neCM | 1, _ => x_neCN | 2, _ => x_neCS), ob := (fun i hi => match i, hi with | 0, _ => x_hmCM | 1, _ => x_hmCN | 2, _ => x_hmCS), fn := m_peq.fn }, gP := PySem.W.mg_of X G kCP.nsn, gM := PySem.W.mg_of X G kCM.nsn, gN := PySem.W.mg_of X G kCN.nsn, gS := PySem.W.mg_of X G kCS.nsn }
  have OM : SupX.SupOk K CM CM "__init__" f_pin := ⟨isC_of kCM.hd, isC_of kCM.hd, y_submi, y_somi.sup y_iP, y_ty, y_fi, x_op⟩
  have ON : SupX.SupOk K CN CN "__init__" f_pin := ⟨isC_of kCN.hd, isC_of kCN.hd, y_subni, y_soni.sup y_iP, y_ty, y_fi, x_op⟩
  have F_mi : FnOk l.prog w K mg base CX0 2 f_mi d_mi ["self", "user", "name"] (spMInit (fun i => ([CM, CN, CS] : List Nat).getD i 0) 0 "wanted_flag") := ok_minit fs_mi LP OM F_pin b_pin (PySem.W.mg_none_of X G x_sup) x_top
  have F_ni : FnOk l.prog w K mg base CX0 2 f_ni d_ni ["self", "user", "name"] (spMInit (fun i => ([CM, CN, CS] : List Nat).getD i 0) 1 "barred_flag") := ok_ninit fs_ni LP ON F_pin b_pin (PySem.W.mg_none_of X G x_sup) x_top
  have b_mi : Binds K d_mi ["self", "user", "name"] [] := FunS.binds fs_mi (fun _ _ _ _ _ _ _ us hl => match us, hl with | [_, _, _], _ => rfl)
  have b_ni : Binds K d_ni ["self", "user", "name"] [] := FunS.binds fs_ni (fun _ _ _ _ _ _ _ us hl => match us, hl with | [_, _, _], _ => rfl)
  have MKm : Mk K CM f_mi := ⟨kCM.mks, a_mi, af_mi, kCM.kp⟩
  have MKn : Mk K CN f_ni := ⟨kCN.mks, a_ni, af_ni, kCN.kp⟩
  have bi2 : ∀ i, i < 2 → Binds K ((fun i => ([d_mi, d_ni] : List FuncData).getD i d_mi) i) ["self", "user", "name"] [] := (fun i hi => match i, hi with | 0, _ => b_mi | 1, _ => b_ni)
  have Mi2 : ∀ i, i < 2 → Mk K ((fun i => ([CM, CN, CS] : List Nat).getD i 0) i) ((fun i => ([f_mi, f_ni] : List Nat).getD i 0) i) := (fun i hi => match i, hi with | 0, _ => MKm | 1, _ => MKn)
  have GO : ToF l.prog w K mg base (fun i => ([CM, CN, CS] : List Nat).getD i 0) (fun i => ([p_tM, p_tN, p_tS] : List Nat).getD i 0) (fun i => ([f_tM, f_tN, f_tS] : List Nat).getD i 0) (fun i => ([d_tM, d_tN, d_tS] : List FuncData).getD i d_tM) := { pr := (fun i hi => match i, hi with | 0, _ => ⟨m_tM.at_, m_tM.get, m_tM.tak, _, m_tM.rec_⟩ | 1, _ => ⟨m_tN.at_, m_tN.get, m_tN.tak, _, m_tN.rec_⟩ | 2, _ => ⟨m_tS.at_, m_tS.get, m_tS.tak, _, m_tS.rec_⟩), fn := (fun i hi => match i, hi with | 0, _ => ok_toldM u_tM LP | 1, _ => ok_toldN u_tN LP | 2, _ => ok_toldS u_tS LP), bn := (fun i hi => match i, hi with | 0, _ => b_tM | 1, _ => b_tN | 2, _ => b_tS) }
  have F_peq : FnOk l.prog w K mg base CX0 3 f_peq d_peq ["self", "other"] (spEqX (RPn (fun i => ([CM, CN, CS] : List Nat).getD i 0))) := ok_peq u_peq N LP GO
  have WA : AlF l.prog w K mg base (fun i => ([CM, CN, CS] : List Nat).getD i 0) (fun i => ([f_aM, f_aN, f_aS] : List Nat).getD i 0) (fun i => ([d_aM, d_aN, d_aS] : List FuncData).getD i d_aM) := { mt := (fun i hi => match i, hi with | 0, _ => ⟨m_aM.at_, m_aM.fn, u_aM.kp⟩ | 1, _ => ⟨m_aN.at_, m_aN.fn, u_aN.kp⟩ | 2, _ => ⟨m_aS.at_, m_aS.fn, u_aS.kp⟩), fn := (fun i hi => match i, hi with | 0, _ => ok_allowM u_aM LP | 1, _ => ok_allowN u_aN LP | 2, _ => ok_allowS u_aS N LP), bn := (fun i hi => match i, hi with | 0, _ => b_aM | 1, _ => b_aN | 2, _ => b_aS), kw := (fun i hi => match i, hi with | 0, _ => kwM3 u_aM (fun _ _ _ _ _ _ _ _ _ _ => rfl) | 1, _ => kwM3 u_aN (fun _ _ _ _ _ _ _ _ _ _ => rfl) | 2, _ => kwM3 u_aS (fun _ _ _ _ _ _ _ _ _ _ => rfl)) }
  have F_of : FnOk l.prog w K mg base (L2.CX l.prog w) 4 f_of d_of ["value"] (spOf K (fun i => ([CM, CN, CS] : List Nat).getD i 0) C_InvalidPin) := ok_of (fi := (fun i => ([f_mi, f_ni] : List Nat).getD i 0)) (fdi := (fun i => ([d_mi, d_ni] : List FuncData).getD i d_mi)) u_of N LP D_unr D_isV F_pin b_pin MK_pin F_mi F_ni bi2 Mi2 E_InvalidPin
  have D_lpD : Dn l.prog w K mg base CX0 4 "_law_pin" ["_law_told"] (spLawPin (fun i => ([CM, CN, CS] : List Nat).getD i 0)) f_lpD d_lpD := ⟨ok_lawPin (fi := (fun i => ([f_mi, f_ni] : List Nat).getD i 0)) (fdi := (fun i => ([d_mi, d_ni] : List FuncData).getD i d_mi)) u_lpD LP F_pin b_pin MK_pin F_mi F_ni bi2 Mi2, u_lpD.kp, b_lpD, g_lpD⟩
  have G_ar : FnG l.prog w K mg base CX0 14 f_arD d_arD ["_law_pin_here", "_law_told", "_law_parents_here", "_law_web"] (spAllR (fun i => ([CM, CN, CS] : List Nat).getD i 0)) := ok_allR u_arD N LP WA D_plD D_phD D_alD
  have G_md : FnG l.prog w K mg base CX0 4 f_mdR d_mdR ["_law_draw"] spMade := ok_made (fT := 0) (fdT := d_mi) (fi := (fun i => ([f_mi, f_ni] : List Nat).getD i 0)) (fdi := (fun i => ([d_mi, d_ni] : List FuncData).getD i d_mi)) u_mdR N LP GO D_dpD F_pin MK_pin (kwM1 u_pin (fun _ _ _ _ _ _ _ _ => rfl)) F_mi F_ni (FunS.kwT fs_mi (fun _ _ _ _ _ _ _ _ _ _ => rfl)) (FunS.kwN fs_ni (fun _ _ _ _ _ _ _ _ _ _ => rfl)) Mi2
  have Ce : Cl18 K mg R (fun i => ([C_InvalidForest, C_UnknownName, C_InvalidUsers, C_InvalidSizes, C_InvalidPlace, C_NotBest, C_UnknownUser, C_Mismatch, C_InvalidNumber, C_InvalidLists, C_NeedsMemory, C_TooMany, C_InvalidLimits, C_InvalidPin, C_Crowded, C_InvalidCommand, C_InvalidJournal, C_InvalidText] : List Nat).getD i 0) := ⟨rt.g, fun i hi => match i, hi with
    | 0, _ => PySem.W.mg_of X G e_InvalidForest.nsn
    | 1, _ => PySem.W.mg_of X G e_UnknownName.nsn
    | 2, _ => PySem.W.mg_of X G e_InvalidUsers.nsn
    | 3, _ => PySem.W.mg_of X G e_InvalidSizes.nsn
    | 4, _ => PySem.W.mg_of X G e_InvalidPlace.nsn
    | 5, _ => PySem.W.mg_of X G e_NotBest.nsn
    | 6, _ => PySem.W.mg_of X G e_UnknownUser.nsn
    | 7, _ => PySem.W.mg_of X G e_Mismatch.nsn
    | 8, _ => PySem.W.mg_of X G e_InvalidNumber.nsn
    | 9, _ => PySem.W.mg_of X G e_InvalidLists.nsn
    | 10, _ => PySem.W.mg_of X G e_NeedsMemory.nsn
    | 11, _ => PySem.W.mg_of X G e_TooMany.nsn
    | 12, _ => PySem.W.mg_of X G e_InvalidLimits.nsn
    | 13, _ => PySem.W.mg_of X G e_InvalidPin.nsn
    | 14, _ => PySem.W.mg_of X G e_Crowded.nsn
    | 15, _ => PySem.W.mg_of X G e_InvalidCommand.nsn
    | 16, _ => PySem.W.mg_of X G e_InvalidJournal.nsn
    | 17, _ => PySem.W.mg_of X G e_InvalidText.nsn
    | n + 18, h => absurd h (by omega), xs_ 13 (by omega), fun j hj => kits 13 j (by omega) hj, kit_bt (at_ 13 (by omega)), by rw [(at_ 13 (by omega)).exm rt0.at_ rfl, has_root], e_InvalidPin.no⟩
  have W : W29 l.prog w K mg base CP C_InvalidPin f_peq (.type "type") (fun i => ([CM, CN, CS] : List Nat).getD i 0) (fun i => ([p_tM, p_tN, p_tS, 0, 0, 0, 0, 0, p_of] : List Nat).getD i 0) (fun i => ([f_tM, f_tN, f_tS] : List Nat).getD i 0) (fun i => ([d_tM, d_tN, d_tS] : List FuncData).getD i d_tM) (fun i => ([f_bgD, f_dtD, f_nmD, f_paD, f_tsD, f_lpD, f_chD, f_itD, f_of, f_peq, f_arD, f_mdR] : List Nat).getD i 0) (fun i => ([d_bgD, d_dtD, d_nmD, d_paD, d_tsD, d_lpD, d_chD, d_itD, d_of, d_peq, d_arD, d_mdR] : List FuncData).getD i d_bgD) := { pn := LP, to := { pr := (fun i hi => match i, hi with | 0, _ => GO.pr 0 (by decide) | 1, _ => GO.pr 1 (by decide) | 2, _ => GO.pr 2 (by decide)), fn := GO.fn, bn := GO.bn }, nf := fun i j hi hj => match i, j, hi, hj with | 0, 0, _, _ => x_nf00 | 0, 1, _, _ => x_nf01 | 0, 2, _, _ => x_nf02 | 1, 0, _, _ => x_nf10 | 1, 1, _, _ => x_nf11 | 1, 2, _, _ => x_nf12 | 2, 0, _, _ => x_nf20 | 2, 1, _, _ => x_nf21 | 2, 2, _, _ => x_nf22, rd := ⟨kCP.rd, kCP.ga⟩, bg := D_bgD, dt := D_dtD, nm := D_nmD, pa := D_paD, ts := D_tsD, lp := D_lpD, ch := D_chD, it := D_itD, of_ := F_of, ofm := m_of.sm, ofp := u_of.kp, ofb := b_of, ofk := kwS1 u_of (fun _ _ _ _ _ _ _ => rfl), eq := F_peq, eqb := b_peq, ar := G_ar, arm := g_arD, ark := u_arD.kp, arb := b_arD, md := G_md, mdm := g_mdR, mdk := u_mdR.kp, mdb := b_mdR }
  exact ok_law29 u_law N W GE Ce rfl (TBs (c_law, t_law) (by simp)) m_law un_law
end
theorem walk {l : PySem.W.OpenLaw} {q : Program} {loose : List Str} {XP : (Str → Option Value) → Heap → Prop} {YP : World → Heap → Prop} {d : DefRec} {K : Params → PySem.W.Frag} (hn : l.most = some 63) (hdf : d.params.defaults = [])
    (hY : ∀ (w : World) (h : Heap), YP w h → (K w.params).In h)
    (F : ∀ (w : World) (mg : Str → Option Value) (fa : Addr) (h : Heap), (K w.params).In h → h.Ns mainGlobals mg → mg d.name = some (.ref fa) → TabsOf q (K w.params) h → XP mg h → LawTG l w (K w.params) 15 63 "_law_script" mg fa h) :
    PySem.W.WalkO q loose XP YP l.row.toRowW d [] (fun f vs => PySem.call f vs) :=
  walk_tabG (n := 63) (k := 15) (x := "_law_script") hn (by decide) hdf ⟨rfl, by decide, by decide⟩ hY F
end FT


open PySem PySem.W PyProof.Rows
namespace FT
abbrev R29 : PySem.W.OpenRow := PySem.W.OpenLaw.row PySem.Challenge.rw_flagtrees_k29_pins
def lo29_0 : List PySem.Str := [("__name__" : PySem.Str), ("RolloutError" : PySem.Str), ("InvalidForest" : PySem.Str), ("UnknownName" : PySem.Str), ("InvalidUsers" : PySem.Str), ("InvalidSizes" : PySem.Str), ("InvalidPlace" : PySem.Str), ("UnknownUser" : PySem.Str), ("Mismatch" : PySem.Str), ("InvalidNumber" : PySem.Str), ("NotBest" : PySem.Str), ("InvalidLists" : PySem.Str), ("NeedsMemory" : PySem.Str), ("InvalidLimits" : PySem.Str), ("TooMany" : PySem.Str), ("InvalidPin" : PySem.Str), ("Crowded" : PySem.Str), ("InvalidCommand" : PySem.Str), ("InvalidJournal" : PySem.Str), ("InvalidText" : PySem.Str), ("LONGEST" : PySem.Str), ("LETTERS" : PySem.Str), ("is_name" : PySem.Str), ("is_user_number" : PySem.Str), ("Pin" : PySem.Str), ("Must" : PySem.Str), ("Never" : PySem.Str), ("Stay" : PySem.Str), ("_law_begin" : PySem.Str), ("_law_take" : PySem.Str)]
def lo29_1 : List PySem.Str := [("_law_pick" : PySem.Str), ("_law_names" : PySem.Str), ("_law_parents" : PySem.Str), ("_law_path" : PySem.Str), ("_law_places" : PySem.Str), ("_law_spots" : PySem.Str), ("_law_sizes" : PySem.Str), ("_law_rooms" : PySem.Str), ("_law_allows" : PySem.Str), ("_law_apart" : PySem.Str), ("_law_costs" : PySem.Str), ("_law_bound" : PySem.Str), ("_law_too_many" : PySem.Str), ("_law_tolds" : PySem.Str), ("_law_pin" : PySem.Str), ("_law_error" : PySem.Str), ("_law_is_told" : PySem.Str), ("_law_changed" : PySem.Str), ("_law_allowed_right" : PySem.Str), ("_law_made_right" : PySem.Str)]
def lo29 : List PySem.Str := lo29_0 ++ lo29_1
abbrev qv29 : Program := PySem.W.view R29.prog [53]
def lv29 : List (PySem.Str × PySem.W.WData) := []
end FT
local macro_rules
  | `(tactic| o_head ($f:ident $k:term $a:term $e:term $t:term)) => do
    let hw := Lean.mkIdent `hw
    let hc := Lean.mkIdent `hc
    `(tactic| refine FT.head_km (r := FT.R29) (q := FT.qv29) (K := $k) (as := $a) (ts := $t) (pe := $e) (M := 16000) (loose := FT.lo29) (lv := FT.lv29) (kwd := []) (by kernel_rfl) (fun s => by kernel_rfl) (fun w os => by kernel_rfl) (by rfl) (by rfl) (by rfl) (by rfl) (by first | assumption | decide +kernel) (by decide +kernel) ⟨rfl, rfl, rfl, rfl, rfl, by decide +kernel⟩ ?$hw ?$hc)
set_option maxRecDepth 100000 in
set_option maxHeartbeats 0 in
theorem PySem.Challenge.cw_flagtrees_k29_pins_holds : PySem.Challenge.rw_flagtrees_k29_pins.Holds := by
  w_on; o_law; k_head; (case hw => w_witness2)
  k_fill
  refine FT.walk (l := PySem.Challenge.rw_flagtrees_k29_pins) rfl rfl (fun w h Y => PySem.W.km_in_of Y) ?F
  case F =>
    intro w mg fa h KX G hm TO XX
    have hmg : mg "law" = some (.ref fa) := hm
    clear hm
    refine' FT.all_mk KX G hmg TO ?kCP ?kCM ?noCM_who ?noCM_wanted_flag ?kCN ?noCN_who ?noCN_barred_flag ?kCS ?noCS_who ?x_haCM ?x_hmCM ?x_mrCM ?x_neCM ?x_haCN ?x_hmCN ?x_mrCN ?x_neCN ?x_haCS ?x_hmCS ?x_mrCS ?x_neCS ?x_hn ?x_ht ?x_tyP ?x_sup ?x_op ?x_nf00 ?x_nf01 ?x_nf02 ?x_nf10 ?x_nf11 ?x_nf12 ?x_nf20 ?x_nf21 ?x_nf22 ?cL ?cT ?n_bgD ?u_bgD ?n_dtD ?u_dtD ?n_dpD ?u_dpD ?n_nmD ?u_nmD ?n_paD ?u_paD ?n_phD ?u_phD ?n_plD ?u_plD ?n_tsD ?u_tsD ?n_alD ?u_alD ?n_lpD ?u_lpD ?n_itD ?u_itD ?n_chD ?u_chD ?n_erD ?u_erD ?n_arD ?u_arD ?n_mdR ?u_mdR ?n_unr ?u_unr ?n_isV ?u_isV ?n_law ?u_law ?t1_law ?t2_law ?t3_law ?a_mi ?af_mi ?fs_mi ?a_ni ?af_ni ?fs_ni ?x_top ?m_pin ?m_aM ?m_aN ?m_aS ?m_peq ?m_tM ?m_tN ?m_tS ?m_of ?u_pin ?u_aM ?u_aN ?u_aS ?u_peq ?u_tM ?u_tN ?u_tS ?u_of ?y_somi ?y_submi ?y_eqmi ?y_soni ?y_subni ?y_eqni ?y_iP ?y_ty ?y_fi ?rt0 ?e_InvalidForest ?i_InvalidForest ?e_UnknownName ?i_UnknownName ?e_InvalidUsers ?i_InvalidUsers ?e_InvalidSizes ?i_InvalidSizes ?e_InvalidPlace ?i_InvalidPlace ?e_NotBest ?i_NotBest ?e_UnknownUser ?i_UnknownUser ?e_Mismatch ?i_Mismatch ?e_InvalidNumber ?i_InvalidNumber ?e_InvalidLists ?i_InvalidLists ?e_NeedsMemory ?i_NeedsMemory ?e_TooMany ?i_TooMany ?e_InvalidLimits ?i_InvalidLimits ?e_InvalidPin ?i_InvalidPin ?e_Crowded ?i_Crowded ?e_InvalidCommand ?i_InvalidCommand ?e_InvalidJournal ?i_InvalidJournal ?e_InvalidText ?i_InvalidText ?apart ?dist ?z_abs ?z_len ?z_rng ?z_enu ?z_zip ?z_isi ?z_all ?z_srt ?z_lst ?z_dct ?z_str ?z_int ?z_tup ?z_sum ?z_min ?z_max ?z_rep ?z_bool ?z_any ?z_vE
    (case kCP => (refine' ⟨?nsn, ?rd, ?ga, ?pg, ?hd, ?po, ?sa, ?mks, ?kp⟩; (case nsn => k_is); (case rd => k_is); (case ga => k_is); (case pg => k_is); (case hd => k_is); (case po => k_is); (case sa => k_is); (case mks => k_is); (case kp => k_is)))
    (case kCM => (refine' ⟨?nsn, ?rd, ?ga, ?pg, ?hd, ?po, ?sa, ?mks, ?kp⟩; (case nsn => k_is); (case rd => k_is); (case ga => k_is); (case pg => k_is); (case hd => k_is); (case po => k_is); (case sa => k_is); (case mks => k_is); (case kp => k_is)))
    (case noCM_who => k_is)
    (case noCM_wanted_flag => k_is)
    (case kCN => (refine' ⟨?nsn, ?rd, ?ga, ?pg, ?hd, ?po, ?sa, ?mks, ?kp⟩; (case nsn => k_is); (case rd => k_is); (case ga => k_is); (case pg => k_is); (case hd => k_is); (case po => k_is); (case sa => k_is); (case mks => k_is); (case kp => k_is)))
    (case noCN_who => k_is)
    (case noCN_barred_flag => k_is)
    (case kCS => (refine' ⟨?nsn, ?rd, ?ga, ?pg, ?hd, ?po, ?sa, ?mks, ?kp⟩; (case nsn => k_is); (case rd => k_is); (case ga => k_is); (case pg => k_is); (case hd => k_is); (case po => k_is); (case sa => k_is); (case mks => k_is); (case kp => k_is)))
    (case noCS_who => k_is)
    (case x_haCM => k_is)
    (case x_hmCM => k_is)
    (case x_mrCM => k_is)
    (case x_neCM => k_is)
    (case x_haCN => k_is)
    (case x_hmCN => k_is)
    (case x_mrCN => k_is)
    (case x_neCN => k_is)
    (case x_haCS => k_is)
    (case x_hmCS => k_is)
    (case x_mrCS => k_is)
    (case x_neCS => k_is)
    (case x_hn => k_is)
    (case x_ht => k_is)
    (case x_tyP => k_is)
    (case x_sup => k_is)
    (case x_op => k_is)
    (case x_nf00 => k_is)
    (case x_nf01 => k_is)
    (case x_nf02 => k_is)
    (case x_nf10 => k_is)
    (case x_nf11 => k_is)
    (case x_nf12 => k_is)
    (case x_nf20 => k_is)
    (case x_nf21 => k_is)
    (case x_nf22 => k_is)
    (case cL => k_is)
    (case cT => k_is)
    (case n_bgD => k_is)
    (case u_bgD => (refine' L2.fun_mk ?l ?c ?k; (case l => k_is); (case c => k_is); (case k => k_is)))
    (case n_dtD => k_is)
    (case u_dtD => (refine' L2.fun_mk ?l ?c ?k; (case l => k_is); (case c => k_is); (case k => k_is)))
    (case n_dpD => k_is)
    (case u_dpD => (refine' L2.fun_mk ?l ?c ?k; (case l => k_is); (case c => k_is); (case k => k_is)))
    (case n_nmD => k_is)
    (case u_nmD => (refine' L2.fun_mk ?l ?c ?k; (case l => k_is); (case c => k_is); (case k => k_is)))
    (case n_paD => k_is)
    (case u_paD => (refine' L2.fun_mk ?l ?c ?k; (case l => k_is); (case c => k_is); (case k => k_is)))
    (case n_phD => k_is)
    (case u_phD => (refine' L2.fun_mk ?l ?c ?k; (case l => k_is); (case c => k_is); (case k => k_is)))
    (case n_plD => k_is)
    (case u_plD => (refine' L2.fun_mk ?l ?c ?k; (case l => k_is); (case c => k_is); (case k => k_is)))
    (case n_tsD => k_is)
    (case u_tsD => (refine' L2.fun_mk ?l ?c ?k; (case l => k_is); (case c => k_is); (case k => k_is)))
    (case n_alD => k_is)
    (case u_alD => (refine' L2.fun_mk ?l ?c ?k; (case l => k_is); (case c => k_is); (case k => k_is)))
    (case n_lpD => k_is)
    (case u_lpD => (refine' L2.fun_mk ?l ?c ?k; (case l => k_is); (case c => k_is); (case k => k_is)))
    (case n_itD => k_is)
    (case u_itD => (refine' L2.fun_mk ?l ?c ?k; (case l => k_is); (case c => k_is); (case k => k_is)))
    (case n_chD => k_is)
    (case u_chD => (refine' L2.fun_mk ?l ?c ?k; (case l => k_is); (case c => k_is); (case k => k_is)))
    (case n_erD => k_is)
    (case u_erD => (refine' L2.fun_mk ?l ?c ?k; (case l => k_is); (case c => k_is); (case k => k_is)))
    (case n_arD => k_is)
    (case u_arD => (refine' L2.fun_mk ?l ?c ?k; (case l => k_is); (case c => k_is); (case k => k_is)))
    (case n_mdR => k_is)
    (case u_mdR => (refine' L2.fun_mk ?l ?c ?k; (case l => k_is); (case c => k_is); (case k => k_is)))
    (case n_unr => k_is)
    (case u_unr => (refine' L2.fun_mk ?l ?c ?k; (case l => k_is); (case c => k_is); (case k => k_is)))
    (case n_isV => k_is)
    (case u_isV => (refine' L2.fun_mk ?l ?c ?k; (case l => k_is); (case c => k_is); (case k => k_is)))
    (case n_law => k_is)
    (case u_law => (refine' L2.funC_mk ?l ?e ?k; (case l => k_is); (case e => k_is); (case k => k_is)))
    (case t1_law => rfl)
    (case t2_law => rfl)
    (case t3_law => rfl)
    (case a_mi => k_is)
    (case af_mi => k_is)
    (case fs_mi => (refine' SupX.funS_mk ?l ?c ?d ?v ?e ?z ?k; (case l => k_is); (case c => k_is); (case d => k_is); (case v => rfl); (case e => rfl); (case z => k_is); (case k => k_is)))
    (case a_ni => k_is)
    (case af_ni => k_is)
    (case fs_ni => (refine' SupX.funS_mk ?l ?c ?d ?v ?e ?z ?k; (case l => k_is); (case c => k_is); (case d => k_is); (case v => rfl); (case e => rfl); (case z => k_is); (case k => k_is)))
    (case x_top => rfl)
    (case m_pin => (refine' ⟨?at_, ?fn⟩; (case at_ => k_is); (case fn => k_is)))
    (case m_aM => (refine' ⟨?at_, ?fn⟩; (case at_ => k_is); (case fn => k_is)))
    (case m_aN => (refine' ⟨?at_, ?fn⟩; (case at_ => k_is); (case fn => k_is)))
    (case m_aS => (refine' ⟨?at_, ?fn⟩; (case at_ => k_is); (case fn => k_is)))
    (case m_peq => (refine' ⟨?at_, ?fn⟩; (case at_ => k_is); (case fn => k_is)))
    (case m_tM => (refine' ⟨?at_, ?get, ?tak, ?rec_⟩; (case at_ => k_is); (case get => k_is); (case tak => k_is); (case rec_ => k_is)))
    (case m_tN => (refine' ⟨?at_, ?get, ?tak, ?rec_⟩; (case at_ => k_is); (case get => k_is); (case tak => k_is); (case rec_ => k_is)))
    (case m_tS => (refine' ⟨?at_, ?get, ?tak, ?rec_⟩; (case at_ => k_is); (case get => k_is); (case tak => k_is); (case rec_ => k_is)))
    (case m_of => (refine' ⟨?at_, ?rec_⟩; (case at_ => k_is); (case rec_ => k_is)))
    (case u_pin => (refine' L2.fun_mk ?l ?c ?k; (case l => k_is); (case c => k_is); (case k => k_is)))
    (case u_aM => (refine' L2.fun_mk ?l ?c ?k; (case l => k_is); (case c => k_is); (case k => k_is)))
    (case u_aN => (refine' L2.fun_mk ?l ?c ?k; (case l => k_is); (case c => k_is); (case k => k_is)))
    (case u_aS => (refine' L2.fun_mk ?l ?c ?k; (case l => k_is); (case c => k_is); (case k => k_is)))
    (case u_peq => (refine' L2.fun_mk ?l ?c ?k; (case l => k_is); (case c => k_is); (case k => k_is)))
    (case u_tM => (refine' L2.fun_mk ?l ?c ?k; (case l => k_is); (case c => k_is); (case k => k_is)))
    (case u_tN => (refine' L2.fun_mk ?l ?c ?k; (case l => k_is); (case c => k_is); (case k => k_is)))
    (case u_tS => (refine' L2.fun_mk ?l ?c ?k; (case l => k_is); (case c => k_is); (case k => k_is)))
    (case u_of => (refine' L2.fun_mk ?l ?c ?k; (case l => k_is); (case c => k_is); (case k => k_is)))
    (case y_somi => (refine' FT.subOf_mk ?a ?b ?e; (case a => k_is); (case b => k_is); (case e => rfl)))
    (case y_submi => k_is)
    (case y_eqmi => k_is)
    (case y_soni => (refine' FT.subOf_mk ?a ?b ?e; (case a => k_is); (case b => k_is); (case e => rfl)))
    (case y_subni => k_is)
    (case y_eqni => k_is)
    (case y_iP => k_is)
    (case y_ty => k_is)
    (case y_fi => k_is)
    (case rt0 => (refine' ⟨?nsn, ?at_, ?rd, ?ga, ?ini, ?hn, ?ht⟩; (case nsn => k_is); (case at_ => (refine' ⟨_, _, _, _, _, _, _, _, _, _, _, _, _, _, ?xl⟩; (case xl => rfl))); (case rd => k_is); (case ga => k_is); (case ini => k_is); (case hn => k_is); (case ht => k_is)))
    (case e_InvalidForest => (refine' ⟨?nsn, ?at_, ?sa, ?ga, ?gg, ?ha, ?kC, ?no, ?ini, ?ity⟩; (case nsn => k_is); (case at_ => (refine' ⟨_, _, _, _, _, _, _, _, _, _, _, _, _, _, ?xl⟩; (case xl => rfl))); (case sa => k_is); (case ga => k_is); (case gg => k_is); (case ha => k_is); (case kC => k_is); (case no => k_is); (case ini => k_is); (case ity => k_is)))
    (case i_InvalidForest => (refine' L2.fun_mk ?l ?c ?k; (case l => k_is); (case c => k_is); (case k => k_is)))
    (case e_UnknownName => (refine' ⟨?nsn, ?at_, ?sa, ?ga, ?gg, ?ha, ?kC, ?no, ?ini, ?ity⟩; (case nsn => k_is); (case at_ => (refine' ⟨_, _, _, _, _, _, _, _, _, _, _, _, _, _, ?xl⟩; (case xl => rfl))); (case sa => k_is); (case ga => k_is); (case gg => k_is); (case ha => k_is); (case kC => k_is); (case no => k_is); (case ini => k_is); (case ity => k_is)))
    (case i_UnknownName => (refine' L2.fun_mk ?l ?c ?k; (case l => k_is); (case c => k_is); (case k => k_is)))
    (case e_InvalidUsers => (refine' ⟨?nsn, ?at_, ?sa, ?ga, ?gg, ?ha, ?kC, ?no, ?ini, ?ity⟩; (case nsn => k_is); (case at_ => (refine' ⟨_, _, _, _, _, _, _, _, _, _, _, _, _, _, ?xl⟩; (case xl => rfl))); (case sa => k_is); (case ga => k_is); (case gg => k_is); (case ha => k_is); (case kC => k_is); (case no => k_is); (case ini => k_is); (case ity => k_is)))
    (case i_InvalidUsers => (refine' L2.fun_mk ?l ?c ?k; (case l => k_is); (case c => k_is); (case k => k_is)))
    (case e_InvalidSizes => (refine' ⟨?nsn, ?at_, ?sa, ?ga, ?gg, ?ha, ?kC, ?no, ?ini, ?ity⟩; (case nsn => k_is); (case at_ => (refine' ⟨_, _, _, _, _, _, _, _, _, _, _, _, _, _, ?xl⟩; (case xl => rfl))); (case sa => k_is); (case ga => k_is); (case gg => k_is); (case ha => k_is); (case kC => k_is); (case no => k_is); (case ini => k_is); (case ity => k_is)))
    (case i_InvalidSizes => (refine' L2.fun_mk ?l ?c ?k; (case l => k_is); (case c => k_is); (case k => k_is)))
    (case e_InvalidPlace => (refine' ⟨?nsn, ?at_, ?sa, ?ga, ?gg, ?ha, ?kC, ?no, ?ini, ?ity⟩; (case nsn => k_is); (case at_ => (refine' ⟨_, _, _, _, _, _, _, _, _, _, _, _, _, _, ?xl⟩; (case xl => rfl))); (case sa => k_is); (case ga => k_is); (case gg => k_is); (case ha => k_is); (case kC => k_is); (case no => k_is); (case ini => k_is); (case ity => k_is)))
    (case i_InvalidPlace => (refine' L2.fun_mk ?l ?c ?k; (case l => k_is); (case c => k_is); (case k => k_is)))
    (case e_NotBest => (refine' ⟨?nsn, ?at_, ?sa, ?ga, ?gg, ?ha, ?kC, ?no, ?ini, ?ity⟩; (case nsn => k_is); (case at_ => (refine' ⟨_, _, _, _, _, _, _, _, _, _, _, _, _, _, ?xl⟩; (case xl => rfl))); (case sa => k_is); (case ga => k_is); (case gg => k_is); (case ha => k_is); (case kC => k_is); (case no => k_is); (case ini => k_is); (case ity => k_is)))
    (case i_NotBest => (refine' L2.fun_mk ?l ?c ?k; (case l => k_is); (case c => k_is); (case k => k_is)))
    (case e_UnknownUser => (refine' ⟨?nsn, ?at_, ?sa, ?ga, ?gg, ?ha, ?kC, ?no, ?ini, ?ity⟩; (case nsn => k_is); (case at_ => (refine' ⟨_, _, _, _, _, _, _, _, _, _, _, _, _, _, ?xl⟩; (case xl => rfl))); (case sa => k_is); (case ga => k_is); (case gg => k_is); (case ha => k_is); (case kC => k_is); (case no => k_is); (case ini => k_is); (case ity => k_is)))
    (case i_UnknownUser => (refine' L2.fun_mk ?l ?c ?k; (case l => k_is); (case c => k_is); (case k => k_is)))
    (case e_Mismatch => (refine' ⟨?nsn, ?at_, ?sa, ?ga, ?gg, ?ha, ?kC, ?no, ?ini, ?ity⟩; (case nsn => k_is); (case at_ => (refine' ⟨_, _, _, _, _, _, _, _, _, _, _, _, _, _, ?xl⟩; (case xl => rfl))); (case sa => k_is); (case ga => k_is); (case gg => k_is); (case ha => k_is); (case kC => k_is); (case no => k_is); (case ini => k_is); (case ity => k_is)))
    (case i_Mismatch => (refine' L2.fun_mk ?l ?c ?k; (case l => k_is); (case c => k_is); (case k => k_is)))
    (case e_InvalidNumber => (refine' ⟨?nsn, ?at_, ?sa, ?ga, ?gg, ?ha, ?kC, ?no, ?ini, ?ity⟩; (case nsn => k_is); (case at_ => (refine' ⟨_, _, _, _, _, _, _, _, _, _, _, _, _, _, ?xl⟩; (case xl => rfl))); (case sa => k_is); (case ga => k_is); (case gg => k_is); (case ha => k_is); (case kC => k_is); (case no => k_is); (case ini => k_is); (case ity => k_is)))
    (case i_InvalidNumber => (refine' L2.fun_mk ?l ?c ?k; (case l => k_is); (case c => k_is); (case k => k_is)))
    (case e_InvalidLists => (refine' ⟨?nsn, ?at_, ?sa, ?ga, ?gg, ?ha, ?kC, ?no, ?ini, ?ity⟩; (case nsn => k_is); (case at_ => (refine' ⟨_, _, _, _, _, _, _, _, _, _, _, _, _, _, ?xl⟩; (case xl => rfl))); (case sa => k_is); (case ga => k_is); (case gg => k_is); (case ha => k_is); (case kC => k_is); (case no => k_is); (case ini => k_is); (case ity => k_is)))
    (case i_InvalidLists => (refine' L2.fun_mk ?l ?c ?k; (case l => k_is); (case c => k_is); (case k => k_is)))
    (case e_NeedsMemory => (refine' ⟨?nsn, ?at_, ?sa, ?ga, ?gg, ?ha, ?kC, ?no, ?ini, ?ity⟩; (case nsn => k_is); (case at_ => (refine' ⟨_, _, _, _, _, _, _, _, _, _, _, _, _, _, ?xl⟩; (case xl => rfl))); (case sa => k_is); (case ga => k_is); (case gg => k_is); (case ha => k_is); (case kC => k_is); (case no => k_is); (case ini => k_is); (case ity => k_is)))
    (case i_NeedsMemory => (refine' L2.fun_mk ?l ?c ?k; (case l => k_is); (case c => k_is); (case k => k_is)))
    (case e_TooMany => (refine' ⟨?nsn, ?at_, ?sa, ?ga, ?gg, ?ha, ?kC, ?no, ?ini, ?ity⟩; (case nsn => k_is); (case at_ => (refine' ⟨_, _, _, _, _, _, _, _, _, _, _, _, _, _, ?xl⟩; (case xl => rfl))); (case sa => k_is); (case ga => k_is); (case gg => k_is); (case ha => k_is); (case kC => k_is); (case no => k_is); (case ini => k_is); (case ity => k_is)))
    (case i_TooMany => (refine' L2.fun_mk ?l ?c ?k; (case l => k_is); (case c => k_is); (case k => k_is)))
    (case e_InvalidLimits => (refine' ⟨?nsn, ?at_, ?sa, ?ga, ?gg, ?ha, ?kC, ?no, ?ini, ?ity⟩; (case nsn => k_is); (case at_ => (refine' ⟨_, _, _, _, _, _, _, _, _, _, _, _, _, _, ?xl⟩; (case xl => rfl))); (case sa => k_is); (case ga => k_is); (case gg => k_is); (case ha => k_is); (case kC => k_is); (case no => k_is); (case ini => k_is); (case ity => k_is)))
    (case i_InvalidLimits => (refine' L2.fun_mk ?l ?c ?k; (case l => k_is); (case c => k_is); (case k => k_is)))
    (case e_InvalidPin => (refine' ⟨?nsn, ?at_, ?sa, ?ga, ?gg, ?ha, ?kC, ?no, ?ini, ?ity⟩; (case nsn => k_is); (case at_ => (refine' ⟨_, _, _, _, _, _, _, _, _, _, _, _, _, _, ?xl⟩; (case xl => rfl))); (case sa => k_is); (case ga => k_is); (case gg => k_is); (case ha => k_is); (case kC => k_is); (case no => k_is); (case ini => k_is); (case ity => k_is)))
    (case i_InvalidPin => (refine' L2.fun_mk ?l ?c ?k; (case l => k_is); (case c => k_is); (case k => k_is)))
    (case e_Crowded => (refine' ⟨?nsn, ?at_, ?sa, ?ga, ?gg, ?ha, ?kC, ?no, ?ini, ?ity⟩; (case nsn => k_is); (case at_ => (refine' ⟨_, _, _, _, _, _, _, _, _, _, _, _, _, _, ?xl⟩; (case xl => rfl))); (case sa => k_is); (case ga => k_is); (case gg => k_is); (case ha => k_is); (case kC => k_is); (case no => k_is); (case ini => k_is); (case ity => k_is)))
    (case i_Crowded => (refine' L2.fun_mk ?l ?c ?k; (case l => k_is); (case c => k_is); (case k => k_is)))
    (case e_InvalidCommand => (refine' ⟨?nsn, ?at_, ?sa, ?ga, ?gg, ?ha, ?kC, ?no, ?ini, ?ity⟩; (case nsn => k_is); (case at_ => (refine' ⟨_, _, _, _, _, _, _, _, _, _, _, _, _, _, ?xl⟩; (case xl => rfl))); (case sa => k_is); (case ga => k_is); (case gg => k_is); (case ha => k_is); (case kC => k_is); (case no => k_is); (case ini => k_is); (case ity => k_is)))
    (case i_InvalidCommand => (refine' L2.fun_mk ?l ?c ?k; (case l => k_is); (case c => k_is); (case k => k_is)))
    (case e_InvalidJournal => (refine' ⟨?nsn, ?at_, ?sa, ?ga, ?gg, ?ha, ?kC, ?no, ?ini, ?ity⟩; (case nsn => k_is); (case at_ => (refine' ⟨_, _, _, _, _, _, _, _, _, _, _, _, _, _, ?xl⟩; (case xl => rfl))); (case sa => k_is); (case ga => k_is); (case gg => k_is); (case ha => k_is); (case kC => k_is); (case no => k_is); (case ini => k_is); (case ity => k_is)))
    (case i_InvalidJournal => (refine' L2.fun_mk ?l ?c ?k; (case l => k_is); (case c => k_is); (case k => k_is)))
    (case e_InvalidText => (refine' ⟨?nsn, ?at_, ?sa, ?ga, ?gg, ?ha, ?kC, ?no, ?ini, ?ity⟩; (case nsn => k_is); (case at_ => (refine' ⟨_, _, _, _, _, _, _, _, _, _, _, _, _, _, ?xl⟩; (case xl => rfl))); (case sa => k_is); (case ga => k_is); (case gg => k_is); (case ha => k_is); (case kC => k_is); (case no => k_is); (case ini => k_is); (case ity => k_is)))
    (case i_InvalidText => (refine' L2.fun_mk ?l ?c ?k; (case l => k_is); (case c => k_is); (case k => k_is)))
    (case apart => decide +kernel)
    (case dist => decide +kernel)
    (case z_abs => k_is)
    (case z_len => k_is)
    (case z_rng => k_is)
    (case z_enu => k_is)
    (case z_zip => k_is)
    (case z_isi => k_is)
    (case z_all => k_is)
    (case z_srt => k_is)
    (case z_lst => k_is)
    (case z_dct => k_is)
    (case z_str => k_is)
    (case z_int => k_is)
    (case z_tup => k_is)
    (case z_sum => k_is)
    (case z_min => k_is)
    (case z_max => k_is)
    (case z_rep => k_is)
    (case z_bool => k_is)
    (case z_any => k_is)
    (case z_vE => k_is)
