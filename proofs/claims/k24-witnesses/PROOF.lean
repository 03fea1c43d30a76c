import PyProof.Rows.All
import Wide.All
import OpenK.AllK
import Wide.FinOn
import HandS.ForMost
import PyProof.EqAt
import PyProof.EqKinds
import PyProof.TupleCall
import KE.KFromBytes
import KE.KExcIs
import HandS.Exc
import HandS.TryOnly
import HandS.ExcInit
import HandS.ExcIs
import HandS.ExcField
import HandS.IsInst
import HandS.ClsMeth
import HandS.Defaults
import HandS.DictComp
import HandS.SortKw
import HandS.More
import HandS.Nested
import PyProof.Rows.StrRules
import PyProof.Rows.SortKeyStr
import KE.KUnpackStar
import HandS.Flow
import HandS.Walk
import HandS.Wide
import HandS.Text
import HandS.Style
import HandS.Property
import HandS.WordsDict
import HandS.ListItems
import HandS.Finally
import HandS.WordsExc
import HandS.Conv
import HandS.List
import PyProof.NeData
import HandS.GenOver
import HandS.GenList
import HandS.GenYield
import HandS.Iter
import HandS.TupLen
import KE.KeyNested
import KE.KDictCopyH
import KE.KDictZip
import HandS.Zip
import PyProof.DictUpdate
import HandS.Dict
import PyProof.ReprBulk
import HandS.OwnEq
import PyProof.InstNe
import PyProof.PureStr
import KE.KTurns
import HandS.Deep
import KE.KDictSum
import HandS.Sort
import HandS.TupLe
import PyProof.Rows.SortStr
import HandS.Lambda
import HandS.EndBits
import KE.KNest
import HandS.ExcOwn
import KE.RegKIsAll
import Wide.Loose
import PySem.Challenge.RW_flagtrees_k24_witnesses
set_option Elab.async false
set_option linter.all false
set_option maxRecDepth 100000
set_option maxHeartbeats 8000000

namespace FT
open PySem L2
/-- the i-th statement of the row's text -/
def top (i : Nat) : Stmt := PySem.Challenge.pw_flagtrees_k24_witnesses.main.body.getD i (.Pass ⟨0, 0, 0, 0⟩)
abbrev s__wall : Stmt := top 0
abbrev s_InvalidForest___init__ : Stmt := inClass (top 3) 0
abbrev s_UnknownName___init__ : Stmt := inClass (top 4) 0
abbrev s_InvalidUsers___init__ : Stmt := inClass (top 5) 0
abbrev s_InvalidSizes___init__ : Stmt := inClass (top 6) 0
abbrev s_InvalidLists___init__ : Stmt := inClass (top 7) 0
abbrev s_NeedsMemory___init__ : Stmt := inClass (top 8) 0
abbrev s_InvalidLimits___init__ : Stmt := inClass (top 9) 0
abbrev s_TooMany___init__ : Stmt := inClass (top 10) 0
abbrev s_is_name : Stmt := top 14
abbrev s_is_ancestor : Stmt := top 15
abbrev s_need_parents : Stmt := top 16
abbrev s_Forest___init__ : Stmt := inClass (top 17) 2
abbrev s_Forest___eq__ : Stmt := inClass (top 17) 3
abbrev s_Forest_flags : Stmt := inClass (top 17) 4
abbrev s_Forest_parents : Stmt := inClass (top 17) 5
abbrev s_Forest_text : Stmt := inClass (top 17) 6
abbrev s_Forest_children : Stmt := inClass (top 17) 7
abbrev s_Forest_path : Stmt := inClass (top 17) 8
abbrev s_Forest_under : Stmt := inClass (top 17) 9
abbrev s_Forest_distance : Stmt := inClass (top 17) 10
abbrev s_Forest_walk : Stmt := inClass (top 17) 11
abbrev s_Forest_parse : Stmt := inClass (top 17) 12
abbrev s_path_in : Stmt := top 18
abbrev s_need_place : Stmt := top 19
abbrev s_is_integer : Stmt := top 22
abbrev s_need_users : Stmt := top 23
abbrev s_has_two_chains : Stmt := top 25
abbrev s_is_memoryless : Stmt := top 26
abbrev s_witness : Stmt := top 27
abbrev s__law_begin : Stmt := top 29
abbrev s__law_mixed : Stmt := top 30
abbrev s__law_take : Stmt := top 31
abbrev s__law_pick : Stmt := top 32
abbrev s__law_forest : Stmt := top 33
abbrev s__law_sizes : Stmt := top 34
abbrev s__law_fits : Stmt := top 35
abbrev s__law_path : Stmt := top 36
abbrev s__law_counted : Stmt := top 37
abbrev s__law_result : Stmt := top 38
abbrev s__law_sizes_error : Stmt := top 39
abbrev s__law_bent_sizes : Stmt := top 40
abbrev s__law_agree : Stmt := top 41
abbrev s__law_left : Stmt := top 42
abbrev s__law_reduced : Stmt := top 43
abbrev s__law_can_place : Stmt := top 44
abbrev s__law_is_witness : Stmt := top 45
abbrev s__law_flipped : Stmt := top 46
abbrev s_law : Stmt := top 47
end FT


/-! Own: an exception class over ValueError called with one keyword, `C(name=value)`. The library's lemmas (HandSPX.call_own) say it for calls without keywords; these say it for one keyword. -/
namespace FX
open PySem PySem.W PySem.Calls PyProof.Rows PySem.HandSPX
section
variable {Mo : Model} {Ar : Around} {Er : Value → Shared → Prop} {he : Heap} {ge : Array GenState} {dr : Drawn} {tk : Nat} {os : OsState}
variable {nm qn : Str} {C N : Addr} {bs bm bmB : List Value} {hdct : Bool} {sn : List Str} {sub : List Value} {ab : Bool} {col : Option Bool} {dd : Option Addr} {k0 k1 k2 k3 k5 : Option Value} {B idN idI : String}
variable {kn : Str} {kv : Value} {more : List Value}
/-- the class object of an exception class, short -/
abbrev XO (nm qn : Str) (C N : Addr) (bs bm : List Value) (hdct : Bool) (sn : List Str) (sub : List Value) (ab : Bool) (col : Option Bool) (dd : Option Addr) (k0 k1 k2 k3 k5 : Option Value) (idN : String) : Obj :=
  excClassObj nm qn C N bs bm hdct sn sub ab col dd k0 k1 k2 k3 k5 idN
abbrev SameTy (bm bmB : List Value) : Prop := ∀ T : String, bm.contains (.type T) = bmB.contains (.type T)
end
section
variable {pg : Program} {w : World} {Ar : Around} {Er : Value → Shared → Prop} {Rs : Result → Shared → Prop} {he : Heap} {ge : Array GenState} {dr : Drawn} {tk : Nat} {os : OsState}
variable {nm qn : Str} {C N fI : Addr} {bs bm bmB : List Value} {hdct : Bool} {sn : List Str} {sub : List Value} {ab : Bool} {col : Option Bool} {dd : Option Addr} {k0 k1 k2 k3 k5 : Option Value} {B idN idI : String}
variable {kn : Str} {kv : Value} {more : List Value}
/-- the heap with the new exception -/
abbrev withX (he : Heap) (C : Addr) (more : List Value) : Heap := (he.push (W.kdv_tup more)).push (excO C he.objs.size)
end
end FX


namespace L2
open PySem PySem.Spec PyProof.Rows
/-- what the written part says of an own exception class over ValueError -/
structure XCls (K : PySem.W.Frag) (C : Addr) : Prop where
  cls : ∃ nm q N bs bm sn sub ab col dd k0 k1 k2 k3 k5, K.lookup C = some (excClassObj nm q C N bs bm true sn sub ab col dd k0 k1 k2 k3 k5 "ValueError.__new__") ∧ PySem.HandSPX.refsVE bm = true
  sa : PySem.W.findIn K (.ref C) "__setattr__" = some (some (.builtin "object.__setattr__"))
  exC : PySem.W.subIn K (.ref C) (.type "BaseException") = some true
  tyC : PySem.W.typeIn K (.ref C) = some (.type "type")
  kC : PySem.W.keepIn K (.ref C) = true
  ga : PySem.W.findIn K (.ref C) "__getattribute__" = some (some (.builtin "BaseException.__getattribute__"))
  gg : PySem.W.findIn K (.ref C) "__getattr__" = some none
  hdC : PySem.W.hasDictIn K C = true
  ha : PySem.W.findIn K (.ref C) "__class__" = some (some (.builtin "object.__class__"))
  hn : PySem.W.specialIn K (.builtin "object.__class__") "__get__" = some (some (.builtin "getset_descriptor.__get__"))
  ht : PySem.W.takesIn K (.builtin "object.__class__") = some true
  hm : PySem.W.mroIn K C (.type "object") = some true
theorem XCls.oex {K : PySem.W.Frag} {C : Addr} (c : XCls K C) : OexC K C := ⟨c.cls, c.sa, c.exC, c.tyC, c.kC⟩
/-- an exception object at a, by class and dict, its fields not told -/
def exg (a C : Addr) (d : Option Addr) : HO := .ext fun h => ∃ vs sl, h.get? a = some ({ cls := .ref C, dict := d, data := .fields vs, slots := sl } : Obj)
theorem exg_ok {P : Program} {w : World} {H : Hp} {h : Heap} {e C : Addr} {d : Option Addr} {vs : Array Value} {sl : Array (Option Value)} (he : h.get? e = some ({ cls := .ref C, dict := d, data := .fields vs, slots := sl } : Obj)) : ObjOk P w H h e (exg e C d) :=
  ⟨⟨vs, sl, he⟩, ⟨_, he⟩, fun h1 h2 z k => by
    obtain ⟨vs, sl, q⟩ := z
    exact ⟨vs, sl, k _ q⟩⟩
def XAt (H : Hp) (a C : Addr) (d : Option Addr) : Prop := H a = some (exo a C d) ∨ H a = some (exg a C d)
theorem XAt.obj {P : Program} {w : World} {H : Hp} {h : Heap} {a C : Addr} {d : Option Addr} (x : XAt H a C d) (hok : HOk P w H h) : ∃ ox vs, h.get? a = some ox ∧ ox.cls = .ref C ∧ ox.dict = d ∧ ox.data = .fields vs := by
  rcases x with e | e
  · obtain ⟨t1, q⟩ := exo_at hok e
    exact ⟨_, _, q, rfl, rfl, rfl⟩
  · have z : ObjOk P w H h a (.ext fun h => ∃ vs sl, h.get? a = some ({ cls := .ref C, dict := d, data := .fields vs, slots := sl } : Obj)) := hok a _ e
    obtain ⟨⟨vs, sl, q⟩, _⟩ := z
    exact ⟨_, vs, q, rfl, rfl, rfl⟩
def XD (H : Hp) (dx : Addr) (fs : List (Str × V)) : Prop := H dx = some (exd dx fs) ∨ H dx = some (.xd fs)
theorem XD.at {P : Program} {w : World} {H : Hp} {h : Heap} {dx : Addr} {fs : List (Str × V)} (x : XD H dx fs) (hok : HOk P w H h) : ∃ mA, h.Ns1 dx mA ∧ ∀ f, RelO (fs.lookup f) (mA f) := by
  rcases x with e | e
  · exact exd_at hok e
  · have z : ObjOk P w H h dx (.xd fs) := hok dx _ e
    exact z
/-- an exception of the class at C stands at a; its attributes are fs -/
def XV (H : Hp) (a C : Addr) (fs : List (Str × V)) : Prop := (XAt H a C none ∧ fs = []) ∨ ∃ dx, XAt H a C (some dx) ∧ XD H dx fs
theorem XV.inst {P : Program} {w : World} {H : Hp} {h : Heap} {a C : Addr} {fs : List (Str × V)} (x : XV H a C fs) (hok : HOk P w H h) : ∃ ox od, PySem.W.InstAt h a ox C od := by
  rcases x with ⟨x, _⟩ | ⟨dx, x, y⟩
  · obtain ⟨ox, vs, e1, e2, e3, e4⟩ := x.obj hok
    exact ⟨ox, none, e1, e2, by unfold PySem.W.notCls; rw [e4] <;> rfl, by rw [e3]; trivial⟩
  · obtain ⟨ox, vs, e1, e2, e3, e4⟩ := x.obj hok
    obtain ⟨mA, hn, hr⟩ := y.at hok
    obtain ⟨od, ho, hl⟩ := lookIn_ns hn
    exact ⟨ox, some od, e1, e2, by unfold PySem.W.notCls; rw [e4] <;> rfl, by rw [e3]; exact ho⟩
theorem XV.look {P : Program} {w : World} {H : Hp} {h : Heap} {a C : Addr} {fs : List (Str × V)} {f : Str} {v : V} (x : XV H a C fs) (hok : HOk P w H h) (hl : fs.lookup f = some v) :
    ∃ ox od u, PySem.W.InstAt h a ox C (some od) ∧ PySem.W.lookIn f od = some (some u) ∧ RelV v u := by
  rcases x with ⟨_, e⟩ | ⟨dx, x, y⟩
  · rw [e] at hl
    cases hl
  · obtain ⟨ox, vs, e1, e2, e3, e4⟩ := x.obj hok
    obtain ⟨mA, hn, hr⟩ := y.at hok
    obtain ⟨od, ho, hk⟩ := lookIn_ns hn
    obtain ⟨u, hu, ru⟩ := RelO.some_of (v := v) (o := mA f) (by rw [← hl]; exact hr f)
    exact ⟨ox, od, u, ⟨e1, e2, by unfold PySem.W.notCls; rw [e4] <;> rfl, by rw [e3]; exact ho⟩, by rw [hk, hu], ru⟩

section
variable {X : Cx}
/-- isinstance(e, c), e an exception of an own class -/
def rIsX (K : PySem.W.Frag) : List V → Hp → VK → Prop := fun xs H Q => ∃ (a C : Addr) (fs : List (Str × V)) (c : V) (u : Value) (b : Bool), xs = [.ref a, c] ∧ ClsV c u ∧ XCls K C ∧ XV H a C fs ∧ PySem.W.kitOne K (.ref C) u = some b ∧ Q (.bl b) H
theorem call_isX : CallR X (.builtin "isinstance") (rIsX X.K) := by
  intro pins s σ H xs us Q I r h
  obtain ⟨a, C, fs, c, u, b, rfl, k, T, xv, e, q⟩ := h
  obtain ⟨u1, u2, rfl, r1, r2⟩ := vals2 r
  have e2 := k.eq r2
  subst e2
  obtain rfl : u1 = Value.ref a := r1
  obtain ⟨ox, od, J⟩ := xv.inst I.hok
  have hcl : (PySem.W.clsIn X.K C).isSome = true := by
    obtain ⟨cd, hc, _⟩ := PySem.W.any_some T.hdC
    rw [hc] <;> rfl
  exact PySem.W.kia_one (PySem.W.kitx_exc hcl T.ga T.gg T.exC T.ha T.hn T.ht T.hm) I.kIn J e (fun z => nomatch z) fun tk => ⟨.bl b, H, I.tok tk, rfl, q⟩
/-- e.f -/
def tXFld (K : PySem.W.Frag) (te : TE) (f : Str) : TE := fun σ H Q => te σ H fun x H1 => ∃ (a C : Addr) (fs : List (Str × V)) (v : V), x = .ref a ∧ XV H1 a C fs ∧ XCls K C ∧ PySem.W.findIn K (.ref C) f = some none ∧ fs.lookup f = some v ∧ Q v H1
theorem pe_xfld {e : Expr} {te : TE} {pos : Pos} {n : Str} (he : PE X e te) (hb : attributeBase e n X.env (eval e X.env) = eval e X.env := by rfl) : PE X (.Attribute e n pos) (tXFld X.K te n) := by
  refine ⟨fun pins s σ H Q I h => ?_⟩
  refine attr_of hb (thn (he.run pins s σ H _ I h) fun u s1 hh => ?_)
  obtain ⟨x, H1, I1, rx, a, C, fs, v, ex, xv, T, hno, hl, q⟩ := hh
  subst ex
  obtain rfl : u = Value.ref a := rx
  obtain ⟨ox, od, u, J, hk, ru⟩ := xv.look I1.hok hl
  exact HandSPX.exc_get I1.kIn J T.ga T.gg T.exC (PySem.W.findObj_own T.hdC hno rfl hk) (handed_of ru) ⟨v, H1, I1.tok _, ru, q⟩
/-- R.__init__(self, ..), R an own class whose __init__ is ValueError's -/
structure XIni (K : PySem.W.Frag) (R : Addr) : Prop where
  rd : PySem.W.readsIn K R (.type "type") = true
  ga : PySem.W.specialIn K (.ref R) "__getattribute__" = some (some (.builtin "type.__getattribute__"))
  at_ : PySem.W.findCls K (.ref R) (.type "type") "__init__" = some (.val (.builtin "ValueError.__init__"))
theorem pe_clsinit {R : Addr} {rn : Str} {e : Expr} {es : List Expr} {ta : TA} {p1 p2 pos : Pos} {pl : Sem Bool} (T0 : XIni X.K R) (hg : Gl X rn) (hm : X.mg rn = some (.ref R)) (ha : PA X (e :: es) ta)
    (hdb : (rn == ("__debug__" : Str)) = false := by decide)
    (hc : eval (.Call (.Attribute (.Name rn p1) "__init__" p2) (e :: es) [] pos) X.env = (do
      let ov ← eval (.Name rn p1) X.env
      standAt p2.atName
      let (f, first) ← holding [ov] (getMethod ov "__init__" pl)
      callWith pos f first (backTo pos (starEach (e :: es) X.env)) (backToKw pos (keywordEach [] X.env))) := by rfl)
    (he : starEach (e :: es) X.env = (false, eval e X.env) :: starEach es X.env := by rfl) (hpl : (backTo pos (starEach es X.env)).any (·.1) = false := by rfl) :
    PE X (.Call (.Attribute (.Name rn p1) "__init__" p2) (e :: es) [] pos) (tVeI X.K ta) := by
  refine ⟨fun pins s σ H Q I h => ?_⟩
  refine PySem.W.methodCall_KW (ld_glob I hg hm ?_ hdb) hc
  refine PySem.W.method_cls I.kIn T0.ga (PySem.W.cls_value I.kIn T0.rd T0.at_ rfl ?_)
  show wpAny _ _ (callWith pos (Value.builtin "ValueError.__init__") [] (backTo pos (starEach (e :: es) X.env)) []) _ _ _
  refine PyProof.Rows.callWith_method1 (thn (ha.run pos pins _ σ H _ (I.tok _) h) fun us s1 ⟨vs, H1, I1, r1, a, C, ws, ev, hl, T, ea, q⟩ => ?_) he hpl
  subst ev
  cases r1 with
  | @cons _ u0 _ ur ra rw' =>
    obtain rfl : u0 = Value.ref a := ra
    have hlen : ur.length ≤ sizeLine := by
      rw [← Paired.length rw', sizeLine_eq]
      omega
    exact oinit_ok T I1 ea hlen fun s' J => ⟨.non, H1, J, rfl, q⟩

/-! ### C(..) as a value -/
variable {CX : CXT} {C fI : Addr} {k : Nat} {fd : FuncData} {ps : List Str} {sp : Sp} {ds : List Value} {dvs : List V} {E : XK}
/-- the state with a new exception of C laid, its arguments at the heap's end -/
theorem Inv.xnew {pins : List (Addr × Obj)} {σ : St} {H : Hp} {hp : Heap} {gn : Array GenState} {dr : Drawn} {tk : Nat} {os : OsState} (C : Addr) (us : List Value) (I : Inv X pins σ H ⟨hp, gn, dr, tk, os⟩) :
    H (hp.objs.size + 1) = none ∧ Inv X pins σ (upd H (hp.objs.size + 1) (exo (hp.objs.size + 1) C none)) ⟨FX.withX hp C us, gn, dr, tk, os⟩ := by
  have le : hp.objs.size ≤ hp.objs.size + 1 := Nat.le_succ _
  have at_ : (FX.withX hp C us).get? (hp.objs.size + 1) = some (PySem.HandSPX.excO C hp.objs.size) := by heap_get
  exact ⟨I.hok.fresh le, I.laid (t' := tk) (h' := FX.withX hp C us) (fun _ _ z => Heap.get?_push_of_some _ (Heap.get?_push_of_some _ z)) le (exo_ok at_)⟩
/-- C(e, ..) as a value; C's own __init__ keeps sp -/
def tMkX (C : Addr) (sp : Sp) (dvs : List V) (E : XK) (ta : TA) : TE := fun σ H Q => ta σ H fun vs H1 => vs.length ≤ 1000 ∧ ∀ a, H1 a = none → sp (.ref a :: (vs ++ dvs)) (upd H1 a (exo a C none)) (fun v H2 => v = .non ∧ Q (.ref a) H2) E
def tMkXK (C : Addr) (sp : Sp) (gV : List V → List V → List V) (E : XK) (te : TE) : TE := fun σ H Q => te σ H fun v H1 => ∀ a, H1 a = none → sp (gV [.ref a] [v]) (upd H1 a (exo a C none)) (fun v H2 => v = .non ∧ Q (.ref a) H2) E
variable {x : Str} {e : Expr} {es : List Expr} {ta : TA} {te : TE} {p pos kpos : Pos}
end
end L2


/-! y = {k: v for ..}, y a local; an expression whose answer is locked -/
namespace L2
open PySem PySem.Spec PyProof.Rows
section
variable {X : Cx} {i : Nat} {y : Str} {py : Pos} {kx vx tg iter : Expr} {ifs : List Expr} {scope : Scope} {own : List (Str × Nat)} {pos spos : Pos} {wi : TI} {g : TG} {tt : TT} {tk tv : TE}
/-- e, its answer locked from then on -/
def tLk (te : TE) : TE := fun σ H Q => te σ H fun x H1 => ∃ d u, x = .ref d ∧ H1 d = some u ∧ Mut (some u) ∧ ∀ od, Q (.ref d) (upd H1 d (.frz od u))
end
end L2


/-! try: .. except C as n: .., the caught exception known behind the try -/
namespace L2
open PySem PySem.Spec PyProof.Rows
section
variable {X : Cx} {pins : List (Addr × Obj)} {σ : St} {H : Hp} {s : Shared}
/-- an object that stands there is known from now on; the entry had none at its place -/
theorem Inv.known {a : Addr} {o : HO} (I : Inv X pins σ H s) (hn : H a = none) (h0 : X.s_0.heap.get? a = none) (hL : a ≠ X.env.locals) (h2 : ∀ x c, X.env.cells.lookup x = some c → c ≠ a) (h3 : ∀ p ∈ X.pn ++ pins, p.1 ≠ a)
    (new : ObjOk X.prog X.w (upd H a o) s.heap a o) : Inv X pins σ (upd H a o) s := by
  have nit : ∀ b u, H b = some u → b ≠ a := fun b u e z => by rw [z, hn] at e; cases e
  refine ⟨I.ok, I.os, I.bare, ⟨I.base.keep, I.base.slot, fun b o e n hx => ?_, I.base.there, fun b xs e => ?_, fun b o xs e => ?_, fun b ps e => ?_⟩, I.loc, I.cell, ?_, fun x c e => ?_, fun p hp => ?_, fun b u e => ?_, I.len⟩
  · rw [upd_ne (fun z => by rw [z, h0] at e; cases e)]
    exact I.base.free b o e n hx
  · have q := I.base.tups b xs e
    rw [upd_ne (nit b _ q)]
    exact q
  · have q := I.base.frzs b o xs e
    rw [upd_ne (nit b _ q)]
    exact q
  · obtain ⟨m, q⟩ := I.base.tbls b ps e
    exact ⟨m, by rw [upd_ne (nit b _ q)]; exact q⟩
  · rw [upd_ne (Ne.symm hL)]
    exact I.free
  · rw [upd_ne (h2 x c e)]
    exact I.freeC x c e
  · obtain ⟨e, n, r⟩ := I.pin p hp
    exact ⟨e, by rw [upd_ne (h3 p hp)]; exact n, r⟩
  · by_cases hb : b = a
    · subst hb
      rw [upd_same] at e
      cases e
      exact new
    · rw [upd_ne hb] at e
      exact (I.hok b u e).stay (fun c v hc q => q) (fun c q => by rw [upd_ne (nit c _ q)]; exact q) fun c _ q => by rw [upd_ne (nit c _ q)]; exact q
end
/-- what a landed exception is: its object, where it does not lie -/
structure Landed (X : Cx) (pins : List (Addr × Obj)) (σ : St) (H : Hp) (a C : Addr) (d : Option Addr) (h : Heap) (s : Shared) : Prop where
  inv : Inv X pins σ H { s with heap := h }
  obj : ∃ vs sl, h.get? a = some ({ cls := .ref C, dict := d, data := .fields vs, slots := sl } : Obj)
  free : H a = none
  entry : X.s_0.heap.get? a = none
  loc : a ≠ X.env.locals
  fs : a ∉ X.fs
  pin : ∀ p ∈ X.pn ++ pins, p.1 ≠ a
theorem Landed.of {X : Cx} {pins : List (Addr × Obj)} {σ : St} {H : Hp} {a C : Addr} {d : Option Addr} {h B : Heap} {s sI : Shared} (hs : X.stack = X.env :: X.outer) (hf : X.env.frame = some X.env.locals) (hex : X.ex = []) (J : Inv X pins σ H sI) (na : H a = none)
    (nb : ∀ b o, sI.heap.get? b = some o → b ∉ frs X.stack → B.get? b = some o) (hB : B.get? a = none) (ff : h.FunFrames B (X.env :: X.outer)) (there : ∃ oe vs, h.get? a = some oe ∧ Zc (.ref C) d oe ∧ oe.data = .fields vs) (K : Inv X pins σ H { s with heap := h }) : Landed X pins σ H a C d h s := by
  obtain ⟨⟨oc, od, odt, osl⟩, ws, at_, ⟨z1, z2⟩, z3⟩ := there
  have off : a ∉ frs (X.env :: X.outer) := fun hm => by
    obtain ⟨_, u, hu, plain⟩ := ff.mem hm
    rw [at_] at hu
    exact plain ws (by rw [← Option.some.inj hu]; exact z3)
  have out : sI.heap.get? a = none := by
    cases q : sI.heap.get? a with
    | none => rfl
    | some o => exact absurd (nb a o q (by rw [hs]; exact off)) (by rw [hB]; simp)
  refine ⟨K, ⟨ws, osl, ?_⟩, na, ?_, fun z => off (List.mem_filterMap.mpr ⟨X.env, .head _, by rw [hf, z]⟩), fun hm => ?_, fun p hp z => ?_⟩
  · dsimp only at z1 z2 z3
    rw [at_, z1, z2, z3]
  · cases q : X.s_0.heap.get? a with
    | none => rfl
    | some o =>
      obtain ⟨_, q2⟩ := J.base.there a o q (by rw [hex]; simp)
      rw [out] at q2
      cases q2
  · obtain ⟨e, m, q⟩ := List.mem_filterMap.mp hm
    exact off (List.mem_filterMap.mpr ⟨e, .tail _ m, q⟩)
  · have q := (J.pin p hp).1
    rw [z, out] at q
    cases q
/-- what is wanted of an exception in the try: as wAs, but behind the suite the exception is known -/
def wAsK (K : PySem.W.Frag) (c : Value) (i : Nat) (ts : Addr → Value → Option Addr → TS) (Wout : WX) (D : Ends) : WX := fun cls d σ H => ∃ b C, cls = Value.ref C ∧ PySem.W.exmOne K cls c = some b ∧
  (b = true → ∀ a, H a = none → ts a cls d ⟨fun σ' H' => D.nx (σ'.set i none) (upd H' a (exg a C d)), D.rt, fun σ' H' => D.bk (σ'.set i none) H', fun σ' H' => D.ct (σ'.set i none) H'⟩ (σ.set i (some (.ref a))) H) ∧ (b = false → Wout cls d σ H)
section
variable {X : Cx} {x n : Str} {c : Value} {i : Nat} {body suite : List Stmt} {st : Stmt} {np pos hpos : Pos} {tb : WX → TS} {ts : Addr → Value → Option Addr → TS} {Wout : WX}
/-- the end of such a suite -/
theorem keep_end {pins : List (Addr × Obj)} {σ σ6 : St} {H H6 : Hp} {a C : Addr} {d : Option Addr} {h : Heap} {s s6 : Shared} {oe : Obj} {Q : Shared → Prop} (L : Landed X pins σ H a C d h s) (eo : h.get? a = some oe) (hN : X.N.Nodup) (hi : X.N[i]? = some n) (hln : X.env.kindOf n = some .local)
    (S : Inv (X.suite a ((a, oe) :: (X.pn ++ pins))) [] σ6 H6 s6) (q : ∀ s7, Inv X pins (σ6.set i none) (upd H6 a (exg a C d)) s7 → Q s7) : wpAny (model X.prog X.w) X.A (do bindName X.env n .none; unbindBehindTheSuite X.env n hpos) (fun _ s7 => Q s7) X.xe s6 := by
  obtain ⟨p1, p2, _⟩ := S.pin (a, oe) (List.mem_append_left _ (.head _))
  obtain ⟨ws, sl, e0⟩ := L.obj
  rw [eo] at e0
  have p3 : s6.heap.get? a = some oe := p1
  rw [Option.some.inj e0] at p3
  have U := S.unsuite L.inv.ok
  refine gone_ok (U.known (o := exg a C d) p2 L.entry L.loc (fun y k e z => ?_) L.pin (exg_ok p3)) hN hi hln q
  obtain ⟨_, _, w1, w2⟩ := U.cell y k e
  rw [z, p3] at w1
  rw [← Option.some.inj w1] at w2
  cases w2
/-- try: body / except x as n: suite -/
theorem ps_try_keep (hs : X.stack = X.env :: X.outer) (hf : X.env.frame = some X.env.locals) (hex : X.ex = []) (hN : X.N.Nodup) (hi : X.N[i]? = some n) (hln : X.env.kindOf n = some .local) (hc : Names X x c) (tk : Takes X Wout)
    (hb : ∀ (W : WX) (pn : List (Addr × Obj)) (xe : Value → Shared → Prop), Takes (X.tr pn xe) W → PassesOwn (model X.prog X.w) X.A X.env xe → PSs (X.tr pn xe) body (tb W))
    (hsu : ∀ (a : Addr) (oe : Obj) (cls : Value) (d : Option Addr) (pn : List (Addr × Obj)), Zc cls d oe → (∃ vs, oe.data = .fields vs) → PSs (X.suite a ((a, oe) :: pn)) (st :: suite) (ts a cls d)) :
    PS X (.Try body [.ExceptHandler (some (.Name x np)) (some n) (st :: suite) hpos] [] [] pos) (fun D σ H => tb (wAsK X.K c i ts Wout D) D σ H) := by
  constructor
  intro pins s σ H D I h
  refine wpAny_Try_except (wpAny_mono ((hb (wAsK X.K c i ts Wout D) (X.pn ++ pins) (fun e t1 => wpAny (model X.prog X.w) X.A (noteFrame e X.env) (fun _ t2 => wpAny (model X.prog X.w) X.A (setFlight e none) (fun _ t3 =>
    wpAny (model X.prog X.w) X.A (handleBy e X.env [.ExceptHandler (some (.Name x np)) (some n) (st :: suite) hpos]) (SP X pins D) X.xe t3) X.xe t2) X.xe t1) (fun u s' air => ?_) PassesOwn.looking).run [] s σ H D (I.toTry _) h) (fun f t1 ok => ?_) fun _ _ z => z)
  case refine_2 =>
    cases f with
    | next => exact let ⟨σ1, H1, K, q⟩ := ok; wpAny_execs_nil ⟨σ1, H1, K.ofTry I.ok, q⟩
    | brk => exact let ⟨σ1, H1, K, q⟩ := ok; ⟨σ1, H1, K.ofTry I.ok, q⟩
    | cont => exact let ⟨σ1, H1, K, q⟩ := ok; ⟨σ1, H1, K.ofTry I.ok, q⟩
    | ret u => exact let ⟨v, σ1, H1, K, rv, q⟩ := ok; ⟨v, σ1, H1, K.ofTry I.ok, rv, q⟩
  case refine_1 =>
    obtain ⟨a, B, sI, pins', σ', H', cls, d, rfl, J', nb, up, sky, na, os, ag, b, C, rfl, mb, yes, no⟩ := air
    have J := J'.ofTry I.ok
    rw [hs] at sky
    have hfr : X.A.frames = some (X.env :: X.outer) := I.ok.frames.trans (congrArg some hs)
    show wpAny (model X.prog X.w) X.A (noteFrame (.ref a) X.env) _ _ _
    refine Sky.land Zc.steady hfr hf sky fun hA flA upA => ?_
    have KA : Inv X pins σ' H' { s' with heap := hA } := J.landed nb flA.1 (up.trans upA) os ag
    obtain ⟨oA, wA, atA, zA, dA⟩ := flA.there
    have LA := Landed.of (s := s') hs hf hex J na nb flA.2.1 flA.2.2.1 ⟨oA, wA, atA, zA, dA⟩ KA
    have SA := KA.suite atA dA na LA.loc LA.fs
    refine wpAny_handleBy_cons (codeAny_handlers_test ?_) fun z => by cases z
    have ty : PySem.W.Looks (model X.prog X.w) hA (typeOf (.ref a)) (.ref C) := fun _ _ _ _ kk q => wpAny_typeOf_ref (kk _ _ atA) (by rw [zA.1]; exact q)
    have mk := PySem.W.exm_one (M := model X.prog X.w) KA.kIn ty mb
    have named : ∀ {Q E : Value → Shared → Prop}, Q c { s' with heap := hA } → wpAny (model X.prog X.w) (X.A.mark (some (.ref a))) (eval (.Name x np) X.env) Q E { s' with heap := hA } := fun q => by
      obtain ⟨g, gd, e | ⟨e, bt, nn⟩⟩ := hc
      · exact ld_glob SA g e q gd
      · exact ld_blt SA g e bt q nn gd
    refine named (mk.here ?_)
    match b, yes, no with
    | true, yes, _ =>
      refine codeAny_handlers_suite_as (HandSPX.lands_againZ flA fun hC flC upC => ?_)
      have KC : Inv X pins σ' H' { s' with heap := hC } := J.landed nb flC.1 ((up.trans upA).trans upC) os ag
      obtain ⟨oC, wC, atC, zC, dC⟩ := flC.there
      have LC := Landed.of (s := s') hs hf hex J na nb flC.2.1 flC.2.2.1 ⟨oC, wC, atC, zC, dC⟩ KC
      refine store_ok (X := X.suite a ((a, oC) :: (X.pn ++ pins))) (v := .ref a) (KC.suite atC dC na LC.loc LC.fs) hN hi (.inl hln) rfl (fun t5 S5 => ?_) (.inr hln)
      refine wpAny_mono ((hsu a oC _ d (X.pn ++ pins) zC ⟨_, dC⟩).run [] t5 _ H' _ S5 (yes rfl a na)) (fun f t6 e6 => ?_) fun _ _ z => z.elim
      have plain : ∀ {σ6 : St} {H6 : Hp} {Q : Shared → Prop}, Inv (X.suite a ((a, oC) :: (X.pn ++ pins))) [] σ6 H6 t6 → (∀ t7, Inv X pins (σ6.set i none) H6 t7 → Q t7) → wpAny (model X.prog X.w) X.A (do bindName X.env n .none; unbindBehindTheSuite X.env n hpos) (fun _ t7 => Q t7) X.xe t6 :=
        fun S q => gone_ok (S.unsuite I.ok) hN hi hln q
      cases f with
      | next => exact let ⟨σ6, H6, S6, q6⟩ := e6; keep_end LC atC hN hi hln S6 fun t7 K7 => ⟨_, _, K7, q6⟩
      | brk => exact let ⟨σ6, H6, S6, q6⟩ := e6; plain S6 fun t7 K7 => ⟨_, _, K7, q6⟩
      | cont => exact let ⟨σ6, H6, S6, q6⟩ := e6; plain S6 fun t7 K7 => ⟨_, _, K7, q6⟩
      | ret u => exact let ⟨v6, σ6, H6, S6, r6, q6⟩ := e6; plain S6 fun t7 K7 => ⟨_, _, _, K7, r6, q6⟩
    | false, _, no =>
      show wpAny _ X.A (handleBy (.ref a) X.env []) _ _ _
      refine wpAny_handleBy_nil ?_
      obtain ⟨oe, vs, tb1, _, _, e1, _, e2, e3, _⟩ := flA.2.2.2
      unfold PySem.passOn
      refine wpAny_bind (wpAny_field e1 e2 e3 ?_)
      rw [if_neg (by simp)]
      have fly : wpAny (model X.prog X.w) X.A (setFlight (.ref a) X.env.frame) (fun _ t4 => wpAny (model X.prog X.w) X.A (throw (.ref a) : Sem Flow) (SP X pins D) X.xe t4) X.xe { s' with heap := hA } := by
        rw [hf]
        exact HandSPX.setFlight_upZ flA fun hD held upD => wpAny_throw (tk _ _ ⟨a, B, sI, pins, σ', H', .ref C, d, rfl, J, nb, (up.trans upA).trans upD, .inr (.inr (by rw [hs]; exact held)), na, os, ag, no rfl⟩)
      first | exact wpAny_bind (wpAny_pure (wpAny_bind fly)) | exact wpAny_bind fly
end
end L2


/-! raise C(..) where C's own __init__ writes no attribute -/
namespace L2
open PySem PySem.Spec PyProof.Rows
section
variable {X : Cx} {o e : Expr} {es : List Expr} {to te : TE} {ta : TA} {f : Str} {p p' p1 p2 pos : Pos}
/-- C(e, ..), C's own __init__ keeping sp; no attribute is written -/
def tMkO0 (C : Addr) (sp : Sp) (dvs : List V) (ta : TA) : St → Hp → XK → Prop := fun σ H Q => ta σ H fun vs H1 => vs.length ≤ 1000 ∧ ∀ a, H1 a = none → sp (.ref a :: (vs ++ dvs)) (upd H1 a (exo a C none))
  (fun v H2 => v = .non ∧ H2 a = some (exo a C none) ∧ Q (.ref C) none (del H2 a)) (fun _ _ _ => False)
/-- the new exception is let go -/
theorem mk_gone {pins : List (Addr × Obj)} {σ : St} {H1 H2 : Hp} {hp hp2 h2 : Heap} {g1 g2 : Array GenState} {d1 d2 : Drawn} {t1 t2 : Nat} {os1 os2 : OsState} {a C : Addr} (I1 : Inv X pins σ H1 ⟨hp, g1, d1, t1, os1⟩) (young : hp.objs.size ≤ a)
    (k : ∀ b o, hp.get? b = some o → hp2.get? b = some o) (un : Un (frs X.stack) [] (upd H1 a (exo a C none)) H2 hp2 h2) (hok : HOk X.prog X.w H2 h2) (ho : os2 = os1) (hb : AllBare g2) (ea : H2 a = some (exo a C none)) :
    ∃ (t0 : Addr) (G : Heap), Inv X pins σ (del H2 a) ⟨G, g2, d2, t2, os2⟩ ∧ (∀ b o, G.get? b = some o → h2.get? b = some o) ∧ G.get? a = none ∧ h2.get? a = some ({ cls := .ref C, dict := none, data := .fields #[.ref t0, .none, .none, .none, .bool false, .none] } : Obj) ∧ del H2 a a = none := by
  obtain ⟨t0, at2⟩ := exo_at hok ea
  have n1 : H1 a = none := I1.hok.fresh young
  obtain ⟨G, in_, out⟩ := restrict h2 fun b => decide (b ≠ a)
  have other : ∀ b, b ≠ a → G.get? b = h2.get? b := fun b nb => in_ b (decide_eq_true nb)
  have gone : G.get? a = none := out a (by simp)
  have old : ∀ {b : Addr} {o : Obj}, hp.get? b = some o → b ≠ a := fun z => Nat.ne_of_lt (Nat.lt_of_lt_of_le (Heap.lt_size z) young)
  have low : ∀ {b : Addr}, b ≠ a → H1 b = none → upd H1 a (exo a C none) b = none := fun nb n => (upd_ne nb).trans n
  have high : ∀ {b : Addr} {u : HO}, H1 b = some u → upd H1 a (exo a C none) b = some u ∧ b ≠ a := fun z => ⟨(upd_ne (ne_of_none z n1)).trans z, ne_of_none z n1⟩
  have U : Un (frs X.stack) [] H1 (del H2 a) hp G := by
    refine ⟨fun b o z n hf hx => (other b (old z)).trans (un.keep b o (k b o z) (low (old z) n) hf hx), fun b o z n hf hx => ?_, fun b o z n hx => (del_ne (old z)).trans (un.free b o (k b o z) (low (old z) n) hx), fun b o z hx => ?_, fun b xs z => (del_ne (high z).2).trans (un.tups b xs (high z).1),
      fun b o v z => (del_ne (high z).2).trans (un.frzs b o v (high z).1), fun b ps z => ?_⟩
    · obtain ⟨sl, q⟩ := un.slot b o (k b o z) (low (old z) n) hf hx
      exact ⟨sl, (other b (old z)).trans q⟩
    · obtain ⟨o', q⟩ := un.there b o (k b o z) hx
      exact ⟨o', (other b (old z)).trans q⟩
    · obtain ⟨m, q⟩ := un.tbls b ps (high z).1
      exact ⟨m, (del_ne (high z).2).trans q⟩
  have held : HOk X.prog X.w (del H2 a) G := fun b o z => by
    have nb : b ≠ a := fun e => by
      rw [e, del_same] at z
      cases z
    rw [del_ne nb] at z
    refine (hok b o z).stay (fun c v hc y => ?_) (fun c hc => (del_ne (at_ne ea hc exo_own)).trans hc) fun c xs hc => (del_ne (at_ne ea hc exo_tup)).trans hc
    refine (other c ?_).trans y
    rcases hc with rfl | hc
    · exact nb
    · exact at_ne ea hc exo_own
  refine ⟨t0, G, I1.call' (ch := []) ho U held hb (fun b z => absurd z (by simp)), fun b o z => ?_, gone, at2, del_same⟩
  by_cases nb : b = a
  · rw [nb, gone] at z
    cases z
  · exact (other b nb).symm.trans z
variable {CX : CXT} {x : Str} {C fI : Addr} {k : Nat} {fd : FuncData} {ps : List Str} {sp : Sp} {ds : List Value} {dvs : List V}
theorem run_mk0 {pins : List (Addr × Obj)} {σ : St} {H1 : Hp} {s : Shared} {Q : XK} {us : List Value} {vs : List V} (T : OexC X.K C) (iC : PySem.W.findIn X.K (.ref C) "__init__" = some (some (.ref fI))) (tI : PySem.W.typeIn X.K (.ref fI) = some (.type "function"))
    (F1 : FnOk X.prog X.w X.K X.mg X.base CX k fI fd ps sp) (hr : Room (k + 1) X.A) (hb : Binds X.K fd ps ds) (hd : Vals dvs ds) (hx : Passes CX X (fun _ _ _ => False)) (I1 : Inv X pins σ H1 s) (r1 : Vals vs us) (hz : vs.length ≤ 1000)
    (q1 : ∀ a, H1 a = none → sp (.ref a :: (vs ++ dvs)) (upd H1 a (exo a C none)) (fun v H2 => v = .non ∧ H2 a = some (exo a C none) ∧ Q (.ref C) none (del H2 a)) (fun _ _ _ => False)) :
    wpAny (model X.prog X.w) X.A (call (.ref C) us) (MkP X pins σ Q) X.xe s := by
  obtain ⟨_, _, _, _, bm, _, _, _, _, _, _, _, _, _, _, oC, tail⟩ := T.cls
  obtain ⟨hp, gn, dr, tk, os⟩ := s
  obtain ⟨new, J⟩ := Inv.xnew C us I1
  have want := q1 _ new
  have rel : Vals (V.ref (hp.objs.size + 1) :: (vs ++ dvs)) (Value.ref (hp.objs.size + 1) :: (us ++ ds)) := .cons rfl (r1.append hd)
  have len : (Value.ref (hp.objs.size + 1) :: us ++ ds).length = ps.length := rel.length.symm.trans (F1.len _ _ _ _ want)
  have few : us.length ≤ sizeLine := by
    have := r1.length
    rw [sizeLine_eq]; omega
  have go := F1.run _ X.stack _ _ ⟨Value.ref (hp.objs.size + 1) :: us, []⟩ (Value.ref (hp.objs.size + 1) :: (us ++ ds)) _ _ (fun _ _ _ => False) (hr.make C us []) (J.env0.make C us []) (hb _ (Value.ref (hp.objs.size + 1) :: us) J.kIn len) rel want
  refine wpAny_call (PySem.HandSPX.call_own F.excBase_ValueError (fun Y => PySem.HandSPX.refsVE_contains Y bm tail) (I1.kIn _ _ oC) (PySem.W.looks_findIn I1.kIn iC) (fun me => PySem.W.bind_fn I1.kIn me tI) few (codeAny_mono go fun r z q => ?_))
  match r, q with
  | .error er, q => exact hx pins σ _ _ er z J q
  | .ok (.ret u), q =>
    obtain ⟨v, H2, os2, bare2, un2, hok2, rv, ev, ea, q2⟩ := q
    subst ev
    obtain ⟨h2, g2, d2, t2, os'⟩ := z
    have up : ∀ b o, hp.get? b = some o → (FX.withX hp C us).get? b = some o := fun b o e => Heap.get?_push_of_some _ (Heap.get?_push_of_some _ e)
    obtain ⟨t0, G, JG, kG, gG, oG, nG⟩ := mk_gone (d2 := d2) (t2 := t2) I1 (Nat.le_succ _) up un2 hok2 os2 bare2 ea
    exact ⟨rv, _, _, _, ⟨G, g2, d2, t2, os'⟩, _, .ref C, none, rfl, JG, kG, gG, oG, ⟨rfl, rfl⟩, rfl, rfl, nG, rfl, bare2, raises_own T.exC T.tyC, q2⟩
  | .ok .next, q => exact q.elim
  | .ok .brk, q => exact q.elim
  | .ok .cont, q => exact q.elim
/-- C() -/
theorem pmk_none (T : OexC X.K C) (iC : PySem.W.findIn X.K (.ref C) "__init__" = some (some (.ref fI))) (tI : PySem.W.typeIn X.K (.ref fI) = some (.type "function"))
    (F1 : FnOk X.prog X.w X.K X.mg X.base CX k fI fd ps sp) (hr : Room (k + 1) X.A) (hb : Binds X.K fd ps ds) (hd : Vals dvs ds) (hx : Passes CX X (fun _ _ _ => False)) (hg : Gl X x) (hm : X.mg x = some (.ref C)) (hdb : (x == ("__debug__" : Str)) = false := by decide) :
    PMk X (.Call (.Name x p) [] [] pos) (tMkO0 C sp dvs tNil) := by
  intro pins s σ H Q I h
  refine wpAny_Call_Name_kw (ld_glob I hg hm ?_ hdb)
  exact PySem.W.callWith_K0 I.kIn T.kC (run_mk0 (us := []) T iC tI F1 hr hb hd hx I .nil h.1 h.2)
end
end L2


/-! sorted(a dict of texts, key=a lambda of one parameter that gives (int, text)) -/
namespace SrtKy
open PySem PyProof.Rows Srt SrtO
/-- a tuple of a number and a text -/
def IsIS (h : Heap) (v : Value) (x : Int) (z : Str) : Prop := ∃ a o t u n, v = .ref a ∧ h.get? a = some o ∧ o.cls = .type "tuple" ∧ o.data = .seq #[.int x t, .str z u] n
theorem IsIS.keeps {h h' : Heap} {v : Value} {x : Int} {z : Str} (p : IsIS h v x z) (k : ∀ b o, h.get? b = some o → o.cls = .type "tuple" → h'.get? b = some o) : IsIS h' v x z := by
  obtain ⟨a, o, t, u, n, e, ho, hc, hd⟩ := p
  exact ⟨a, o, t, u, n, e, k _ _ ho hc, hc, hd⟩
def isLt (p q : Int × Str) : Bool := if p.1 = q.1 then decide (p.2.cps.toList < q.2.cps.toList) else decide (p.1 < q.1)
section
variable {prog : Program} {w : World} {s : Shared} {A : Around} {E : Value → Shared → Prop}
end
end SrtKy


namespace L2
open PySem PySem.Spec PyProof.Rows
section
variable {X : Cx} {pins : List (Addr × Obj)} {σ : St} {H : Hp} {s : Shared} {h' : Heap}
end
/-- what the keys of the first items are -/
def KysAt (H : Hp) (key : V → Int × Str) (xs : List V) (kA : List Value) : Prop := ∀ (j : Nat) (kv : Value), kA[j]? = some kv → ∃ (t : Addr) (x : V), kv = Value.ref t ∧ xs[j]? = some x ∧ H t = some (.tup [.int (key x).1, .str (key x).2])
theorem KysAt.up {H H' : Hp} {key : V → Int × Str} {xs : List V} {kA : List Value} (h : KysAt H key xs kA) (t : ∀ b ys, H b = some (.tup ys) → H' b = some (.tup ys)) : KysAt H' key xs kA := fun j kv e => by
  obtain ⟨a, x, e1, e2, e3⟩ := h j kv e
  exact ⟨a, x, e1, e2, t _ _ e3⟩
/-- the key that stands at an address -/
def keyOfL (H : Hp) : Value → Int × Str
  | .ref t => match H t with
    | some (.tup [.int n, .str z]) => (n, z)
    | _ => (0, "")
  | _ => (0, "")
theorem keyOfL_at {H : Hp} {t : Addr} {n : Int} {z : Str} (h : H t = some (.tup [.int n, .str z])) : keyOfL H (.ref t) = (n, z) := by
  show (match H t with
    | some (.tup [.int n, .str z]) => (n, z)
    | _ => ((0 : Int), ("" : Str))) = (n, z)
  rw [h]
theorem KysAt.is {X : Cx} {pins : List (Addr × Obj)} {σ : St} {H : Hp} {s : Shared} {key : V → Int × Str} {xs : List V} {kA : List Value} (I : Inv X pins σ H s) (h : KysAt H key xs kA) : ∀ v ∈ kA, SrtKy.IsIS s.heap v (keyOfL H v).1 (keyOfL H v).2 := fun v hv => by
  obtain ⟨j, hj⟩ := List.mem_iff_getElem?.mp hv
  obtain ⟨t, x, rfl, _, e⟩ := h j v hj
  rw [keyOfL_at e]
  obtain ⟨_, its, r, o, ho, hc, n, hd⟩ := I.hok _ _ e
  obtain ⟨u1, u2, rfl, ri, rj⟩ := vals2 r
  obtain ⟨t1, rfl⟩ := ri
  obtain ⟨t2, rfl⟩ := rj
  exact ⟨t, o, t1, t2, n, rfl, ho, hc, hd⟩
section
variable {X : Cx} {pins : List (Addr × Obj)} {σ : St} {H : Hp} {s : Shared}
end
end L2


namespace L2
open PySem PySem.Spec PyProof.Rows LamX NdefX
/-- all that was told stays -/
def HKeep (H H' : Hp) : Prop := ∀ b o, H b = some o → H' b = some o
/-- the lambda as a function of the layer (its body is an expression: none of the statements' field is read) -/
def lamF (X : Cx) (params : Arguments) (scope : Scope) (c' : Addr) : NF := ⟨"<lambda>", X.env.qual ++ "<lambda>", params, [], scope, cloFrom X.env.cells scope.names [], c'⟩
/-- sorted(e, key=lambda ..): js: where the captured names stand among ours -/
def tSortLam (T : List (Addr × Str)) (q : Str) (N : List Str) (js : List Nat) (ta : TA) (tb : TE) : TE := fun σ H Q => ta σ H fun vs H1 => ∃ x : V, vs = [x] ∧ Tabs T H1 ∧ ∀ (c' : Addr) (H2 : Hp), ExtN H1 H2 → Tabs T H2 → H2 c' = some (CodeO c' q) →
  ∃ (a : Addr) (kvs : List (Key × V)) (ks : List Str) (key : Str → Int × Str), x = .ref a ∧ Rd H2 a (.dK kvs) ∧ kvs.map (·.1) = ks.map Sum.inr ∧ ks.length ≤ sizeLine ∧
    (∀ k ∈ ks, ∀ H, HKeep H2 H → tb (startF N [.str k] (js.map (NdefX.slotAt σ))) H fun v H3 => HKeep H H3 ∧ ∃ t, v = .ref t ∧ H3 t = some (.tup [.int (key k).1, .str (key k).2])) ∧
    ∀ (ys : List Str) (H3 : Hp) (p : Addr), ys.Perm ks → ys.Pairwise (fun x y => SrtKy.isLt (key y) (key x) = false) → HKeep H2 H3 → H3 p = none → Q (.ref p) (upd H3 p (.lst (ys.map V.str)))
section
variable {X : Cx}
end
end L2


/-! heaps, lists, texts: what all the laws' proofs share. -/
namespace FT
open PySem L2 TL
abbrev Same (H H' : Hp) : Prop := ∀ b o, H b = some o → H' b = some o
theorem Same.refl {H : Hp} : Same H H := fun _ _ e => e
theorem Same.trans {H H1 H2 : Hp} (a : Same H H1) (b : Same H1 H2) : Same H H2 := fun x o e => b x o (a x o e)
theorem Same.free {H H' : Hp} {p : Addr} (s : Same H H') (n : H' p = none) : H p = none := by
  cases e : H p with
  | none => rfl
  | some o =>
    rw [s p o e] at n
    cases n
theorem Same.sql {K : PySem.W.Frag} {H H' : Hp} {a : Addr} {xs : List V} (e : Same H H') (h : SqL K H a xs) : SqL K H' a xs := by
  rcases h with (h | ⟨o, h⟩) | h
  · exact .inl (.inl (e _ _ h))
  · exact .inl (.inr ⟨o, e _ _ h⟩)
  · exact .inr h
theorem Same.sqt {K : PySem.W.Frag} {H H' : Hp} {a : Addr} {xs : List V} (e : Same H H') (h : SqT K H a xs) : SqT K H' a xs := by
  rcases h with (h | ⟨o, h⟩) | h
  · exact .inl (.inl (e _ _ h))
  · exact .inl (.inr ⟨o, e _ _ h⟩)
  · exact .inr h
theorem same_new {H : Hp} {p : Addr} {o : HO} (n : H p = none) : Same H (upd H p o) := fun b u e => by
  rw [upd_ne (ne_of_none e n)]
  exact e
theorem Same.put {H H' : Hp} {p : Addr} {o : HO} (s : Same H H') (n : H p = none) : Same H (upd H' p o) := fun b u e => by
  rw [upd_ne (ne_of_none e n)]
  exact s b u e
/-- what the text finds among the module's names -/
structure Nm (mg : Str → Option Value) : Prop where
  abs : mg "abs" = none
  len : mg "len" = none
  rng : mg "range" = none
  enu : mg "enumerate" = none
  zip : mg "zip" = none
  isi : mg "isinstance" = none
  all : mg "all" = none
  srt : mg "sorted" = none
  lst : mg "list" = none
  dct : mg "dict" = none
  str : mg "str" = none
  int : mg "int" = none
  tup : mg "tuple" = none
  sum : mg "sum" = none
  min : mg "min" = none
  max : mg "max" = none
  rep : mg "repr" = none
  bool : mg "bool" = none
  any : mg "any" = none
  vE : mg "ValueError" = none
theorem take_more {α : Type} {l : List α} {i : Nat} {x : α} (h : l[i]? = some x) : l.take (i + 1) = l.take i ++ [x] := by
  rw [List.take_succ, h] <;> rfl
theorem cut_ints (ns : List Int) (lo hi : Option Int) : ∃ ms : List Int, cutV (ns.map V.int) lo hi = ms.map V.int ∧ ms.length ≤ ns.length := by
  unfold cutV
  generalize HT.sIx (ns.map V.int).length 0 lo = i
  generalize HT.sIx (ns.map V.int).length (ns.map V.int).length hi = j
  refine ⟨(ns.drop i).take (j - i), by rw [List.map_take, List.map_drop], ?_⟩
  rw [List.length_take, List.length_drop]
  omega
theorem cut_take {xs : List V} {j : Nat} (h : j ≤ xs.length) : cutV xs none (some (j : Int)) = xs.take j := by
  have e : HT.sIx xs.length xs.length (some (j : Int)) = min j xs.length := HT.sIx_nat _ _ j
  show (xs.drop 0).take (HT.sIx xs.length xs.length (some (j : Int)) - 0) = xs.take j
  rw [e, List.drop_zero, Nat.sub_zero, Nat.min_eq_left h]
theorem map_of {α : Type} {f : α → V} {l : List α} {j : Nat} {x : V} (h : (l.map f)[j]? = some x) : ∃ z, l[j]? = some z ∧ x = f z := by
  rw [List.getElem?_map] at h
  obtain ⟨z, hz, rfl⟩ := Option.map_eq_some_iff.mp h
  exact ⟨z, hz, rfl⟩
theorem ixN_nat {n j : Nat} (h : j < n) : ixN n (j : Int) = some j := by
  unfold ixN
  rw [if_pos (by omega), if_pos (by omega)]
  simp
theorem map_erase {α β : Type} (f : α → β) : ∀ (l : List α) (i : Nat), (l.map f).eraseIdx i = (l.eraseIdx i).map f
  | [], _ => rfl
  | _ :: _, 0 => rfl
  | a :: l, i + 1 => congrArg (List.cons (f a)) (map_erase f l i)
theorem erase_perm {α : Type} : ∀ (l : List α) (i : Nat) (h : i < l.length), (l[i] :: l.eraseIdx i).Perm l
  | [], _, h => absurd h (Nat.not_lt_zero _)
  | _ :: _, 0, _ => .refl _
  | a :: l, i + 1, h => (List.Perm.swap a _ _).trans ((erase_perm l i (Nat.lt_of_succ_lt_succ h)).cons a)
/-- how many items stand there -/
def many (H : Hp) (a : Addr) : Nat := match H a with
  | some (.lst xs) => xs.length
  | _ => 0
theorem inV_strs (x : Str) : ∀ fs : List Str, inV (.str x) (fs.map V.str) = decide (x ∈ fs)
  | [] => rfl
  | y :: fs => by
    show (eqV (.str y) (.str x) || inV (.str x) (fs.map V.str)) = _
    rw [inV_strs x fs]
    have e : eqV (.str y) (.str x) = decide (x = y) := by
      show (y == x) = decide (x = y)
      rw [Bool.eq_iff_iff, beq_iff_eq, decide_eq_true_eq]
      exact eq_comm
    rw [e, Bool.eq_iff_iff]
    simp only [Bool.or_eq_true, decide_eq_true_eq, List.mem_cons]
theorem flat_strs : ∀ fs : List Str, (fs.map V.str).all flatV = true
  | [] => rfl
  | _ :: fs => flat_strs fs
/-! ### texts -/
/-- a name: letters, one to eight, not self -/
def NameL (z : Str) : Prop := (∀ c ∈ tl z, 97 ≤ c ∧ c ≤ 122) ∧ 1 ≤ (tl z).length ∧ (tl z).length ≤ 8 ∧ z ≠ "self"
instance (z : Str) : Decidable (NameL z) := by unfold NameL; infer_instance
theorem NameL.len {z : Str} (h : NameL z) : 1 ≤ z.length ∧ z.length ≤ 8 := by
  rw [len_tl]
  exact ⟨h.2.1, h.2.2.1⟩
theorem NameL.self {z : Str} (h : NameL z) : z ≠ "self" := h.2.2.2
theorem NameL.ne {z : Str} (h : NameL z) : z ≠ "" := fun e => by
  subst e
  have := h.2.1
  revert this
  decide +kernel
theorem strOk_name {z : Str} (h : NameL z) : PyData.strOk z = true := by
  unfold PyData.strOk
  simp only [Bool.and_eq_true, decide_eq_true_eq, Array.all_eq_true_iff_forall_mem]
  intro c hc
  have := h.1 c (Array.mem_toList_iff.mpr hc)
  omega
/-! ### order -/
theorem rising_all : ∀ (l : List Str) (p : Str), PyProof.Rows.risingS p l = true → (∀ y ∈ l, tl p ≤ tl y) ∧ l.Pairwise (fun a b => tl a ≤ tl b)
  | [], p, _ => ⟨fun y h => (by cases h), List.Pairwise.nil⟩
  | x :: r, p, h => by
    have h' : (!PySem.Spec.ltCps x.cps.toList p.cps.toList && PyProof.Rows.risingS x r) = true := h
    rw [Bool.and_eq_true, PyProof.Rows.ltCps_eq] at h'
    obtain ⟨h1, h2⟩ := h'
    have px : tl p ≤ tl x := by
      show ¬ (tl x < tl p)
      intro z
      rw [decide_eq_true z] at h1
      cases h1
    obtain ⟨i1, i2⟩ := rising_all r x h2
    refine ⟨fun y hy => ?_, List.pairwise_cons.mpr ⟨i1, i2⟩⟩
    rcases List.mem_cons.mp hy with rfl | hy
    · exact px
    · exact List.le_trans px (i1 y hy)
theorem sorted_pw {l : List Str} (h : PyProof.Rows.sortedS l = true) : l.Pairwise (fun a b => tl a ≤ tl b) := by
  cases l with
  | nil => exact .nil
  | cons x r =>
    obtain ⟨i1, i2⟩ := rising_all r x h
    exact List.pairwise_cons.mpr ⟨i1, i2⟩
/-- one order of the same texts -/
theorem sorted_one {l m : List Str} (p : l.Perm m) (hl : PyProof.Rows.sortedS l = true) (hm : PyProof.Rows.sortedS m = true) : l = m :=
  List.Perm.eq_of_pairwise (le := fun a b => tl a ≤ tl b) (fun a b _ _ h1 h2 => ext_tl (List.le_antisymm h1 h2)) (sorted_pw hl) (sorted_pw hm) p
/-! ### comprehensions of dicts, locks -/
/-- a dict comprehension over a walk: Pv by the turn and the heap (the new dict at D within) -/
theorem dc_it {J : It} {n : Nat} {G : Hp → Prop} {Y : Nat → Hp → V → Hp → Prop} (w : Walk J n G Y) {g : TG} {tt : TT} {tk tv : TE} {vs : List Nat} {σ : St} {H1 : Hp} {D : Addr} {Qd : Hp → Prop} (Pv : Nat → Hp → Prop) (h0 : Pv 0 (upd H1 D (.dK []))) (hG : ∀ i H, i ≤ n → Pv i H → G H)
    (hs : ∀ i x H H', i < n → Pv i H → Y i H x H' → g x (wipe σ vs) H' fun σ2 H2 => wipe σ2 vs = wipe σ vs ∧ tt σ2 H2 fun b H3 =>
      if b = true then tk σ2 H3 fun y H4 => tv σ2 H4 fun z H5 => ∃ kvs k, y = kV k ∧ H5 D = some (.dK kvs) ∧ kvs.length < sizeLine ∧ Pv (i + 1) (upd H5 D (.dK (putK kvs k z))) else Pv (i + 1) H3) (hd : ∀ H, Pv n H → Qd H) :
    ∃ W : Nat → Nat → Hp → Prop, (∃ m, W 0 m (upd H1 D (.dK []))) ∧ ∀ i m H, W i m H →
      (J.stop i H ∧ Qd H) ∨ (J.go i H ∧ ∃ Nx : Hp → Prop, (∀ H', Nx H' → ∃ m', m' < m ∧ W (i + 1) m' H') ∧ ∀ x H', J.yld i H x H' → g x (wipe σ vs) H' fun σ2 H2 => wipe σ2 vs = wipe σ vs ∧ tt σ2 H2 fun b H3 =>
        if b = true then tk σ2 H3 fun y H4 => tv σ2 H4 fun z H5 => ∃ kvs k, y = kV k ∧ H5 D = some (.dK kvs) ∧ kvs.length < sizeLine ∧ Nx (upd H5 D (.dK (putK kvs k z))) else Nx H3) := by
  refine ⟨fun i m H => m = n - i ∧ i ≤ n ∧ Pv i H, ⟨n, by simp, Nat.zero_le _, h0⟩, fun i m H ⟨em, hi, p⟩ => ?_⟩
  have gh := hG i H hi p
  rcases Nat.lt_or_ge i n with lt | ge
  · exact .inr ⟨w.goes i H lt gh, Pv (i + 1), fun H' p' => ⟨n - (i + 1), by omega, rfl, lt, p'⟩, fun x H' y => hs i x H H' lt p (w.yields i H x H' lt gh y)⟩
  · have ei : i = n := by omega
    subst ei
    exact .inl ⟨w.stops H gh, hd H p⟩
theorem unlock_same {H H' : Hp} {q : Addr} {u : HO} {o : Obj} (e : H q = some u) (s : Same (upd H q (.frz o u)) H') : Same H (upd H' q u) := fun b x h => by
  by_cases z : b = q
  · subst z
    rw [upd_same]
    exact e.symm.trans h |>.symm ▸ rfl
  · rw [upd_ne z]
    exact s b x (by rw [upd_ne z]; exact h)
/-! ### dicts with text keys, by any values -/
/-- a dict of values by texts -/
def kvT (t : List (Str × V)) : List (Key × V) := t.map fun p => (Sum.inr p.1, p.2)
theorem kvT_len (t : List (Str × V)) : (kvT t).length = t.length := by unfold kvT; rw [List.length_map]
theorem kvT_app (t : List (Str × V)) (f : Str) (z : V) : kvT t ++ [(Sum.inr f, z)] = kvT (t ++ [(f, z)]) := by
  unfold kvT
  rw [List.map_append] <;> rfl
theorem kvT_any (t : List (Str × V)) (f : Str) : ((kvT t).any fun kv => decide (kv.1 = Sum.inr f)) = decide (f ∈ t.map Prod.fst) := by
  induction t with
  | nil => rfl
  | cons p t ih =>
    show (decide ((Sum.inr p.1 : Key) = Sum.inr f) || ((kvT t).any fun kv => decide (kv.1 = Sum.inr f))) = _
    rw [ih, Bool.eq_iff_iff]
    simp only [Bool.or_eq_true, decide_eq_true_eq, List.map_cons, List.mem_cons]
    constructor
    · rintro (h | h)
      · exact .inl (Sum.inr.inj h).symm
      · exact .inr h
    · rintro (h | h)
      · exact .inl (by rw [h])
      · exact .inr h
theorem kvT_put {t : List (Str × V)} {f : Str} {z : V} (n : f ∉ t.map Prod.fst) : putK (kvT t) (Sum.inr f) z = kvT (t ++ [(f, z)]) := by
  unfold putK
  rw [kvT_any, decide_eq_false n, if_neg (by decide), kvT_app]
/-- the value of a key -/
def look (t : List (Str × V)) (f : Str) : Option V := (t.find? fun p => decide (p.1 = f)).map Prod.snd
theorem look_cons (p : Str × V) (t : List (Str × V)) (f : Str) : look (p :: t) f = if p.1 = f then some p.2 else look t f := by
  unfold look
  rw [List.find?_cons]
  by_cases e : p.1 = f
  · rw [if_pos e, decide_eq_true e] <;> rfl
  · rw [if_neg e, decide_eq_false e]
theorem kvT_val : ∀ (t : List (Str × V)) (f : Str), valV (kvT t) (Sum.inr f) = look t f
  | [], f => rfl
  | p :: t, f => by
    rw [look_cons]
    by_cases e : p.1 = f
    · rw [if_pos e]
      exact valV_pos (by show (Sum.inr p.1 : Key) = Sum.inr f; rw [e])
    · rw [if_neg e]
      exact (valV_neg (p := (Sum.inr p.1, p.2)) (fun z => e (Sum.inr.inj z))).trans (kvT_val t f)
/-- a key's value, written anew -/
def putT (t : List (Str × V)) (f : Str) (z : V) : List (Str × V) := if f ∈ t.map Prod.fst then t.map fun p => if p.1 = f then (p.1, z) else p else t ++ [(f, z)]
theorem kvT_putT (t : List (Str × V)) (f : Str) (z : V) : putK (kvT t) (Sum.inr f) z = kvT (putT t f z) := by
  by_cases h : f ∈ t.map Prod.fst
  · unfold putK putT
    rw [kvT_any, decide_eq_true h, if_pos rfl, if_pos h]
    unfold kvT
    rw [List.map_map, List.map_map]
    refine List.map_congr_left fun p _ => ?_
    show (if (Sum.inr p.1 : Key) = Sum.inr f then ((Sum.inr p.1 : Key), z) else (Sum.inr p.1, p.2)) = (Sum.inr (if p.1 = f then (p.1, z) else p).1, (if p.1 = f then (p.1, z) else p).2)
    by_cases e : p.1 = f
    · rw [if_pos e, if_pos (by rw [e])]
    · rw [if_neg e, if_neg fun q => e (Sum.inr.inj q)]
  · rw [kvT_put h]
    unfold putT
    rw [if_neg h]
end FT


/-! forests as pairs of a flag and its parent, in any order. -/
namespace FT
open PySem L2 TL
/-- a dict of texts by texts -/
def prs (t : List (Str × Str)) : List (Key × V) := kvT (t.map fun p => (p.1, V.str p.2))
theorem prs_len (t : List (Str × Str)) : (prs t).length = t.length := by unfold prs; rw [kvT_len, List.length_map]
theorem prs_fst (t : List (Str × Str)) : (t.map fun p => (p.1, V.str p.2)).map Prod.fst = t.map Prod.fst := by rw [List.map_map] <;> rfl
theorem prs_keys (t : List (Str × Str)) : (prs t).map (·.1) = (t.map Prod.fst).map Sum.inr := by unfold prs kvT; rw [List.map_map, List.map_map, List.map_map] <;> rfl
theorem keys_prs (t : List (Str × Str)) : ((prs t).map fun kv => kV kv.1) = (t.map Prod.fst).map V.str := by
  unfold prs kvT
  rw [List.map_map, List.map_map, List.map_map] <;> rfl
theorem put_new {t : List (Str × Str)} {f z : Str} (n : f ∉ t.map Prod.fst) : putK (prs t) (Sum.inr f) (V.str z) = prs (t ++ [(f, z)]) := by
  unfold prs
  rw [kvT_put (by rw [prs_fst]; exact n), List.map_append] <;> rfl
/-- the parent of a flag -/
def par (t : List (Str × Str)) (a : Str) : Option Str := (t.find? fun p => decide (p.1 = a)).map Prod.snd
theorem par_cons (p : Str × Str) (t : List (Str × Str)) (a : Str) : par (p :: t) a = if p.1 = a then some p.2 else par t a := by
  unfold par
  rw [List.find?_cons]
  by_cases e : p.1 = a
  · rw [if_pos e, decide_eq_true e] <;> rfl
  · rw [if_neg e, decide_eq_false e]
theorem val_prs (a : Str) : ∀ t : List (Str × Str), valV (prs t) (Sum.inr a) = (par t a).map V.str
  | [] => rfl
  | p :: t => by
    have ih := val_prs a t
    unfold prs at ih ⊢
    rw [List.map_cons, kvT_val, look_cons, par_cons]
    rw [kvT_val] at ih
    by_cases e : p.1 = a
    · rw [if_pos e, if_pos e] <;> rfl
    · rw [if_neg e, if_neg e, ih]
theorem par_mem {t : List (Str × Str)} {a z : Str} (h : par t a = some z) : (a, z) ∈ t := by
  induction t with
  | nil => cases h
  | cons p t ih =>
    rw [par_cons] at h
    by_cases e : p.1 = a
    · rw [if_pos e] at h
      cases h
      exact List.mem_cons.mpr (.inl (by rw [← e]))
    · rw [if_neg e] at h
      exact List.mem_cons_of_mem _ (ih h)
theorem par_of {t : List (Str × Str)} {a z : Str} (nd : (t.map Prod.fst).Nodup) (h : (a, z) ∈ t) : par t a = some z := by
  induction t with
  | nil => cases h
  | cons p t ih =>
    obtain ⟨n1, n2⟩ := List.nodup_cons.mp nd
    rw [par_cons]
    rcases List.mem_cons.mp h with e | h
    · subst e
      exact if_pos rfl
    · rw [if_neg fun e => n1 (by rw [e]; exact List.mem_map.mpr ⟨_, h, rfl⟩)]
      exact ih n2 h
theorem par_none {t : List (Str × Str)} {a : Str} (n : a ∉ t.map Prod.fst) : par t a = none := by
  cases e : par t a with
  | none => rfl
  | some z => exact absurd (List.mem_map.mpr ⟨_, par_mem e, rfl⟩) n
theorem par_some {t : List (Str × Str)} {a : Str} (nd : (t.map Prod.fst).Nodup) (h : a ∈ t.map Prod.fst) : ∃ z, par t a = some z := by
  obtain ⟨p, hp, rfl⟩ := List.mem_map.mp h
  exact ⟨p.2, par_of nd hp⟩
theorem par_perm {t u : List (Str × Str)} (nd : (t.map Prod.fst).Nodup) (p : t.Perm u) (a : Str) : par t a = par u a := by
  cases e : par t a with
  | some v => exact (par_of ((p.map _).nodup_iff.mp nd) (p.mem_iff.mp (par_mem e))).symm
  | none =>
    cases e2 : par u a with
    | none => rfl
    | some v =>
      have := par_of nd (p.mem_iff.mpr (par_mem e2))
      rw [e] at this
      cases this
/-- each parent has a lower rank -/
def Rk (t : List (Str × Str)) (rk : Str → Nat) : Prop := ∀ p ∈ t, rk p.1 < t.length ∧ (p.2 = "" ∨ (p.2 ∈ t.map Prod.fst ∧ rk p.2 < rk p.1))
/-- a forest of one to twelve flags -/
structure TreeOk (t : List (Str × Str)) : Prop where
  one : 1 ≤ t.length
  few : t.length ≤ 12
  nd : (t.map Prod.fst).Nodup
  nm : ∀ z ∈ t.map Prod.fst, NameL z
  up : ∃ rk : Str → Nat, Rk t rk
theorem TreeOk.perm {t u : List (Str × Str)} (p : t.Perm u) (o : TreeOk t) : TreeOk u := by
  obtain ⟨rk, hr⟩ := o.up
  have l := p.length_eq
  refine ⟨by have := o.one; omega, by have := o.few; omega, (p.map _).nodup_iff.mp o.nd, fun z h => o.nm z ((p.map _).mem_iff.mpr h), rk, fun q hq => ?_⟩
  obtain ⟨h1, h2⟩ := hr q (p.mem_iff.mpr hq)
  exact ⟨by omega, h2.imp id fun h => ⟨(p.map _).mem_iff.mp h.1, h.2⟩⟩
theorem TreeOk.root {t : List (Str × Str)} (o : TreeOk t) : ("" : Str) ∉ t.map Prod.fst := fun h => (o.nm _ h).ne rfl
/-- the step up -/
theorem TreeOk.step {t : List (Str × Str)} (o : TreeOk t) {rk : Str → Nat} (r : Rk t rk) {a : Str} (h : a ∈ t.map Prod.fst) : ∃ p : Str, par t a = some p ∧ (p = "" ∨ (p ∈ t.map Prod.fst ∧ rk p < rk a)) ∧ rk a < t.length := by
  obtain ⟨z, hz⟩ := par_some o.nd h
  obtain ⟨h1, h2⟩ := r _ (par_mem hz)
  exact ⟨z, hz, h2, h1⟩
/-! ### paths -/
/-- the flags from the top down to a place; n bounds the steps -/
def upN (t : List (Str × Str)) : Nat → Str → List Str
  | 0, _ => []
  | n + 1, a => if a = "" then [] else upN t n ((par t a).getD "") ++ [a]
def pathOf (t : List (Str × Str)) (a : Str) : List Str := upN t t.length a
/-- a place: the root or a flag -/
def Pl (t : List (Str × Str)) (a : Str) : Prop := a = "" ∨ a ∈ t.map Prod.fst
theorem upN_root (t : List (Str × Str)) (n : Nat) : upN t n "" = [] := by
  cases n with
  | zero => rfl
  | succ n => exact if_pos rfl
theorem upN_eq {t : List (Str × Str)} (o : TreeOk t) {rk : Str → Nat} (r : Rk t rk) : ∀ (n m : Nat) (a : Str), Pl t a → (a ≠ "" → rk a < n) → (a ≠ "" → rk a < m) → upN t n a = upN t m a := by
  intro n
  induction n with
  | zero =>
    intro m a hp h1 h2
    by_cases e : a = ""
    · subst e
      rw [upN_root, upN_root]
    · exact absurd (h1 e) (Nat.not_lt_zero _)
  | succ n ih =>
    intro m a hp h1 h2
    by_cases e : a = ""
    · subst e
      rw [upN_root, upN_root]
    · cases m with
      | zero => exact absurd (h2 e) (Nat.not_lt_zero _)
      | succ m =>
        obtain ⟨p, ep, hp2, _⟩ := o.step r (hp.resolve_left e)
        have q1 := h1 e
        have q2 := h2 e
        show (if a = "" then [] else upN t n ((par t a).getD "") ++ [a]) = if a = "" then [] else upN t m ((par t a).getD "") ++ [a]
        rw [if_neg e, if_neg e, ep]
        show upN t n p ++ [a] = upN t m p ++ [a]
        rw [ih m p (hp2.imp id And.left) (fun z => by have := (hp2.resolve_left z).2; omega) (fun z => by have := (hp2.resolve_left z).2; omega)]
theorem path_root (t : List (Str × Str)) : pathOf t "" = [] := upN_root _ _
theorem path_step {t : List (Str × Str)} (o : TreeOk t) {a p : Str} (h : a ∈ t.map Prod.fst) (e : par t a = some p) : pathOf t a = pathOf t p ++ [a] := by
  obtain ⟨rk, r⟩ := o.up
  have ne : a ≠ "" := fun z => o.root (by rw [← z]; exact h)
  obtain ⟨p', e', hp, la⟩ := o.step r h
  cases e.symm.trans e'
  have lt := o.one
  obtain ⟨n, hn⟩ : ∃ n, t.length = n + 1 := ⟨t.length - 1, by omega⟩
  unfold pathOf
  rw [hn]
  show (if a = "" then [] else upN t n ((par t a).getD "") ++ [a]) = _
  rw [if_neg ne, e]
  show upN t n p ++ [a] = _
  rw [upN_eq o r n (n + 1) p (hp.imp id And.left) (fun z => by have := (hp.resolve_left z).2; omega) (fun z => by have := (hp.resolve_left z).2; omega)]
theorem path_perm {t u : List (Str × Str)} (nd : (t.map Prod.fst).Nodup) (p : t.Perm u) (a : Str) : pathOf t a = pathOf u a := by
  unfold pathOf
  rw [p.length_eq]
  generalize u.length = n
  induction n generalizing a with
  | zero => rfl
  | succ n ih =>
    show (if a = "" then [] else upN t n ((par t a).getD "") ++ [a]) = if a = "" then [] else upN u n ((par u a).getD "") ++ [a]
    rw [ih, par_perm nd p]
theorem upN_len (t : List (Str × Str)) : ∀ (n : Nat) (a : Str), (upN t n a).length ≤ n
  | 0, _ => Nat.le_refl _
  | n + 1, a => by
    show (if a = "" then [] else upN t n ((par t a).getD "") ++ [a]).length ≤ n + 1
    by_cases e : a = ""
    · rw [if_pos e]
      exact Nat.zero_le _
    · rw [if_neg e, List.length_append]
      have := upN_len t n ((par t a).getD "")
      show _ + 1 ≤ n + 1
      omega
theorem path_len (t : List (Str × Str)) (a : Str) : (pathOf t a).length ≤ t.length := upN_len _ _ _
theorem upN_all {t : List (Str × Str)} (o : TreeOk t) : ∀ (n : Nat) (a : Str), Pl t a → ∀ z ∈ upN t n a, z ∈ t.map Prod.fst
  | 0, _, _, z, h => by cases h
  | n + 1, a, hp, z, h => by
    have h' : z ∈ (if a = "" then [] else upN t n ((par t a).getD "") ++ [a]) := h
    by_cases e : a = ""
    · rw [if_pos e] at h'
      cases h'
    · rw [if_neg e] at h'
      have ha := hp.resolve_left e
      obtain ⟨rk, r⟩ := o.up
      obtain ⟨p, ep, hp2, _⟩ := o.step r ha
      rw [ep] at h'
      rcases List.mem_append.mp h' with h' | h'
      · exact upN_all o n p (hp2.imp id And.left) z h'
      · rw [List.mem_singleton.mp h']
        exact ha
theorem path_all {t : List (Str × Str)} (o : TreeOk t) {a : Str} (h : Pl t a) : ∀ z ∈ pathOf t a, z ∈ t.map Prod.fst := upN_all o _ _ h
/-! ### sums over children -/
/-- the sum of sizes of the children of a place -/
def kids (t : List (Str × Str)) (p : Str) : List Str := (t.filter fun q => decide (q.2 = p)).map Prod.fst
def resid (t : List (Str × Str)) (n : Int) (sz : Str → Int) (p : Str) : Int := (if p = "" then n else sz p) - ((kids t p).map sz).sum
theorem kids_snoc (t : List (Str × Str)) (q : Str × Str) (p : Str) : kids (t ++ [q]) p = kids t p ++ (if q.2 = p then [q.1] else []) := by
  unfold kids
  rw [List.filter_append, List.map_append]
  by_cases e : q.2 = p
  · rw [if_pos e, List.filter_cons, decide_eq_true e, List.filter_nil] <;> rfl
  · rw [if_neg e, List.filter_cons, decide_eq_false e, List.filter_nil] <;> rfl
theorem kids_perm {t u : List (Str × Str)} (h : t.Perm u) (p : Str) : (kids t p).Perm (kids u p) := (h.filter _).map _
theorem sum_perm {l m : List Int} (h : l.Perm m) : l.sum = m.sum := by
  induction h with
  | nil => rfl
  | cons x _ ih => rw [List.sum_cons, List.sum_cons, ih]
  | swap x y l => rw [List.sum_cons, List.sum_cons, List.sum_cons, List.sum_cons]; omega
  | trans _ _ a b => rw [a, b]
theorem resid_perm {t u : List (Str × Str)} (h : t.Perm u) (n : Int) (sz : Str → Int) (p : Str) : resid t n sz p = resid u n sz p := by
  unfold resid
  rw [sum_perm ((kids_perm h p).map sz)]
theorem resid_snoc (t : List (Str × Str)) (q : Str × Str) (n : Int) (sz : Str → Int) (p : Str) : resid (t ++ [q]) n sz p = if q.2 = p then resid t n sz p - sz q.1 else resid t n sz p := by
  unfold resid
  rw [kids_snoc]
  by_cases e : q.2 = p
  · rw [if_pos e, if_pos e, List.map_append, List.sum_append]
    show _ - (_ + (sz q.1 + 0)) = _
    omega
  · rw [if_neg e, if_neg e, List.append_nil]
end FT


namespace FT
open PySem L2 TL ClX
def letters : Str := "abcdefghijklmnopqrstuvwxyz"
theorem in_letters {c : Nat} (h0 : 97 ≤ c) (h1 : c ≤ 122) : c ∈ letters.cps.toList := by
  have all : ∀ i : Fin 26, (97 + i.1) ∈ letters.cps.toList := by decide +kernel
  have q := all ⟨c - 97, by omega⟩
  rw [show 97 + (⟨c - 97, by omega⟩ : Fin 26).1 = c by show 97 + (c - 97) = c; omega] at q
  exact q
/-- the module's own constants -/
structure Cs (mg : Str → Option Value) : Prop where
  long : ∃ t, mg "LONGEST" = some (.int 8 t)
  lett : ∃ t, mg "LETTERS" = some (.str letters t)
/-- the class Forest: its two constants -/
structure Fc (K : PySem.W.Frag) (mg : Str → Option Value) (CF : Addr) (mc : Value) : Prop where
  gF : mg "Forest" = some (.ref CF)
  rd : CRead K CF mc
  most : ∃ u, CVal K CF mc "MOST" (.int 12) u
  root : ∃ u, CVal K CF mc "ROOT" (.str "") u
/-- one of the text's defs, called by place -/
structure Dn (P : Program) (w : World) (K : PySem.W.Frag) (mg : Str → Option Value) (base : Heap) (CX : CXT) (k : Nat) (x : Str) (ps : List Str) (sp : Sp) (f : Addr) (fd : FuncData) : Prop where
  ok : FnOk P w K mg base CX k f fd ps sp
  kp : PySem.W.keepIn K (.ref f) = true
  bn : Binds K fd ps []
  mgn : mg x = some (.ref f)
def spIsName : Sp := fun vs H Q _ => ∃ z : Str, vs = [.str z] ∧ NameL z ∧ ∀ H', Same H H' → Q (.bl true) H'
def spIsAnc : Sp := fun vs H Q _ => ∃ (q : Addr) (f : Str) (t : List (Str × Str)), vs = [.ref q, .str f] ∧ H q = some (.dK (prs t)) ∧ TreeOk t ∧ f ∈ t.map Prod.fst ∧ ∀ H', Same H H' → Q (.bl false) H'
def spNeed : Sp := fun vs H Q _ => ∃ (q : Addr) (t : List (Str × Str)), vs = [.ref q] ∧ H q = some (.dK (prs t)) ∧ TreeOk t ∧ ∀ H', Same H H' → Q .non H'
section
variable {P : Program} {w : World} {K : PySem.W.Frag} {mg : Str → Option Value} {base : Heap}
theorem scIsName : FnScope ["value", "letter"] ["value"] (defScope s_is_name) := ⟨rfl, rfl, rfl, by decide +kernel, rfl, by decide +kernel, by decide +kernel⟩
theorem ok_isName {f : Addr} {fd : FuncData} (F : Fun K "is_name" "is_name" s_is_name f fd) (T : Nm mg) (C : Cs mg) : FnOk P w K mg base CX0 1 f fd ["value"] spIsName := by
  obtain ⟨t1, g1⟩ := C.long
  obtain ⟨t2, g2⟩ := C.lett
  refine F.ok scIsName (fun vs H Q E h => ?_) (fun cdv A outer s H vs Q E hr h => ?_)
  · obtain ⟨z, rfl, _⟩ := h
    rfl
  · obtain ⟨z, rfl, nm, k⟩ := h
    refine ⟨_, pss_cons (ps_if (PW.pt (pw_or (pt_not (pt_val (pe_callB call_isi (by rfl) T.isi (by decide +kernel) (pa_cons (pv 0) (pa_cons (pe_bltn (v := .ty "str") (u := .type "str") (by rfl) T.str (by decide +kernel) rfl) pa_nil)))))
        (pw_or (pt_not (pt_chain op_le op_le pe_int (pe_callB call_len_str (by rfl) T.len PySem.boot_len (pa_cons (pv 0) pa_nil)) (pe_glob (v := .int 8) (by rfl) g1 ⟨_, rfl⟩))) (pw_or1 (pt_cmpR op_eq (pv 0) pe_str (nomark _))))))
        (pss_one (ps_ret pe_bl)) pss_nil)
      (pss_one (ps_ret (pe_callB (cr_all rfl) (by rfl) T.all (by decide +kernel) (pa_cons (pe_lc (own := [("letter", 1)]) (g := gName 1) (tt := tYes) (te := tOp (fun x y H Q => ∃ (c : Nat) (z : Str), x = .str ⟨#[c]⟩ ∧ y = .str z ∧ Q (.bl (decide (c ∈ z.cps.toList))) H) (tVar 1) (tC (.str letters))) rfl scIsName.nd (pi_str (pv 0))
        (blkOk_by (N := ["value", "letter"]) (sc := defScope s_is_name) (by decide +kernel))
        (fun _ _ _ _ _ => pg_name (i := 1) scIsName.nd rfl (Or.inl rfl)) (fun _ _ _ _ _ => pts_nil) (fun _ _ _ _ _ => pe_cmpR op_in_sign (pv 1) (pe_glob (v := .str letters) (by rfl) g2 ⟨_, rfl⟩) rfl)) pa_nil)))), ?_⟩
    have l := nm.len
    have big : 1000 ≤ sizeLine := by decide
    refine ⟨_, rfl, .str z, _, _, _, true, rfl, .ty _, .base (.str z), kit_ty (by decide +kernel), true, rfl, ?_⟩
    refine iteF ?_
    refine ⟨_, rfl, z, rfl, by omega, _, _, rfl, rfl, _, rfl, ?_⟩
    rw [if_pos (decide_eq_true (by omega))]
    refine ⟨_, _, rfl, rfl, _, rfl, ?_⟩
    rw [decide_eq_true (show (z.length : Int) ≤ 8 by omega)]
    refine iteF ?_
    refine ⟨_, rfl, rfl, _, rfl, ?_⟩
    rw [decide_eq_false (show ¬ V.str z = V.str "self" from fun e => nm.self (V.str.inj e))]
    refine iteF ?_
    refine ⟨_, rfl, z, rfl, fun D nD => lc_it walk_str (fun i H' => Same H H' ∧ H' D = some (.lst ((List.replicate i true).map V.bl))) ⟨same_new nD, upd_same⟩ (fun _ _ _ _ => trivial) ?_ ?_⟩
    · intro i x Ha Hb hi ⟨q1, q2⟩ ⟨e, ch, hc, ex⟩
      subst e
      subst ex
      have hm : ch ∈ letters.cps.toList := by
        have hz : ch ∈ tl z := by
          rw [← Array.getElem?_toList] at hc
          exact List.mem_of_getElem? hc
        exact in_letters (nm.1 ch hz).1 (nm.1 ch hz).2
      refine ⟨rfl, ?_⟩
      refine ⟨_, rfl, ch, letters, rfl, rfl, _, q2, ?_, ?_, ?_⟩
      · rw [List.length_map, List.length_replicate]
        have : z.cps.size = z.length := rfl
        omega
      · exact Same.put q1 nD
      · rw [upd_same, decide_eq_true hm, List.replicate_succ', List.map_append] <;> rfl
    · intro H' ⟨q1, q2⟩
      refine ⟨D, _, rfl, SqL.of q2, ?_⟩
      have e : (List.replicate z.cps.size true).all id = true := by simp
      rw [e]
      exact k H' q1
def rankS (t : List (Str × Str)) (rk : Str → Nat) (σ : St) : Nat := match σ[3]? with
  | some (some (V.str a)) => if a ∈ t.map Prod.fst then rk a + 1 else 0
  | _ => 0
theorem scIsAnc : FnScope ["parents", "name", "seen", "above"] ["parents", "name"] (defScope s_is_ancestor) := ⟨rfl, rfl, rfl, by decide +kernel, rfl, by decide +kernel, by decide +kernel⟩
theorem ok_isAnc {f : Addr} {fd : FuncData} (F : Fun K "is_ancestor" "is_ancestor" s_is_ancestor f fd) : FnOk P w K mg base CX0 1 f fd ["parents", "name"] spIsAnc := by
  refine F.ok scIsAnc (fun vs H Q E h => ?_) (fun cdv A outer s H vs Q E hr h => ?_)
  · obtain ⟨q, g, t, rfl, _⟩ := h
    rfl
  · obtain ⟨q, g, t, rfl, hq, o, hg, k⟩ := h
    have hu := hu_of hr
    obtain ⟨rk, r⟩ := o.up
    refine ⟨_, pss_cons (ps_set (i := 2) scIsAnc.nd rfl (.inl rfl) (pe_lst pa_nil))
      (pss_cons (ps_set (i := 3) scIsAnc.nd rfl (.inl rfl) (pe_dget hu (pv 0) (pv 1) (fun _ _ => rfl)))
      (pss_cons (ps_while PassesOwn.never (PW.pt (pw_and (pt_cmp (pc_din hu (pv 3) (pv 0))) (pw_and1 (pt_cmpR op_notIn_seq (pv 3) (pv 2) rfl))))
        (pss_cons (ps_if (pt_cmpR op_eq (pv 3) (pv 1) (nomark _)) (pss_one (ps_ret pe_bl)) pss_nil)
        (pss_cons (ps_expr (pe_bm PySem.F.plainAttrs_list PySem.F.slot_list_append PySem.F.type_list_append mt_append (pv 2) (pa_cons (pv 3) pa_nil)))
        (pss_one (ps_set (i := 3) scIsAnc.nd rfl (.inl rfl) (pe_dget hu (pv 0) (pv 3) (fun _ _ => rfl)))))))
      (pss_one (ps_ret pe_bl)))), ?_⟩
    obtain ⟨p0, v0, w0, i0⟩ := o.step r hg
    have few := o.few
    have big : 1000 ≤ sizeLine := by decide
    refine ⟨by show 0 ≤ sizeLine; omega, fun l nl => ?_⟩
    have hq1 : (upd H l (.lst [])) q = some (.dK (prs t)) := by rw [upd_ne (ne_of_none hq nl)]; exact hq
    have ql : q ≠ l := ne_of_none hq nl
    refine ⟨_, rfl, _, rfl, q, V.str p0, rfl, by have z := DGet.k (k := Sum.inr g) hq1; rw [val_prs, v0] at z; exact z, ?_⟩
    refine while_by (fun σ H' => ∃ (a : Str) (ws : List Str), σ = [some (.ref q), some (.str g), some (.ref l), some (.str a)] ∧ H' l = some (.lst (ws.map V.str)) ∧ (∀ b u, H b = some u → H' b = some u) ∧ (a = "" ∨ (a ∈ t.map Prod.fst ∧ rk a < rk g ∧ ws.length + rk a < t.length)))
      (fun σ _ => rankS t rk σ) ⟨p0, [], rfl, upd_same, same_new nl, w0.imp id fun z => ⟨z.1, z.2, by simp only [List.length_nil]; omega⟩⟩ ?_ ?_
    · rintro σ Hx ⟨a, ws, rfl, hl, sm, ha⟩
      have hqx := sm _ _ hq
      have dg := DGet.k (k := Sum.inr a) hqx
      rw [val_prs] at dg
      refine ⟨_, rfl, _, rfl, q, _, rfl, dg, _, rfl, ?_⟩
      rcases ha with rfl | ⟨ha, ia, la⟩
      · rw [par_none o.root]
        refine iteF ?_
        exact iteF (k Hx sm)
      · obtain ⟨p, hv, hp, il⟩ := o.step r ha
        rw [hv]
        show if true = true then _ else _
        rw [if_pos rfl]
        refine ⟨_, rfl, _, rfl, l, _, rfl, .inl (SqL.of hl), rfl, flat_strs ws, _, rfl, ?_⟩
        rw [inV_strs]
        by_cases hw : a ∈ ws
        · rw [decide_eq_true hw]
          exact iteF (k Hx sm)
        · rw [decide_eq_false hw]
          show if true = true then _ else _
          rw [if_pos rfl]
          refine ⟨_, rfl, _, rfl, rfl, _, rfl, ?_⟩
          rw [decide_eq_false (show ¬ V.str a = V.str g from fun e => by
            have := V.str.inj e
            subst this
            omega)]
          refine iteF ?_
          refine ⟨_, rfl, .inl ⟨rfl, _, SqL.of hl⟩, _, rfl, l, _, _, rfl, rfl, hl, by rw [List.length_map]; omega, ?_⟩
          have hq2 : (upd Hx l (.lst (ws.map V.str ++ [.str a]))) q = some (.dK (prs t)) := by rw [upd_ne ql]; exact hqx
          refine ⟨_, rfl, _, rfl, q, V.str p, rfl, by have z := DGet.k (k := Sum.inr a) hq2; rw [val_prs, hv] at z; exact z, ?_⟩
          refine ⟨⟨p, ws ++ [a], rfl, by rw [upd_same, List.map_append] <;> rfl, fun b u e => ?_, ?_⟩, ?_⟩
          · rw [upd_ne (ne_of_none e nl)]
            exact sm b u e
          · rcases hp with rfl | ⟨hp, ip⟩
            · exact .inl rfl
            · refine .inr ⟨hp, by omega, ?_⟩
              rw [List.length_append]
              show ws.length + 1 + rk p < t.length
              omega
          · show rankS t rk [some (.ref q), some (.str g), some (.ref l), some (.str p)] < rankS t rk [some (.ref q), some (.str g), some (.ref l), some (.str a)]
            have e1 : rankS t rk [some (.ref q), some (.str g), some (.ref l), some (.str a)] = rk a + 1 := if_pos ha
            rw [e1]
            rcases hp with rfl | ⟨hp, ip⟩
            · have e2 : rankS t rk [some (.ref q), some (.str g), some (.ref l), some (.str "")] = 0 := if_neg o.root
              rw [e2]
              omega
            · have e2 : rankS t rk [some (.ref q), some (.str g), some (.ref l), some (.str p)] = rk p + 1 := if_pos hp
              rw [e2]
              omega
    · intro σ Hx Qa Qb h
      rintro ⟨v, e1, w, e2, a, r, e3, g, d, e4, z⟩
      refine ⟨v, e1, w, e2, a, r, e3, g, d, e4, ?_⟩
      cases d with
      | false =>
        rw [if_neg (by decide)] at z ⊢
        exact h _ _ z
      | true =>
        rw [if_pos rfl] at z ⊢
        obtain ⟨v, e1, w, e2, p, xs, e3, e4, e5, e6, b, e7, z⟩ := z
        exact ⟨v, e1, w, e2, p, xs, e3, e4, e5, e6, b, e7, h _ _ z⟩
theorem scNeed : FnScope ["parents", "name", "above", "other"] ["parents"] (defScope s_need_parents) := ⟨rfl, rfl, rfl, by decide +kernel, rfl, by decide +kernel, by decide +kernel⟩
theorem ok_need {f fI fA CF : Addr} {mc : Value} {fd fdI fdA : FuncData} (F : Fun K "need_parents" "need_parents" s_need_parents f fd) (T : Nm mg) (C : Cs mg) (Z : Fc K mg CF mc)
    (FI : Dn P w K mg base CX0 1 "is_name" ["value"] spIsName fI fdI) (FA : Dn P w K mg base CX0 1 "is_ancestor" ["parents", "name"] spIsAnc fA fdA) : FnOk P w K mg base CX0 2 f fd ["parents"] spNeed := by
  obtain ⟨um, cm⟩ := Z.most
  obtain ⟨ur, cr⟩ := Z.root
  refine F.ok scNeed (fun vs H Q E h => ?_) (fun cdv A outer s H vs Q E hr h => ?_)
  · obtain ⟨q, t, rfl, _⟩ := h
    rfl
  · obtain ⟨q, t, rfl, hq, o, k⟩ := h
    have hu := hu_of hr
    obtain ⟨rk, r⟩ := o.up
    refine ⟨_, pss_cons (ps_if (PW.pt (pw_or (pt_not (pt_val (pe_callB call_isi (by rfl) T.isi (by decide +kernel) (pa_cons (pv 0) (pa_cons (pe_bltn (v := .ty "dict") (u := .type "dict") (by rfl) T.dct (by decide +kernel) rfl) pa_nil)))))
        (pw_or1 (pt_not (pt_chain op_le op_le pe_int (pe_callB call_lenD (by rfl) T.len PySem.boot_len (pa_cons (pv 0) pa_nil)) (pe_cval (pe_glob (v := .ref CF) (by rfl) Z.gF rfl))))))) pss_never pss_nil)
      (pss_cons (ps_if (pt_not (pt_val (pe_callB (cr_all rfl) (by rfl) T.all (by decide +kernel) (pa_cons (pe_lock (pe_lc (own := [("name", 1)]) (g := gName 1) (tt := tYes) rfl scNeed.nd (pi_keys (pv 0))
        (blkOk_by (N := ["parents", "name", "above", "other"]) (sc := defScope s_need_parents) (by decide +kernel))
        (fun _ _ _ _ _ => pg_name (i := 1) scNeed.nd rfl (Or.inl rfl)) (fun _ _ _ _ _ => pts_nil) (fun _ _ _ _ _ => pe_call FI.ok hr rfl FI.mgn FI.kp FI.bn .nil pass0 (pa_cons (pv 1) pa_nil)))) pa_nil)))) pss_never pss_nil)
      (pss_one (ps_for PassesOwn.never rfl (pi_list (pe_callB (call_sortedD rfl) (by rfl) T.srt (by decide +kernel) (pa_cons (pv 0) pa_nil))) (pg_name (i := 1) scNeed.nd rfl (.inl rfl))
        (pss_cons (ps_set (i := 2) scNeed.nd rfl (.inl rfl) (pe_dget hu (pv 0) (pv 1) (fun _ _ => rfl)))
        (pss_cons (ps_if (PW.pt (pw_or (pt_not (pt_val (pe_callB call_isi (by rfl) T.isi (by decide +kernel) (pa_cons (pv 2) (pa_cons (pe_bltn (v := .ty "str") (u := .type "str") (by rfl) T.str (by decide +kernel) rfl) pa_nil)))))
          (pw_or1 (PW.pt (pw_and (pt_cmpR op_ne (pv 2) (pe_cval (pe_glob (v := .ref CF) (by rfl) Z.gF rfl)) (nomark _)) (pw_and1 (pt_cmp (pc_dnotin hu (pv 2) (pv 0))))))))) pss_never pss_nil)
        (pss_one (ps_if (pt_val (pe_call FA.ok hr rfl FA.mgn FA.kp FA.bn .nil pass0 (pa_cons (pe_lock (pe_dc (own := [("other", 3)]) (g := gName 3) (tt := tB (tCB (rIsi K) (tCons (tDGet (tVar 0) (tVar 3)) (tCons (tC (.ty "str")) tNil)))) rfl scNeed.nd (pi_keys (pv 0))
          (blkOk_by (N := ["parents", "name", "above", "other"]) (sc := defScope s_need_parents) (by decide +kernel))
          (fun _ _ _ _ _ => pg_name (i := 3) scNeed.nd rfl (Or.inl rfl)) (fun _ _ _ _ _ => pts_one (pt_val (pe_callB call_isi (by rfl) T.isi (by decide +kernel) (pa_cons (pe_dget hu (pv 0) (pv 3) (fun _ _ => rfl)) (pa_cons (pe_bltn (v := .ty "str") (u := .type "str") (by rfl) T.str (by decide +kernel) rfl) pa_nil)))))
          (fun _ _ _ _ _ => pv 3) (fun _ _ _ _ _ => pe_dget hu (pv 0) (pv 3) (fun _ _ => rfl)))) (pa_cons (pv 1) pa_nil)))) pss_never pss_nil))))))), ?_⟩
    have few := o.few
    have one := o.one
    have big : 1000 ≤ sizeLine := by decide
    have lp := prs_len t
    -- a dict, of one to twelve
    refine ⟨_, rfl, .ref q, _, _, _, true, rfl, .ty _, .base (.dK hq), kit_ty (by decide +kernel), true, rfl, ?_⟩
    refine iteF ?_
    refine ⟨_, rfl, q, _, rfl, hq, _, _, rfl, rfl, _, rfl, ?_⟩
    rw [if_pos (decide_eq_true (by omega))]
    refine ⟨CF, mc, _, um, rfl, Z.rd, cm, _, _, rfl, rfl, _, rfl, ?_⟩
    rw [decide_eq_true (show ((prs t).length : Int) ≤ 12 by omega)]
    refine iteF ?_
    -- all are names
    refine ⟨q, .dK (prs t), hq, trivial, fun od => ⟨_, rfl, q, od, rfl, .inl ⟨prs t, upd_same, fun D nD => ?_⟩⟩⟩
    have Dq : D ≠ q := (ne_of_none upd_same nD).symm
    have key : ∀ {i : Nat} {k : Key} {v : V}, (prs t)[i]? = some (k, v) → ∃ a p : Str, k = Sum.inr a ∧ v = .str p ∧ t[i]? = some (a, p) := fun {i k v} h => by
      unfold prs kvT at h
      rw [List.map_map, List.getElem?_map] at h
      obtain ⟨⟨a, p⟩, hp, e⟩ := Option.map_eq_some_iff.mp h
      cases e
      exact ⟨a, p, rfl, rfl, hp⟩
    refine lc_it walk_keys (fun i H' => Same (upd H q (.frz od (.dK (prs t)))) H' ∧ H' D = some (.lst ((List.replicate i true).map V.bl))) ⟨same_new nD, upd_same⟩ (fun i H' _ z => z.1 q _ upd_same) ?_ ?_
    · intro i x Ha Hb hi ⟨q1, q2⟩ ⟨e, k', v, hk, ex⟩
      subst e
      subst ex
      obtain ⟨a, p, rfl, rfl, hp⟩ := key hk
      refine ⟨rfl, ?_⟩
      refine ⟨_, rfl, a, rfl, o.nm a (List.mem_map.mpr ⟨(a, p), List.mem_of_getElem? hp, rfl⟩), fun H' s' => ⟨_, s' D _ q2, ?_, ?_, ?_⟩⟩
      · rw [List.length_map, List.length_replicate]
        omega
      · intro b u e
        rw [upd_ne (ne_of_none e nD)]
        exact s' _ _ (q1 b u e)
      · rw [upd_same, List.replicate_succ', List.map_append] <;> rfl
    intro H1 ⟨q1, q2⟩
    refine ⟨q1 q _ upd_same, D, _, rfl, SqL.of (by rw [upd_ne Dq]; exact q2), true, by rw [show (List.replicate (prs t).length true).all id = true by simp], ?_⟩
    refine iteF ?_
    have s1 : Same H (upd H1 q (.dK (prs t))) := unlock_same hq q1
    -- one by one, in their order
    refine ⟨_, rfl, q, prs t, t.map Prod.fst, rfl, .inl upd_same, prs_keys t, by rw [List.length_map]; omega, fun ys p perm srt np => ⟨p, rfl, ⟨_, SqL.of upd_same⟩, ?_⟩⟩
    obtain ⟨H2, e2⟩ : ∃ X, X = upd (upd H1 q (.dK (prs t))) p (.lst (ys.map V.str)) := ⟨_, rfl⟩
    have s2 : Same H H2 := s1.trans (e2 ▸ same_new np)
    have at2 : H2 p = some (.lst (ys.map V.str)) := by rw [e2]; exact upd_same
    rw [← e2]
    refine for_it walk_list (fun j σ' H' => (∃ u1 u2 u3, σ' = [some (.ref q), u1, u2, u3]) ∧ Same H2 H') ⟨⟨_, _, _, rfl⟩, fun _ _ e => e⟩ (fun j σ' H' _ z => SqL.of (z.2 _ _ at2)) ?_ ?_
    · intro j x σ' Ha Hb hj ⟨⟨u1, u2, u3, e⟩, sa⟩ ⟨eb, ex⟩
      subst e
      subst eb
      rw [List.getElem?_map] at ex
      obtain ⟨a, ha, rfl⟩ := Option.map_eq_some_iff.mp ex
      have ma : a ∈ t.map Prod.fst := perm.mem_iff.mp (List.mem_of_getElem? ha)
      obtain ⟨pa, hv, hpa, ia⟩ := o.step r ma
      have s0a : Same H Hb := s2.trans sa
      have hqa := s0a _ _ hq
      refine ⟨_, rfl, _, rfl, q, V.str pa, rfl, by have z := DGet.k (k := Sum.inr a) hqa; rw [val_prs, hv] at z; exact z, ?_⟩
      refine ⟨_, rfl, .str pa, _, _, _, true, rfl, .ty _, .base (.str pa), kit_ty (by decide +kernel), true, rfl, ?_⟩
      refine iteF ?_
      have anc : tIfS (tB (tCall spIsAnc [] E0 (tCons (tLockE (tDc (iKeys (tVar 0)) (gName 3) (tB (tCB (rIsi K) (tCons (tDGet (tVar 0) (tVar 3)) (tCons (tC (.ty "str")) tNil)))) (tVar 3) (tDGet (tVar 0) (tVar 3)) [3])) (tCons (tVar 1) tNil)))) tNever tNext
          ⟨fun σ' H' => (∃ u1 u2 u3, σ' = [some (.ref q), u1, u2, u3]) ∧ Same H2 H', fun v H' => Q v H', fun σ' H' => Q .non H', fun σ' H' => (∃ u1 u2 u3, σ' = [some (.ref q), u1, u2, u3]) ∧ Same H2 H'⟩ [some (.ref q), some (.str a), some (.str pa), u3] Hb := by
        refine ⟨q, .dK (prs t), hqa, trivial, fun od => ⟨_, rfl, q, od, rfl, .inl ⟨prs t, upd_same, fun D nD => ?_⟩⟩⟩
        have Dq : D ≠ q := (ne_of_none upd_same nD).symm
        refine dc_it walk_keys (fun i H' => Same (upd Hb q (.frz od (.dK (prs t)))) H' ∧ H' D = some (.dK (prs (t.take i)))) ⟨same_new nD, upd_same⟩ (fun i H' _ z => z.1 q _ upd_same) ?_ ?_
        · intro i x Hc Hd hi ⟨q1, q2⟩ ⟨e, k', v, hk, ex⟩
          subst e
          subst ex
          obtain ⟨b, r', rfl, rfl, hp⟩ := key hk
          have fz := q1 q _ upd_same
          have dg : DGet Hd q (.str b) (some (.str r')) := .inl ⟨prs t, Sum.inr b, .inr ⟨od, fz⟩, rfl, by rw [val_prs, par_of o.nd (List.mem_of_getElem? hp)] <;> rfl⟩
          have nb : b ∉ (t.take i).map Prod.fst := fun hm => by
            rw [List.map_take] at hm
            obtain ⟨j, hj⟩ := List.mem_iff_getElem?.mp hm
            have jl := (List.getElem?_eq_some_iff.mp hj).1
            rw [List.length_take] at jl
            rw [List.getElem?_take, if_pos (by omega)] at hj
            have e0 : (t.map Prod.fst)[i]? = some b := by rw [List.getElem?_map, hp] <;> rfl
            have := (List.getElem?_inj (by omega) o.nd).mp (hj.trans e0.symm)
            omega
          refine ⟨rfl, ?_⟩
          refine ⟨_, rfl, _, rfl, q, _, rfl, dg, .str r', _, _, _, true, rfl, .ty _, .base (.str r'), kit_ty (by decide +kernel), true, rfl, ?_⟩
          show if true = true then _ else _
          rw [if_pos rfl]
          refine ⟨_, rfl, _, rfl, _, rfl, q, _, rfl, dg, prs (t.take i), Sum.inr b, rfl, q2, ?_, ?_, ?_⟩
          · rw [prs_len, List.length_take]
            omega
          · intro c u e
            rw [upd_ne (ne_of_none e nD)]
            exact q1 c u e
          · rw [upd_same, put_new nb, take_more hp]
        · intro Hc ⟨q1, q2⟩
          rw [lp, List.take_length] at q2
          refine ⟨q1 q _ upd_same, _, rfl, D, a, t, rfl, by rw [upd_ne Dq]; exact q2, o, ma, fun H' s' => ⟨false, rfl, iteF ⟨⟨_, _, _, rfl⟩, (sa.trans (unlock_same hqa q1)).trans s'⟩⟩⟩
      rcases hpa with rfl | ⟨hp, _⟩
      · refine ⟨_, rfl, CF, mc, _, ur, rfl, Z.rd, cr, rfl, _, rfl, ?_⟩
        rw [decide_eq_true rfl]
        refine iteF ?_
        exact iteF anc
      · obtain ⟨pp, hv2, _⟩ := o.step r hp
        refine ⟨_, rfl, CF, mc, _, ur, rfl, Z.rd, cr, rfl, _, rfl, ?_⟩
        have ne : ¬ V.str pa = V.str "" := fun e => o.root (by rw [← V.str.inj e]; exact hp)
        rw [decide_eq_false ne]
        show if true = true then _ else _
        rw [if_pos rfl]
        refine ⟨_, rfl, _, rfl, q, V.str pp, rfl, by have z := DGet.k (k := Sum.inr pa) hqa; rw [val_prs, hv2] at z; exact z, _, rfl, ?_⟩
        exact iteF anc
    · intro σ' H' ⟨_, sa⟩
      exact k H' (s2.trans sa)
/-! ### Forest -/
/-- a forest at x, its pairs ts -/
def FAt (CF : Addr) (H : Hp) (x : Addr) (ts : List (Str × Str)) : Prop := ∃ dx dq, H x = some (.ins CF dx [("above", .ref dq)]) ∧ H dq = some (.dK (prs ts))
theorem FAt.mono {CF x : Addr} {H H' : Hp} {ts : List (Str × Str)} (s : Same H H') (h : FAt CF H x ts) : FAt CF H' x ts := let ⟨dx, dq, e1, e2⟩ := h; ⟨dx, dq, s _ _ e1, s _ _ e2⟩
/-- in ascending order -/
def Asc (ts : List (Str × Str)) : Prop := PyProof.Rows.sortedS (ts.map Prod.fst) = true
/-- facts of a class of the text -/
structure FoC (K : PySem.W.Frag) (CF : Addr) : Prop where
  cl : Cls K CF
  nA : NoAttr K CF "above"
def spFInit (CF : Addr) : Sp := fun vs H Q _ => ∃ (x q dx : Addr) (t : List (Str × Str)), vs = [.ref x, .ref q] ∧ H x = some (.ins CF dx []) ∧ H q = some (.dK (prs t)) ∧ TreeOk t ∧
  ∀ (H' : Hp) (ts : List (Str × Str)), ts.Perm t → Asc ts → FAt CF H' x ts → (∀ b o, b ≠ x → H b = some o → H' b = some o) → Q .non H'
def spFFlags (CF : Addr) : Sp := fun vs H Q _ => ∃ (x : Addr) (ts : List (Str × Str)), vs = [.ref x] ∧ FAt CF H x ts ∧ ∀ p, H p = none → Q (.ref p) (upd H p (.lst ((ts.map Prod.fst).map V.str)))
def spFParents (CF : Addr) : Sp := fun vs H Q _ => ∃ (x : Addr) (ts : List (Str × Str)), vs = [.ref x] ∧ FAt CF H x ts ∧ ∀ p, H p = none → Q (.ref p) (upd H p (.dK (prs ts)))
theorem scFInit : FnScope ["self", "parents", "name"] ["self", "parents"] (defScope s_Forest___init__) := ⟨rfl, rfl, rfl, by decide +kernel, rfl, by decide +kernel, by decide +kernel⟩
theorem perm_pairs : ∀ {ts t : List (Str × Str)}, (t.map Prod.fst).Nodup → (ts.map Prod.fst).Perm (t.map Prod.fst) → (∀ p ∈ ts, p ∈ t) → ts.Perm t
  | [], t, _, pf, _ => by
    have := pf.length_eq
    rw [List.length_map, List.length_map] at this
    rw [List.length_eq_zero_iff.mp (this.symm : t.length = 0)]
  | p :: ts, t, nd, pf, h => by
    have mp := h p (List.mem_cons_self ..)
    have pe := List.perm_cons_erase mp
    have pk : (ts.map Prod.fst).Perm ((t.erase p).map Prod.fst) := (pf.trans (pe.map Prod.fst)).cons_inv
    have nk := (pe.map Prod.fst).nodup_iff.mp nd
    obtain ⟨n1, n2⟩ := List.nodup_cons.mp (show (p.1 :: (t.erase p).map Prod.fst).Nodup from nk)
    refine ((perm_pairs n2 pk fun q hq => ?_).cons p).trans pe.symm
    rcases List.mem_cons.mp (pe.mem_iff.mp (h q (List.mem_cons_of_mem _ hq))) with e | m
    · exfalso
      refine n1 (pk.mem_iff.mp (List.mem_map.mpr ⟨q, hq, ?_⟩))
      rw [e]
    · exact m
theorem ok_finit {f fN CF : Addr} {fd fdN : FuncData} (F : Fun K "__init__" "Forest.__init__" s_Forest___init__ f fd) (T : Nm mg) (O : FoC K CF) (GN : Dn P w K mg base CX0 2 "need_parents" ["parents"] spNeed fN fdN) :
    FnOk P w K mg base CX0 3 f fd ["self", "parents"] (spFInit CF) := by
  refine F.ok scFInit (fun vs H Q E h => ?_) (fun cdv A outer s H vs Q E hr h => ?_)
  · obtain ⟨x, q, dx, t, rfl, _⟩ := h
    rfl
  · obtain ⟨x, q, dx, t, rfl, hx, hq, o, k⟩ := h
    have hu := hu_of hr
    refine ⟨_, pss_cons (ps_expr (pe_call GN.ok hr rfl GN.mgn GN.kp GN.bn .nil pass0 (pa_cons (pv 1) pa_nil)))
      (pss_one (ps_fld (pv 0) (pe_dc (own := [("name", 2)]) (g := gName 2) (tt := tYes) rfl scFInit.nd (pi_list (pe_callB (call_sortedD rfl) (by rfl) T.srt (by decide +kernel) (pa_cons (pv 1) pa_nil)))
        (blkOk_by (N := ["self", "parents", "name"]) (sc := defScope s_Forest___init__) (by decide +kernel))
        (fun _ _ _ _ _ => pg_name (i := 2) scFInit.nd rfl (Or.inl rfl)) (fun _ _ _ _ _ => pts_nil) (fun _ _ _ _ _ => pv 2) (fun _ _ _ _ _ => pe_dget hu (pv 1) (pv 2) (fun _ _ => rfl))) rfl)), ?_⟩
    have few := o.few
    have big : 1000 ≤ sizeLine := by decide
    refine ⟨_, rfl, q, t, rfl, hq, o, fun H1 s1 => ?_⟩
    have hq1 := s1 _ _ hq
    refine ⟨_, rfl, q, prs t, t.map Prod.fst, rfl, .inl hq1, prs_keys t, by rw [List.length_map]; omega, fun ys p perm srt np => ⟨p, rfl, ⟨_, SqL.of upd_same⟩, fun D nD => ?_⟩⟩
    obtain ⟨H2, e2⟩ : ∃ X, X = upd H1 p (.lst (ys.map V.str)) := ⟨_, rfl⟩
    have s2 : Same H H2 := s1.trans (e2 ▸ same_new np)
    have at2 : H2 p = some (.lst (ys.map V.str)) := by rw [e2]; exact upd_same
    rw [← e2] at nD ⊢
    have ndy : ys.Nodup := perm.nodup_iff.mpr o.nd
    have ly := perm.length_eq
    rw [List.length_map] at ly
    refine dc_it walk_list (fun i H' => Same H2 H' ∧ ∃ ts : List (Str × Str), H' D = some (.dK (prs ts)) ∧ ts.map Prod.fst = ys.take i ∧ ∀ p ∈ ts, p ∈ t) ⟨same_new nD, [], upd_same, by rw [List.take_zero] <;> rfl, fun p h => by cases h⟩ (fun i H' _ z => SqL.of (z.1 _ _ at2)) ?_ ?_
    · intro i y Ha Hb hi ⟨q1, ts, hD, ets, hts⟩ ⟨eb, ex⟩
      subst eb
      rw [List.getElem?_map] at ex
      obtain ⟨a, ha, rfl⟩ := Option.map_eq_some_iff.mp ex
      have ma : a ∈ t.map Prod.fst := perm.mem_iff.mp (List.mem_of_getElem? ha)
      obtain ⟨pa, hv⟩ := par_some o.nd ma
      have hqa := q1 _ _ (s2 _ _ hq)
      have fresh : a ∉ ts.map Prod.fst := by
        rw [ets]
        intro hm
        obtain ⟨j, hj⟩ := List.mem_iff_getElem?.mp hm
        have jl := (List.getElem?_eq_some_iff.mp hj).1
        have il := (List.getElem?_eq_some_iff.mp ha).1
        rw [List.length_take] at jl
        rw [List.getElem?_take, if_pos (by omega)] at hj
        have := (List.getElem?_inj (by omega) ndy).mp (hj.trans ha.symm)
        omega
      have lt := congrArg List.length ets
      rw [List.length_map, List.length_take] at lt
      refine ⟨rfl, ?_⟩
      refine ⟨_, rfl, _, rfl, _, rfl, q, V.str pa, rfl, by have z := DGet.k (k := Sum.inr a) hqa; rw [val_prs, hv] at z; exact z, prs ts, Sum.inr a, rfl, hD, by rw [prs_len]; omega, ?_, ts ++ [(a, pa)], ?_, ?_, fun z hz => ?_⟩
      · intro b u e
        rw [upd_ne (ne_of_none e nD)]
        exact q1 b u e
      · rw [upd_same, put_new fresh]
      · rw [List.map_append, ets, take_more ha] <;> rfl
      · rcases List.mem_append.mp hz with h | h
        · exact hts z h
        · rw [List.mem_singleton.mp h]
          exact par_mem hv
    · intro H3 ⟨q1, ts, hD, ets, hts⟩
      rw [List.length_map, List.take_length] at ets
      have s3 : Same H H3 := s2.trans q1
      refine ⟨_, rfl, x, CF, dx, [], rfl, s3 _ _ hx, O.cl, O.nA, by show 0 < 1000; decide, ?_⟩
      have xD : D ≠ x := (ne_of_none (s2 _ _ hx) nD).symm
      refine k _ ts (perm_pairs o.nd (by rw [ets]; exact perm) hts) (by unfold Asc; rw [ets]; exact srt) ⟨dx, D, upd_same, by rw [upd_ne xD]; exact hD⟩ fun b u bx e => ?_
      rw [upd_ne bx]
      exact s3 b u e
theorem scFFlags : FnScope ["self"] ["self"] (defScope s_Forest_flags) := ⟨rfl, rfl, rfl, by decide +kernel, rfl, by decide +kernel, by decide +kernel⟩
theorem ok_fflags {f CF : Addr} {fd : FuncData} (F : Fun K "flags" "Forest.flags" s_Forest_flags f fd) (T : Nm mg) (O : FoC K CF) : FnOk P w K mg base CX0 1 f fd ["self"] (spFFlags CF) := by
  refine F.ok scFFlags (fun vs H Q E h => ?_) (fun cdv A outer s H vs Q E hr h => ?_)
  · obtain ⟨x, ts, rfl, _⟩ := h
    rfl
  · obtain ⟨x, ts, rfl, ⟨dx, dq, hx, hd⟩, k⟩ := h
    refine ⟨_, pss_one (ps_ret (pe_callTy (call_listD rfl) (by rfl) T.lst (by decide +kernel) (pa_cons (pe_fld (pv 0) rfl) pa_nil))), ?_⟩
    refine ⟨_, rfl, x, CF, dx, _, .ref dq, rfl, hx, O.cl, O.nA, rfl, dq, prs ts, rfl, .inl hd, fun p np => ?_⟩
    rw [keys_prs]
    exact k p np
/-- a property of a class -/
structure Pr1 (P : Program) (w : World) (K : PySem.W.Frag) (mg : Str → Option Value) (base : Heap) (CF : Addr) (x : Str) (sp : Sp) (p g : Addr) (fd : FuncData) : Prop where
  pr : PropOf K CF x p g
  fn : FnOk P w K mg base CX0 1 g fd ["self"] sp
  bn : Binds K fd ["self"] []
def spPlacesOf (CF : Addr) : Sp := fun vs H Q _ => ∃ (x : Addr) (ts : List (Str × Str)), vs = [.ref x] ∧ FAt CF H x ts ∧ ts.length ≤ 12 ∧ ∀ p H', Same H H' → H p = none → H' p = some (.lst ((("" : Str) :: ts.map Prod.fst).map V.str)) → Q (.ref p) H'
end
end FT


/-! the package's errors: their __init__, how they are raised. -/
namespace FT
open PySem L2 TL ClX
/-- what the top has written of an error class at C, its __init__ at I; f its attribute, or the empty text -/
structure Er (K : PySem.W.Frag) (mg : Str → Option Value) (nm f : Str) (C I : Addr) : Prop where
  g : mg nm = some (.ref C)
  x : XCls K C
  ini : PySem.W.findIn K (.ref C) "__init__" = some (some (.ref I))
  ity : PySem.W.typeIn K (.ref I) = some (.type "function")
  no : PySem.W.findIn K (.ref C) f = some none
/-- the base class -/
structure Rt (K : PySem.W.Frag) (mg : Str → Option Value) (R : Addr) : Prop where
  g : mg "RolloutError" = some (.ref R)
  ini : XIni K R
def spInit1 (C : Addr) (f : Str) : Sp := fun vs H Q _ => ∃ (a : Addr) (v : V), vs = [.ref a, v] ∧ H a = some (exo a C none) ∧ ∀ d, H d = none → d ≠ a → Q .non (upd (upd H d (exd d [(f, v)])) a (exo a C (some d)))
def spInit0 (C : Addr) : Sp := fun vs H Q _ => ∃ (a : Addr), vs = [.ref a] ∧ H a = some (exo a C none) ∧ Q .non H
/-- C(): what is asked -/
theorem raise0 {C : Addr} {H1 : Hp} {Q : XK} (k : Q (.ref C) none H1) :
    ([] : List V).length ≤ 1000 ∧ ∀ a, H1 a = none → spInit0 C (.ref a :: ([] ++ [])) (upd H1 a (exo a C none)) (fun v H2 => v = .non ∧ H2 a = some (exo a C none) ∧ Q (.ref C) none (del H2 a)) (fun _ _ _ => False) := by
  refine ⟨Nat.zero_le _, fun a na => ⟨a, rfl, upd_same, rfl, upd_same, ?_⟩⟩
  have e : del (upd H1 a (exo a C none)) a = H1 := by
    funext b
    by_cases h : b = a
    · subst h
      rw [del_same, na]
    · rw [del_ne h, upd_ne h]
  rw [e]
  exact k
/-- an error class with its __init__, as a whole: with one value -/
structure Er1 (P : Program) (w : World) (K : PySem.W.Frag) (mg : Str → Option Value) (base : Heap) (nm f : Str) (C I : Addr) (fd : FuncData) : Prop where
  e : Er K mg nm f C I
  fn : FnOk P w K mg base CX0 1 I fd ["self", f] (spInit1 C f)
  bn : Binds K fd ["self", f] []
structure Er0 (P : Program) (w : World) (K : PySem.W.Frag) (mg : Str → Option Value) (base : Heap) (nm : Str) (C I : Addr) (fd : FuncData) : Prop where
  e : Er K mg nm "" C I
  fn : FnOk P w K mg base CX0 1 I fd ["self"] (spInit0 C)
  bn : Binds K fd ["self"] []
section
variable {X : Cx} {W : WX} {nm f : Str} {C I : Addr} {fd : FuncData} {ex : Expr} {te : TE} {p pos pos2 : Pos}
/-- raise C() -/
theorem ps_err0 (L : Er0 X.prog X.w X.K X.mg X.base nm C I fd) (hc : X.calm = true) (tk : Takes X W) (hr : Room 2 X.A) (hg : Gl X nm) (hdb : (nm == ("__debug__" : Str)) = false := by decide) :
    PS X (.Raise (some (.Call (.Name nm p) [] [] pos)) none pos2) (fun _ σ H => tMkO0 C (spInit0 C) [] tNil σ H fun cls d H' => W cls d σ H') :=
  ps_raise hc tk (pmk_none L.e.x.oex L.e.ini L.e.ity L.fn hr L.bn .nil (fun _ _ _ _ _ _ _ h => h.elim) hg L.e.g hdb)
end
end FT


namespace FT
open PySem L2 TL ClX
section
variable {P : Program} {w : World} {K : PySem.W.Frag} {mg : Str → Option Value} {base : Heap}
theorem sc_InvalidUsers : FnScope ["self"] ["self"] (defScope s_InvalidUsers___init__) := ⟨rfl, rfl, rfl, by decide +kernel, rfl, by decide +kernel, by decide +kernel⟩
theorem ok_InvalidUsers {f R C I : Addr} {fd : FuncData} (F : Fun K "__init__" "InvalidUsers.__init__" s_InvalidUsers___init__ f fd) (T : Rt K mg R) (L : Er K mg "InvalidUsers" "" C I) : FnOk P w K mg base CX0 1 f fd ["self"] (spInit0 C) := by
  refine F.ok sc_InvalidUsers (fun vs H Q E h => ?_) (fun cdv A outer s H vs Q E hr h => ?_)
  · obtain ⟨a, rfl, _⟩ := h
    rfl
  · obtain ⟨a, rfl, ha, k⟩ := h
    refine ⟨_, pss_one (ps_expr (pe_clsinit T.ini rfl T.g (pa_cons (pv 0) (pa_cons pe_str pa_nil)))), ?_⟩
    exact ⟨_, rfl, a, C, _, rfl, by show 1 ≤ 1000; omega, L.x.oex, ha, k⟩
end
end FT


/-! data of any kind; what is raised; numbers by places -/
namespace FT
open PySem L2 TL ClX
/-! ### data of any kind -/
inductive Dat (K : PySem.W.Frag) (H : Hp) : V → String → Prop where
  | non : Dat K H .non "NoneType"
  | bl (b : Bool) : Dat K H (.bl b) "bool"
  | int (i : Int) : Dat K H (.int i) "int"
  | str (z : Str) : Dat K H (.str z) "str"
  | lst {a : Addr} {xs : List V} (h : H a = some (.lst xs)) : Dat K H (.ref a) "list"
  | tup {a : Addr} {xs : List V} (h : H a = some (.tup xs)) : Dat K H (.ref a) "tuple"
  | dct {a : Addr} {kvs : List (Key × V)} (h : H a = some (.dK kvs)) : Dat K H (.ref a) "dict"
theorem Dat.ty {K : PySem.W.Frag} {H : Hp} {v : V} {T : String} (d : Dat K H v T) : TyX K H v (.type T) := by
  cases d with
  | non => exact .base .non
  | bl b => exact .base (.bl b)
  | int i => exact .base (.int i)
  | str z => exact .base (.str z)
  | lst h => exact .base (.lst h)
  | tup h => exact .base (.tup h)
  | dct h => exact .base (.dK h)
theorem Dat.mono {K : PySem.W.Frag} {H H' : Hp} {v : V} {T : String} (s : Same H H') (d : Dat K H v T) : Dat K H' v T := by
  cases d with
  | non => exact .non
  | bl b => exact .bl b
  | int i => exact .int i
  | str z => exact .str z
  | lst h => exact .lst (s _ _ h)
  | tup h => exact .tup (s _ _ h)
  | dct h => exact .dct (s _ _ h)
def IsDat (K : PySem.W.Frag) (H : Hp) (v : V) : Prop := ∃ T, Dat K H v T
theorem IsDat.mono {K : PySem.W.Frag} {H H' : Hp} {v : V} (s : Same H H') (d : IsDat K H v) : IsDat K H' v := let ⟨T, d⟩ := d; ⟨T, d.mono s⟩
/-- isinstance(v, int) -/
def isIntV : V → Bool
  | .int _ => true
  | .bl _ => true
  | _ => false
def isBlV : V → Bool
  | .bl _ => true
  | _ => false
def isDictV (H : Hp) (v : V) : Bool := match v with
  | .ref a => match H a with
    | some (.dK _) => true
    | _ => false
  | _ => false
theorem Dat.int_ {K : PySem.W.Frag} {H : Hp} {v : V} {T : String} (d : Dat K H v T) : PySem.W.kitOne K (.type T) (.type "int") = some (isIntV v) := by
  cases d with
  | non => exact kit_ty (r := false) (by decide +kernel)
  | bl b => exact kit_ty (r := true) (by decide +kernel)
  | int i => exact kit_ty (r := true) (by decide +kernel)
  | str z => exact kit_ty (r := false) (by decide +kernel)
  | lst h => exact kit_ty (r := false) (by decide +kernel)
  | tup h => exact kit_ty (r := false) (by decide +kernel)
  | dct h => exact kit_ty (r := false) (by decide +kernel)
theorem Dat.bool_ {K : PySem.W.Frag} {H : Hp} {v : V} {T : String} (d : Dat K H v T) : PySem.W.kitOne K (.type T) (.type "bool") = some (isBlV v) := by
  cases d with
  | non => exact kit_ty (r := false) (by decide +kernel)
  | bl b => exact kit_ty (r := true) (by decide +kernel)
  | int i => exact kit_ty (r := false) (by decide +kernel)
  | str z => exact kit_ty (r := false) (by decide +kernel)
  | lst h => exact kit_ty (r := false) (by decide +kernel)
  | tup h => exact kit_ty (r := false) (by decide +kernel)
  | dct h => exact kit_ty (r := false) (by decide +kernel)
/-- an integer, no bool, of at least l -/
def isGe (v : V) (l : Int) : Bool := match v with
  | .int i => decide (l ≤ i)
  | _ => false
/-! ### what is raised -/
inductive Err where
  | e0 (C : Addr)
  | e1 (C : Addr) (f : Str) (v : V)
/-- the way out of such an error, from the heap H -/
def Out (H : Hp) (E : XK) : Err → Prop
  | .e0 C => ∀ H', Same H H' → E (.ref C) none H'
  | .e1 C f v => ∀ d H', Same H H' → H d = none → H' d = some (.xd [(f, v)]) → E (.ref C) (some d) H'
theorem Out.mono {H H1 : Hp} {E : XK} {e : Err} (s : Same H H1) (o : Out H E e) : Out H1 E e := by
  cases e with
  | e0 C => exact fun H' s' => o H' (s.trans s')
  | e1 C f v => exact fun d H' s' n => o d H' (s.trans s') (s.free n)
theorem out0 {C : Addr} {H H1 : Hp} {E : XK} (o : Out H E (.e0 C)) (s : Same H H1) :
    ([] : List V).length ≤ 1000 ∧ ∀ a, H1 a = none → spInit0 C (.ref a :: ([] ++ [])) (upd H1 a (exo a C none)) (fun v H2 => v = .non ∧ H2 a = some (exo a C none) ∧ E (.ref C) none (del H2 a)) (fun _ _ _ => False) :=
  raise0 (Q := fun cls d H' => E cls d H') (o _ s)
/-! ### numbers by places -/
def tblI (l : List Str) (g : Str → Int) : List (Key × V) := kvT (l.map fun a => (a, V.int (g a)))
theorem tblI_len (l : List Str) (g : Str → Int) : (tblI l g).length = l.length := by unfold tblI; rw [kvT_len, List.length_map]
theorem tblI_fst (l : List Str) (g : Str → Int) : (l.map fun a => (a, V.int (g a))).map Prod.fst = l := by rw [List.map_map]; exact List.map_id _
theorem tblI_keys (l : List Str) (g : Str → Int) : (tblI l g).map (·.1) = l.map Sum.inr := by unfold tblI kvT; rw [List.map_map, List.map_map] <;> rfl
theorem tblI_at {l : List Str} {g : Str → Int} {i : Nat} {k : Key} {v : V} (h : (tblI l g)[i]? = some (k, v)) : ∃ a, l[i]? = some a ∧ k = Sum.inr a ∧ v = .int (g a) := by
  unfold tblI kvT at h
  rw [List.map_map, List.getElem?_map] at h
  obtain ⟨a, ha, e⟩ := Option.map_eq_some_iff.mp h
  cases e
  exact ⟨a, ha, rfl, rfl⟩
theorem tblI_val {l : List Str} {g : Str → Int} {a : Str} (h : a ∈ l) : valV (tblI l g) (Sum.inr a) = some (.int (g a)) := by
  unfold tblI
  rw [kvT_val]
  induction l with
  | nil => cases h
  | cons b l ih =>
    rw [List.map_cons, look_cons]
    by_cases e : b = a
    · subst e
      exact if_pos rfl
    · rw [if_neg e]
      exact ih ((List.mem_cons.mp h).resolve_left fun z => e z.symm)
theorem tblI_put {l : List Str} {g : Str → Int} {a : Str} {z : Int} (h : a ∈ l) : putK (tblI l g) (Sum.inr a) (.int z) = tblI l (fun p => if p = a then z else g p) := by
  unfold tblI
  rw [kvT_putT]
  unfold putT
  rw [if_pos (by rw [tblI_fst]; exact h), List.map_map]
  congr 1
  refine List.map_congr_left fun p _ => ?_
  show (if p = a then (p, V.int z) else (p, V.int (g p))) = (p, V.int (if p = a then z else g p))
  by_cases e : p = a
  · rw [if_pos e, if_pos e]
  · rw [if_neg e, if_neg e]
theorem tblI_snoc {l : List Str} {g : Str → Int} {a : Str} {z : Int} (h : a ∉ l) (e : z = g a) : putK (tblI l g) (Sum.inr a) (.int z) = tblI (l ++ [a]) g := by
  unfold tblI
  rw [kvT_put (by rw [tblI_fst]; exact h), List.map_append, e] <;> rfl
theorem tblI_congr {l : List Str} {g g' : Str → Int} (h : ∀ a ∈ l, g a = g' a) : tblI l g = tblI l g' := by
  unfold tblI
  rw [List.map_congr_left fun a ha => by rw [h a ha]]
/-! ### feasible sizes -/
/-- sizes: a dict, its pairs told, or another value -/
def SzV (K : PySem.W.Frag) (H : Hp) (sv : V) : Option (List (Key × V)) → Prop
  | some kvs => ∃ q, sv = .ref q ∧ H q = some (.dK kvs) ∧ ∀ p ∈ kvs, IsDat K H p.2
  | none => ∃ T, Dat K H sv T ∧ T ≠ "dict"
theorem SzV.mono {K : PySem.W.Frag} {H H' : Hp} {sv : V} {o : Option (List (Key × V))} (s : Same H H') (h : SzV K H sv o) : SzV K H' sv o := by
  cases o with
  | none => exact let ⟨T, d, n⟩ := h; ⟨T, d.mono s, n⟩
  | some kvs => exact let ⟨q, e, h, a⟩ := h; ⟨q, e, s _ _ h, fun p hp => (a p hp).mono s⟩
def szOf (kvs : List (Key × V)) (a : Str) : Int := match valV kvs (Sum.inr a) with
  | some (.int i) => i
  | _ => 0
def badKey (kvs : List (Key × V)) (a : Str) : Bool := !isGe ((valV kvs (Sum.inr a)).getD .non) 0
/-- the place of the first fault, as the error tells it -/
def feas (ts : List (Str × Str)) (n : Int) : Option (List (Key × V)) → Option V
  | none => some .non
  | some kvs => if kvs.length ≠ ts.length then some .non else if (ts.map Prod.fst).all (fun a => (valV kvs (Sum.inr a)).isSome) = false then some .non else
    match (ts.map Prod.fst).find? (badKey kvs) with
    | some a => some (.str a)
    | none => ((("" : Str) :: ts.map Prod.fst).find? fun p => decide (resid ts n (szOf kvs) p < 0)).map V.str
def usersOk (v : V) (m : Int) : Bool := match v with
  | .int i => decide (1 ≤ i) && decide (i ≤ m)
  | _ => false
def feE (CS : Addr) (ts : List (Str × Str)) (n : Int) (o : Option (List (Key × V))) : Option Err := (feas ts n o).map fun v => .e1 CS "place" v
def szE (CU CS : Addr) (ts : List (Str × Str)) (uv : V) (o : Option (List (Key × V))) : Option Err := if usersOk uv (10 ^ 30) = true then feE CS ts (match uv with | .int n => n | _ => 0) o else some (.e0 CU)
/-- a def that hands back None, or raises -/
def Res (H : Hp) (Q : VK) (E : XK) : Option Err → Prop
  | none => ∀ H', Same H H' → Q .non H'
  | some e => Out H E e
theorem Res.mono {H H1 : Hp} {Q : VK} {E : XK} {o : Option Err} (s : Same H H1) (r : Res H Q E o) : Res H1 Q E o := by
  cases o with
  | none => exact fun H' s' => r H' (s.trans s')
  | some e => exact Out.mono s r
def spIsInt (K : PySem.W.Frag) : Sp := fun vs H Q _ => ∃ (v : V) (l : Int), vs = [v, .int l] ∧ IsDat K H v ∧ Q (.bl (isGe v l)) H
def spUsers (K : PySem.W.Frag) (CU : Addr) : Sp := fun vs H Q E => ∃ (v : V) (m : Int), vs = [v, .int m] ∧ IsDat K H v ∧ Res H Q E (if usersOk v m = true then none else some (.e0 CU))
def spResid (CF : Addr) : Sp := fun vs H Q _ => ∃ (x q : Addr) (n : Int) (ts : List (Str × Str)) (kvs : List (Key × V)), vs = [.ref x, .int n, .ref q] ∧ FAt CF H x ts ∧ TreeOk ts ∧ H q = some (.dK kvs) ∧ (∀ a ∈ ts.map Prod.fst, valV kvs (Sum.inr a) = some (.int (szOf kvs a))) ∧
  ∀ p H', Same H H' → H p = none → H' p = some (.dK (tblI ("" :: ts.map Prod.fst) (resid ts n (szOf kvs)))) → Q (.ref p) H'
def spFeas (K : PySem.W.Frag) (CF CS : Addr) : Sp := fun vs H Q E => ∃ (x : Addr) (n : Int) (sv : V) (ts : List (Str × Str)) (o : Option (List (Key × V))), vs = [.ref x, .int n, sv] ∧ FAt CF H x ts ∧ TreeOk ts ∧ SzV K H sv o ∧ Res H Q E (feE CS ts n o)
def spNSizes (K : PySem.W.Frag) (CF CU CS : Addr) : Sp := fun vs H Q E => ∃ (x : Addr) (uv sv : V) (ts : List (Str × Str)) (o : Option (List (Key × V))), vs = [.ref x, uv, sv] ∧ FAt CF H x ts ∧ TreeOk ts ∧ IsDat K H uv ∧ SzV K H sv o ∧ Res H Q E (szE CU CS ts uv o)
end FT


namespace FT
open PySem L2 TL ClX
theorem feas_some (ts : List (Str × Str)) (n : Int) (kvs : List (Key × V)) : feas ts n (some kvs) = if kvs.length ≠ ts.length then some .non else if (ts.map Prod.fst).all (fun a => (valV kvs (Sum.inr a)).isSome) = false then some .non else
    match (ts.map Prod.fst).find? (badKey kvs) with
    | some a => some (.str a)
    | none => ((("" : Str) :: ts.map Prod.fst).find? fun p => decide (resid ts n (szOf kvs) p < 0)).map V.str := rfl
end FT


namespace FT
open PySem L2 TL ClX
def kvsOf (o : Option (List (Key × V))) : List (Key × V) := o.getD []
def numV (v : V) : Int := match v with
  | .int n => n
  | _ => 0
/-- what amounts raises -/
def amE (CU CS : Addr) (ts : List (Str × Str)) (uv : V) (o1 o2 : Option (List (Key × V))) : Option Err := (szE CU CS ts uv o1).or (feE CS ts (numV uv) o2)
def amt (o1 o2 : Option (List (Key × V))) (a : Str) : Int := szOf (kvsOf o2) a - szOf (kvsOf o1) a
def absI (z : Int) : Int := if z < 0 then -z else z
def spAmtOf (CF : Addr) : Sp := fun vs H Q _ => ∃ (x q1 q2 : Addr) (ts : List (Str × Str)) (k1 k2 : List (Key × V)), vs = [.ref x, .ref q1, .ref q2] ∧ FAt CF H x ts ∧ TreeOk ts ∧ H q1 = some (.dK k1) ∧ H q2 = some (.dK k2) ∧
  (∀ a ∈ ts.map Prod.fst, valV k1 (Sum.inr a) = some (.int (szOf k1 a))) ∧ (∀ a ∈ ts.map Prod.fst, valV k2 (Sum.inr a) = some (.int (szOf k2 a))) ∧
  ∀ p H', Same H H' → H p = none → H' p = some (.dK (tblI (ts.map Prod.fst) fun a => szOf k2 a - szOf k1 a)) → Q (.ref p) H'
def spAmounts (K : PySem.W.Frag) (CF CU CS : Addr) : Sp := fun vs H Q E => ∃ (x : Addr) (uv sv nv : V) (ts : List (Str × Str)) (o1 o2 : Option (List (Key × V))), vs = [.ref x, uv, sv, nv] ∧ FAt CF H x ts ∧ TreeOk ts ∧ IsDat K H uv ∧ SzV K H sv o1 ∧ SzV K H nv o2 ∧
  match amE CU CS ts uv o1 o2 with
  | none => ∀ p H', Same H H' → H p = none → H' p = some (.dK (tblI (ts.map Prod.fst) (amt o1 o2))) → Q (.ref p) H'
  | some e => Out H E e
def spLeast (K : PySem.W.Frag) (CF CU CS : Addr) : Sp := fun vs H Q E => ∃ (x : Addr) (uv sv nv : V) (ts : List (Str × Str)) (o1 o2 : Option (List (Key × V))), vs = [.ref x, uv, sv, nv] ∧ FAt CF H x ts ∧ TreeOk ts ∧ IsDat K H uv ∧ SzV K H sv o1 ∧ SzV K H nv o2 ∧
  match amE CU CS ts uv o1 o2 with
  | none => ∀ H', Same H H' → Q (.int ((ts.map Prod.fst).map fun a => absI (amt o1 o2 a)).sum) H'
  | some e => Out H E e
end FT


namespace FT
open PySem L2 TL ClX LiI
/-! ### crossings -/
def crs (g : Str → Int) (ts : List (Str × Str)) : List (Str × Str × Int) := ts.flatMap fun p => if 0 < g p.1 then [(p.2, p.1, g p.1)] else if g p.1 < 0 then [(p.1, p.2, - g p.1)] else []
def EdG (H : Hp) (rs : List Addr) (es : List (Str × Str × Int)) : Prop := Paired (fun (r : Addr) (e : Str × Str × Int) => H r = some (.tup [.str e.1, .str e.2.1, .int e.2.2])) rs es
theorem EdG.mono {H H' : Hp} (s : Same H H') : ∀ {rs : List Addr} {es : List (Str × Str × Int)}, EdG H rs es → EdG H' rs es
  | _, _, .nil => .nil
  | _, _, .cons h t => .cons (s _ _ h) (EdG.mono s t)
theorem EdG.push {H : Hp} {D : Addr} {xs : List V} {o : HO} (e : H D = some (.lst xs)) : ∀ {rs : List Addr} {es : List (Str × Str × Int)}, EdG H rs es → EdG (upd H D o) rs es
  | _, _, .nil => .nil
  | _, _, .cons h t => .cons (by rw [upd_ne (ne_of h e (by intro z; cases z))]; exact h) (EdG.push e t)
theorem EdG.len {H : Hp} : ∀ {rs : List Addr} {es : List (Str × Str × Int)}, EdG H rs es → rs.length = es.length
  | _, _, .nil => rfl
  | _, _, .cons _ t => congrArg (· + 1) (EdG.len t)
theorem EdG.at_ {H : Hp} {rs : List Addr} {es : List (Str × Str × Int)} (p : EdG H rs es) {i : Nat} {r : Addr} (h : rs[i]? = some r) : ∃ e, es[i]? = some e ∧ H r = some (.tup [.str e.1, .str e.2.1, .int e.2.2]) := LiI.paired_get p h
def spCross (CF : Addr) : Sp := fun vs H Q _ => ∃ (x q : Addr) (ts : List (Str × Str)) (g : Str → Int), vs = [.ref x, .ref q] ∧ FAt CF H x ts ∧ TreeOk ts ∧ H q = some (.dK (tblI (ts.map Prod.fst) g)) ∧
  ∀ p rs H', Same H H' → H p = none → H' p = some (.lst (rs.map V.ref)) → EdG H' rs (crs g ts) → Q (.ref p) H'
end FT


/-! plain: lists of users by place, how a change of sizes moves them, that the way back restores them. No program here. -/
namespace FT
open PySem L2 TL
/-! ### sums -/
theorem sum_map_add {α : Type} (f g : α → Int) : ∀ l : List α, (l.map fun x => f x + g x).sum = (l.map f).sum + (l.map g).sum
  | [] => rfl
  | a :: l => by
    rw [List.map_cons, List.map_cons, List.map_cons, List.sum_cons, List.sum_cons, List.sum_cons, sum_map_add f g l]
    omega
theorem sum_map_sub {α : Type} (f g : α → Int) : ∀ l : List α, (l.map fun x => f x - g x).sum = (l.map f).sum - (l.map g).sum
  | [] => rfl
  | a :: l => by
    rw [List.map_cons, List.map_cons, List.map_cons, List.sum_cons, List.sum_cons, List.sum_cons, sum_map_sub f g l]
    omega
theorem sum_map_mul {α : Type} (f : α → Int) (c : Int) : ∀ l : List α, (l.map fun x => c * f x).sum = c * (l.map f).sum
  | [] => by simp
  | a :: l => by
    rw [List.map_cons, List.map_cons, List.sum_cons, List.sum_cons, sum_map_mul f c l, Int.mul_add]
theorem sum_map_zero {α : Type} {f : α → Int} : ∀ {l : List α}, (∀ x ∈ l, f x = 0) → (l.map f).sum = 0
  | [], _ => rfl
  | a :: l, h => by
    rw [List.map_cons, List.sum_cons, h a (List.mem_cons_self ..), sum_map_zero fun x hx => h x (List.mem_cons_of_mem _ hx)]
    rfl
theorem sum_swap {α β : Type} (f : α → β → Int) (m : List β) : ∀ l : List α, (l.map fun x => (m.map fun y => f x y).sum).sum = (m.map fun y => (l.map fun x => f x y).sum).sum
  | [] => by
    rw [sum_map_zero (l := m) (f := fun y => (([] : List α).map fun x => f x y).sum) fun _ _ => rfl] <;> rfl
  | a :: l => by
    rw [List.map_cons, List.sum_cons, sum_swap f m l, ← sum_map_add] <;> rfl
theorem sum_one {α : Type} [DecidableEq α] {f : α → Int} {a : α} : ∀ {l : List α}, l.Nodup → (l.map fun x => if x = a then f x else 0).sum = if a ∈ l then f a else 0
  | [], _ => rfl
  | b :: l, nd => by
    obtain ⟨n1, n2⟩ := List.nodup_cons.mp nd
    rw [List.map_cons, List.sum_cons, sum_one n2]
    by_cases e : b = a
    · subst e
      rw [if_pos rfl, if_neg n1, if_pos (List.mem_cons_self ..)]
      omega
    · rw [if_neg e, Int.zero_add]
      by_cases m : a ∈ l
      · rw [if_pos m, if_pos (List.mem_cons_of_mem _ m)]
      · rw [if_neg m, if_neg fun z => (List.mem_cons.mp z).elim (fun z => e z.symm) m]
/-! ### places, neighbours -/
def pls (ts : List (Str × Str)) : List Str := "" :: ts.map Prod.fst
theorem pls_nd {ts : List (Str × Str)} (o : TreeOk ts) : (pls ts).Nodup := List.nodup_cons.mpr ⟨o.root, o.nd⟩
theorem mem_pls {ts : List (Str × Str)} {a : Str} : a ∈ pls ts ↔ Pl ts a := List.mem_cons
theorem kids_cons (q : Str × Str) (ts : List (Str × Str)) (p : Str) : kids (q :: ts) p = (if q.2 = p then [q.1] else []) ++ kids ts p := by
  unfold kids
  rw [List.filter_cons]
  by_cases e : q.2 = p
  · rw [if_pos e, if_pos (decide_eq_true e)] <;> rfl
  · rw [if_neg e, if_neg (by rw [decide_eq_false e]; decide)] <;> rfl
/-- a sum over the children of places is a sum over the flags -/
theorem kids_sum {F : List Str} (nd : F.Nodup) (f : Str → Str → Int) : ∀ ts : List (Str × Str), (F.map fun p => ((kids ts p).map fun k => f k p).sum).sum = (ts.map fun q => if q.2 ∈ F then f q.1 q.2 else 0).sum
  | [] => sum_map_zero fun _ _ => rfl
  | q :: ts => by
    rw [List.map_cons, List.sum_cons, ← kids_sum nd f ts]
    rw [show (F.map fun p => ((kids (q :: ts) p).map fun k => f k p).sum) = F.map fun p => (if p = q.2 then f q.1 p else 0) + ((kids ts p).map fun k => f k p).sum from List.map_congr_left fun p _ => ?_, sum_map_add, sum_one nd]
    rw [kids_cons, List.map_append, List.sum_append]
    by_cases e : q.2 = p
    · rw [if_pos e, if_pos e.symm]
      show f q.1 p + 0 + _ = _
      omega
    · rw [if_neg e, if_neg fun z => e z.symm] <;> rfl
theorem mem_kids {ts : List (Str × Str)} {k p : Str} : k ∈ kids ts p ↔ (k, p) ∈ ts := by
  unfold kids
  constructor
  · intro h
    obtain ⟨q, hq, e⟩ := List.mem_map.mp h
    obtain ⟨h1, h2⟩ := List.mem_filter.mp hq
    rw [← e, ← of_decide_eq_true h2]
    exact h1
  · exact fun h => List.mem_map.mpr ⟨_, List.mem_filter.mpr ⟨h, decide_eq_true rfl⟩, rfl⟩
theorem kid_par {ts : List (Str × Str)} (o : TreeOk ts) {k p : Str} : k ∈ kids ts p ↔ par ts k = some p := ⟨fun h => par_of o.nd (mem_kids.mp h), fun h => mem_kids.mpr (par_mem h)⟩
theorem kids_nd {ts : List (Str × Str)} (o : TreeOk ts) (p : Str) : (kids ts p).Nodup := o.nd.sublist ((List.filter_sublist (p := fun q : Str × Str => decide (q.2 = p)) (l := ts)).map Prod.fst)
theorem par_flag {ts : List (Str × Str)} {a z : Str} (h : par ts a = some z) : a ∈ ts.map Prod.fst := List.mem_map.mpr ⟨_, par_mem h, rfl⟩
theorem par_pl {ts : List (Str × Str)} (o : TreeOk ts) {a z : Str} (h : par ts a = some z) : Pl ts z := by
  obtain ⟨rk, r⟩ := o.up
  exact (r _ (par_mem h)).2.imp id And.left
theorem par_root {ts : List (Str × Str)} (o : TreeOk ts) : par ts "" = none := par_none o.root
/-- no flag is above its parent -/
theorem par_once {ts : List (Str × Str)} (o : TreeOk ts) {a b : Str} (h : par ts a = some b) (h2 : par ts b = some a) : False := by
  obtain ⟨rk, r⟩ := o.up
  have h3 := (r _ (par_mem h)).2
  have h4 := (r _ (par_mem h2)).2
  rcases h3 with e | ⟨_, h3⟩
  · have e : b = "" := e
    rw [e, par_root o] at h2
    cases h2
  · rcases h4 with e | ⟨_, h4⟩
    · have e : a = "" := e
      rw [e, par_root o] at h
      cases h
    · have h3 : rk b < rk a := h3
      have h4 : rk a < rk b := h4
      omega
/-- the other ends of the edges of a place -/
def adj (ts : List (Str × Str)) (p : Str) : List Str := (if p = "" then [] else [(par ts p).getD ""]) ++ kids ts p
/-! ### how many users cross an edge -/
def lv (ts : List (Str × Str)) (c : Str → Int) (p o : Str) : Nat := if par ts o = some p ∧ 0 < c o then (c o).toNat else if par ts p = some o ∧ c p < 0 then (- c p).toNat else 0
/-! ### an order of the places that all moves follow -/
def sg (z : Int) : Int := if 0 < z then 1 else if z < 0 then -1 else 0
def phi (ts : List (Str × Str)) (c : Str → Int) (p : Str) : Int := ((pathOf ts p).map fun x => sg (c x)).sum
def lvl (ts : List (Str × Str)) (c : Str → Int) (p : Str) : Nat := (phi ts c p + 12).toNat
/-! ### a change moves the lists -/
/-- groups that come to a place, in the order in which they are put behind its list -/
def ins (ts : List (Str × Str)) (G : Str → Str → List Int) (p : Str) : List Int := ((adj ts p).reverse.map fun o => G o p).flatten
/-- groups that leave a place -/
def outs (ts : List (Str × Str)) (G : Str → Str → List Int) (p : Str) : List Int := ((adj ts p).reverse.map fun o => G p o).flatten
def Moved (ts : List (Str × Str)) (c : Str → Int) (L L' : Str → List Int) : Prop := ∃ G : Str → Str → List Int, (∀ p, Pl ts p → ∀ o ∈ adj ts p, (G p o).length = lv ts c p o) ∧ ∀ p, Pl ts p → L p ++ ins ts G p = L' p ++ outs ts G p
theorem int_sum (l : List Nat) : ((l.sum : Nat) : Int) = (l.map fun x : Nat => (x : Int)).sum := by
  induction l with
  | nil => rfl
  | cons a l ih =>
    rw [List.sum_cons, List.map_cons, List.sum_cons, ← ih]
    omega
/-- the lengths are the residents -/
def Lens (ts : List (Str × Str)) (n : Int) (sz : Str → Int) (L : Str → List Int) : Prop := ∀ p, Pl ts p → ((L p).length : Int) = resid ts n sz p
end FT


/-! plain: sizes of lists; every user at one place; a user's way through the tree. -/
namespace FT
open PySem L2 TL
/-! ### sizes and lengths -/
def under (ts : List (Str × Str)) (a : Str) : List Str := (ts.map Prod.fst).filter fun b => decide (a ∈ pathOf ts b)
def lsz (ts : List (Str × Str)) (L : Str → List Int) (a : Str) : Int := ((under ts a).map fun b => ((L b).length : Int)).sum
theorem sum_filter {α : Type} (c : α → Bool) (f : α → Int) : ∀ l : List α, ((l.filter c).map f).sum = (l.map fun x => if c x = true then f x else 0).sum
  | [] => rfl
  | a :: l => by
    rw [List.filter_cons, List.map_cons, List.sum_cons, ← sum_filter c f l]
    by_cases e : c a = true
    · rw [if_pos e, if_pos e, List.map_cons, List.sum_cons]
    · rw [if_neg e, if_neg e, Int.zero_add]
/-- the paths' flags rank no higher -/
theorem path_rank {ts : List (Str × Str)} (o : TreeOk ts) {rk : Str → Nat} (r : Rk ts rk) : ∀ (n : Nat) (a : Str), Pl ts a → (a ≠ "" → rk a < n) → ∀ z ∈ pathOf ts a, rk z ≤ rk a := by
  intro n
  induction n with
  | zero =>
    intro a ha h z hz
    by_cases e : a = ""
    · subst e
      rw [path_root] at hz
      cases hz
    · exact absurd (h e) (Nat.not_lt_zero _)
  | succ n ih =>
    intro a ha h z hz
    by_cases e : a = ""
    · subst e
      rw [path_root] at hz
      cases hz
    · obtain ⟨p, ep, hp, _⟩ := o.step r (ha.resolve_left e)
      rw [path_step o (ha.resolve_left e) ep] at hz
      rcases List.mem_append.mp hz with hz | hz
      · have hh := h e
        rcases hp with e0 | ⟨hp, lt⟩
        · subst e0
          rw [path_root] at hz
          cases hz
        · have := ih p (.inr hp) (fun _ => by omega) z hz
          omega
      · rw [List.mem_singleton.mp hz]
        exact Nat.le_refl _
theorem not_above {ts : List (Str × Str)} (o : TreeOk ts) {a p : Str} (h : par ts a = some p) : a ∉ pathOf ts p := fun hm => by
  obtain ⟨rk, r⟩ := o.up
  have lt := (r _ (par_mem h)).2
  rcases lt with e | ⟨hp, lt⟩
  · have e : p = "" := e
    rw [e, path_root] at hm
    cases hm
  · have lt : rk p < rk a := lt
    have := path_rank o r (rk p + 1) p (.inr hp) (fun _ => Nat.lt_succ_self _) a hm
    omega
theorem path_nd {ts : List (Str × Str)} (o : TreeOk ts) {a : Str} (h : Pl ts a) : (pathOf ts a).Nodup := by
  obtain ⟨rk, r⟩ := o.up
  have key : ∀ (n : Nat) (a : Str), Pl ts a → (a ≠ "" → rk a < n) → (pathOf ts a).Nodup := by
    intro n
    induction n with
    | zero =>
      intro a ha h
      by_cases e : a = ""
      · subst e
        rw [path_root]
        exact List.nodup_nil
      · exact absurd (h e) (Nat.not_lt_zero _)
    | succ n ih =>
      intro a ha h
      by_cases e : a = ""
      · subst e
        rw [path_root]
        exact List.nodup_nil
      · obtain ⟨p, ep, hp, _⟩ := o.step r (ha.resolve_left e)
        rw [path_step o (ha.resolve_left e) ep]
        refine List.nodup_append.mpr ⟨ih p (hp.imp id And.left) (fun z => ?_), by simp, fun x hx y hy e => ?_⟩
        · have := (hp.resolve_left z).2
          have := h e
          omega
        · rw [List.mem_singleton.mp hy] at e
          subst e
          exact not_above o ep hx
  exact key (rk a + 1) a h fun _ => Nat.lt_succ_self _
def inP (ts : List (Str × Str)) (a x : Str) : Int := if a ∈ pathOf ts x then 1 else 0
theorem inP_step {ts : List (Str × Str)} (o : TreeOk ts) {x p : Str} (h : par ts x = some p) (a : Str) : inP ts a x = inP ts a p + if a = x then 1 else 0 := by
  unfold inP
  rw [path_step o (par_flag h) h]
  by_cases e : a = x
  · subst e
    rw [if_pos (List.mem_append_right _ (List.mem_singleton.mpr rfl)), if_neg (not_above o h), if_pos rfl] <;> rfl
  · rw [if_neg e]
    by_cases m : a ∈ pathOf ts p
    · rw [if_pos (List.mem_append_left _ m), if_pos m] <;> rfl
    · rw [if_neg (fun z => (List.mem_append.mp z).elim m fun z => e (List.mem_singleton.mp z)), if_neg m] <;> rfl
theorem inP_root (ts : List (Str × Str)) (a : Str) : inP ts a "" = 0 := by
  unfold inP
  rw [path_root]
  exact if_neg (by simp)
theorem lsz_inP (ts : List (Str × Str)) (L : Str → List Int) (a : Str) : lsz ts L a = ((ts.map Prod.fst).map fun b => inP ts a b * ((L b).length : Int)).sum := by
  unfold lsz under
  rw [sum_filter]
  congr 1
  refine List.map_congr_left fun b _ => ?_
  unfold inP
  by_cases m : a ∈ pathOf ts b
  · rw [if_pos (decide_eq_true m), if_pos m, Int.one_mul]
  · rw [if_neg (by rw [decide_eq_false m]; decide), if_neg m, Int.zero_mul]
/-- from lengths to sizes -/
theorem lens_lsz {ts : List (Str × Str)} (o : TreeOk ts) {n : Int} {sz : Str → Int} {L : Str → List Int} (h : Lens ts n sz L) {a : Str} (ha : a ∈ ts.map Prod.fst) : lsz ts L a = sz a := by
  rw [lsz_inP]
  have e1 : ((ts.map Prod.fst).map fun b => inP ts a b * ((L b).length : Int)) = (ts.map Prod.fst).map fun b => inP ts a b * sz b - ((kids ts b).map fun k => inP ts a b * sz k).sum := List.map_congr_left fun b hb => by
    have nb : b ≠ "" := fun z => o.root (by rw [← z]; exact hb)
    rw [h b (.inr hb), sum_map_mul, ← Int.mul_sub]
    unfold resid
    rw [if_neg nb]
  rw [e1, sum_map_sub, kids_sum o.nd (fun k b => inP ts a b * sz k), List.map_map, ← sum_map_sub]
  have e2 : (ts.map fun q => ((fun b => inP ts a b * sz b) ∘ Prod.fst) q - if q.2 ∈ ts.map Prod.fst then inP ts a q.2 * sz q.1 else 0) = ts.map fun q => if q.1 = a then sz q.1 else 0 := List.map_congr_left fun q hq => by
    have hp := par_of o.nd (show (q.1, q.2) ∈ ts from hq)
    show inP ts a q.1 * sz q.1 - _ = _
    have z : (if q.2 ∈ ts.map Prod.fst then inP ts a q.2 * sz q.1 else 0) = inP ts a q.2 * sz q.1 := by
      rcases par_pl o hp with e | m
      · rw [e, inP_root, Int.zero_mul]
        split <;> rfl
      · rw [if_pos m]
    rw [z, inP_step o hp, Int.add_mul]
    by_cases e : q.1 = a
    · rw [if_pos e.symm, if_pos e, Int.one_mul]
      omega
    · rw [if_neg (fun z => e z.symm), if_neg e, Int.zero_mul]
      omega
  rw [e2]
  have e3 := sum_one (f := sz) (a := a) o.nd
  rw [if_pos ha, List.map_map] at e3
  exact e3
/-- from sizes to lengths -/
theorem lsz_lens {ts : List (Str × Str)} (o : TreeOk ts) {n : Int} {L : Str → List Int} (h : ((pls ts).map fun p => ((L p).length : Int)).sum = n) : Lens ts n (lsz ts L) L := by
  intro p hp
  have co : ∀ (m : Nat) (rk : Str → Nat), Rk ts rk → ∀ x, Pl ts x → (x ≠ "" → rk x < m) → (if p = "" then 1 else inP ts p x) - ((kids ts p).map fun k => inP ts k x).sum = if x = p then 1 else 0 := by
    intro m rk r
    induction m with
    | zero =>
      intro x hx hm
      by_cases e : x = ""
      · subst e
        rw [sum_map_zero fun k _ => inP_root ts k, inP_root]
        by_cases z : p = ""
        · rw [if_pos z, if_pos z.symm] <;> rfl
        · rw [if_neg z, if_neg fun w => z w.symm] <;> rfl
      · exact absurd (hm e) (Nat.not_lt_zero _)
    | succ m ih =>
      intro x hx hm
      by_cases e : x = ""
      · subst e
        rw [sum_map_zero fun k _ => inP_root ts k, inP_root]
        by_cases z : p = ""
        · rw [if_pos z, if_pos z.symm] <;> rfl
        · rw [if_neg z, if_neg fun w => z w.symm] <;> rfl
      · obtain ⟨q, eq, hq, _⟩ := o.step r (hx.resolve_left e)
        have hh := hm e
        have i := ih q (hq.imp id And.left) fun z => by
          have := (hq.resolve_left z).2
          omega
        have ks : ((kids ts p).map fun k => inP ts k x).sum = ((kids ts p).map fun k => inP ts k q).sum + if q = p then 1 else 0 := by
          rw [List.map_congr_left (g := fun k => inP ts k q + if k = x then 1 else 0) fun k _ => inP_step o eq k, sum_map_add, sum_one (f := fun _ => 1) (kids_nd o p)]
          congr 1
          by_cases w : q = p
          · rw [if_pos w, if_pos ((kid_par o).mpr (by rw [← w]; exact eq))]
          · rw [if_neg w, if_neg fun z => w (Option.some.inj (eq.symm.trans ((kid_par o).mp z)))]
        rw [ks]
        by_cases z : p = ""
        · rw [if_pos z] at i ⊢
          have nx : ¬ x = p := fun w => e (w.trans z)
          rw [if_neg nx]
          omega
        · rw [if_neg z] at i ⊢
          rw [inP_step o eq p]
          by_cases w : x = p
          · rw [if_pos w, if_pos w.symm]
            omega
          · rw [if_neg w, if_neg fun v => w v.symm]
            omega
  obtain ⟨rk, r⟩ := o.up
  have co' : ∀ x ∈ pls ts, (if p = "" then 1 else inP ts p x) - ((kids ts p).map fun k => inP ts k x).sum = if x = p then 1 else 0 := fun x hx => co (rk x + 1) rk r x (mem_pls.mp hx) fun _ => Nat.lt_succ_self _
  -- sizes as sums over all places
  have sz_pls : ∀ a, lsz ts L a = ((pls ts).map fun x => inP ts a x * ((L x).length : Int)).sum := fun a => by
    rw [lsz_inP]
    unfold pls
    rw [List.map_cons, List.sum_cons, inP_root, Int.zero_mul, Int.zero_add]
  have u : (if p = "" then n else lsz ts L p) = ((pls ts).map fun x => (if p = "" then 1 else inP ts p x) * ((L x).length : Int)).sum := by
    by_cases z : p = ""
    · rw [if_pos z, ← h]
      congr 1
      refine List.map_congr_left fun x _ => ?_
      rw [if_pos z, Int.one_mul]
    · rw [if_neg z, sz_pls]
      congr 1
      refine List.map_congr_left fun x _ => ?_
      rw [if_neg z]
  unfold resid
  rw [u, List.map_congr_left (f := lsz ts L) (fun k _ => sz_pls k), sum_swap, ← sum_map_sub]
  have fin : ((pls ts).map fun x => (if p = "" then 1 else inP ts p x) * ((L x).length : Int) - ((kids ts p).map fun k => inP ts k x * ((L x).length : Int)).sum) = (pls ts).map fun x => if x = p then ((L x).length : Int) else 0 := List.map_congr_left fun x hx => by
    have c := co' x hx
    have mul : ((kids ts p).map fun k => inP ts k x * ((L x).length : Int)).sum = ((L x).length : Int) * ((kids ts p).map fun k => inP ts k x).sum := by
      rw [← sum_map_mul]
      congr 1
      exact List.map_congr_left fun k _ => Int.mul_comm _ _
    rw [mul, Int.mul_comm _ ((L x).length : Int), ← Int.mul_sub, c]
    by_cases w : x = p
    · rw [if_pos w, if_pos w, Int.mul_one]
    · rw [if_neg w, if_neg w, Int.mul_zero]
  rw [fin, sum_one (f := fun x => ((L x).length : Int)) (pls_nd o), if_pos (mem_pls.mpr hp)]
/-! ### every user at one place -/
def usr (n : Nat) : List Int := (List.range n).map fun k : Nat => (k : Int)
theorem usr_nd (n : Nat) : (usr n).Nodup := by
  unfold usr
  refine List.nodup_iff_pairwise_ne.mpr (List.pairwise_map.mpr ((List.nodup_iff_pairwise_ne.mp List.nodup_range).imp fun h e => h ?_))
  omega
theorem mem_usr {n : Nat} {u : Int} : u ∈ usr n ↔ 0 ≤ u ∧ u < n := by
  unfold usr
  rw [List.mem_map]
  constructor
  · rintro ⟨k, hk, rfl⟩
    have := List.mem_range.mp hk
    omega
  · rintro ⟨h1, h2⟩
    exact ⟨u.toNat, List.mem_range.mpr (by omega), by omega⟩
def Val (ts : List (Str × Str)) (n : Nat) (L : Str → List Int) : Prop := ((pls ts).flatMap L).Perm (usr n)
theorem val_len {ts : List (Str × Str)} {n : Nat} {L : Str → List Int} (h : Val ts n L) : ((pls ts).map fun p => ((L p).length : Int)).sum = n := by
  have e := h.length_eq
  rw [List.length_flatMap] at e
  unfold usr at e
  rw [List.length_map, List.length_range] at e
  rw [← e, int_sum, List.map_map] <;> rfl
/-- the place of a user -/
def plOf (ts : List (Str × Str)) (L : Str → List Int) (u : Int) : Str := ((pls ts).find? fun p => decide (u ∈ L p)).getD ""
/-! ### a user's way -/
inductive Rc (ts : List (Str × Str)) (c : Str → Int) (p : Str) : Str → Prop where
  | refl : Rc ts c p p
  | step {q x : Str} : Rc ts c p q → 0 < lv ts c q x → Rc ts c p x
end FT


/-! lists of pairs of a text and a value; dict(..) of them. -/
namespace FT
open PySem L2 TL ClX
/-- pairs (a, g a) at the addresses rs -/
def PrG (g : Str → V) (H : Hp) (rs : List Addr) (l : List Str) : Prop := Paired (fun (r : Addr) (a : Str) => H r = some (.tup [.str a, g a])) rs l
theorem PrG.imp {g : Str → V} {H H' : Hp} (m : ∀ r (a : Str), H r = some (.tup [.str a, g a]) → H' r = some (.tup [.str a, g a])) : ∀ {rs : List Addr} {l : List Str}, PrG g H rs l → PrG g H' rs l
  | _, _, .nil => .nil
  | _, _, .cons h t => .cons (m _ _ h) (PrG.imp m t)
theorem PrG.mono {g : Str → V} {H H' : Hp} {rs : List Addr} {l : List Str} (s : Same H H') (p : PrG g H rs l) : PrG g H' rs l := p.imp fun r a e => s _ _ e
theorem PrG.push {g : Str → V} {H : Hp} {rs : List Addr} {l : List Str} {D : Addr} {xs : List V} {o : HO} (e : H D = some (.lst xs)) (p : PrG g H rs l) : PrG g (upd H D o) rs l := p.imp fun r a q => by
  rw [upd_ne (ne_of q e (by intro z; cases z))]
  exact q
theorem PrG.len {g : Str → V} {H : Hp} : ∀ {rs : List Addr} {l : List Str}, PrG g H rs l → rs.length = l.length
  | _, _, .nil => rfl
  | _, _, .cons _ t => congrArg (· + 1) (PrG.len t)
theorem PrG.at_ {g : Str → V} {H : Hp} {rs : List Addr} {l : List Str} (p : PrG g H rs l) {i : Nat} {r : Addr} (h : rs[i]? = some r) : ∃ a, l[i]? = some a ∧ H r = some (.tup [.str a, g a]) := LiI.paired_get p h
/-- as dict(..) asks it -/
theorem PrG.kvs {K : PySem.W.Frag} {g : Str → V} {H : Hp} : ∀ {rs : List Addr} {l : List Str}, PrG g H rs l → Paired (fun (p : Addr) (kv : Key × V) => SqT K H p [kV kv.1, kv.2]) rs (kvT (l.map fun a => (a, g a)))
  | _, _, .nil => .nil
  | _, _, .cons h t => .cons (.inl (.inl h)) (PrG.kvs t)
theorem merge_app : ∀ (more : List (Str × V)) (acc : List (Str × V)), ((acc ++ more).map Prod.fst).Nodup → mergeK (kvT acc) (kvT more) = kvT (acc ++ more)
  | [], acc, _ => by rw [List.append_nil] <;> rfl
  | p :: more, acc, nd => by
    have e : acc ++ p :: more = (acc ++ [p]) ++ more := by rw [List.append_assoc] <;> rfl
    have fresh : p.1 ∉ acc.map Prod.fst := fun h => by
      rw [List.map_append] at nd
      obtain ⟨_, _, d⟩ := List.nodup_append.mp nd
      exact d _ h _ (List.mem_cons_self ..) rfl
    show mergeK (putK (kvT acc) (Sum.inr p.1) p.2) (kvT more) = _
    rw [kvT_put fresh, e]
    rw [e] at nd
    exact merge_app more _ nd
theorem merge_nd {l : List (Str × V)} (nd : (l.map Prod.fst).Nodup) : mergeK [] (kvT l) = kvT l := merge_app l [] nd
theorem map_fst (l : List Str) (g : Str → V) : (l.map fun a => (a, g a)).map Prod.fst = l := by rw [List.map_map]; exact List.map_id _
/-- the place of an item -/
theorem idx_at {l : List Str} {i : Nat} {a : Str} (nd : l.Nodup) (h : l[i]? = some a) : l.idxOf a = i := by
  have m : a ∈ l := List.mem_of_getElem? h
  have lt := List.idxOf_lt_length_of_mem m
  have e : l[l.idxOf a]? = some a := by rw [List.getElem?_eq_getElem lt, List.getElem_idxOf lt]
  exact (List.getElem?_inj lt nd).mp (e.trans h.symm)
/-- a tree from the order of its making -/
theorem tree_of {t : List (Str × Str)} (h1 : 1 ≤ t.length) (h2 : t.length ≤ 12) (nd : (t.map Prod.fst).Nodup) (nm : ∀ z ∈ t.map Prod.fst, NameL z) (up : ∀ (i : Nat) (p : Str × Str), t[i]? = some p → p.2 = "" ∨ p.2 ∈ (t.map Prod.fst).take i) : TreeOk t := by
  refine ⟨h1, h2, nd, nm, fun a => (t.map Prod.fst).idxOf a, fun p hp => ?_⟩
  obtain ⟨i, hi⟩ := List.mem_iff_getElem?.mp hp
  have il := (List.getElem?_eq_some_iff.mp hi).1
  have hk : (t.map Prod.fst)[i]? = some p.1 := by rw [List.getElem?_map, hi] <;> rfl
  refine ⟨by show (t.map Prod.fst).idxOf p.1 < _; rw [idx_at nd hk]; exact il, (up i p hi).imp id fun m => ⟨List.mem_of_mem_take m, ?_⟩⟩
  show (t.map Prod.fst).idxOf p.2 < (t.map Prod.fst).idxOf p.1
  rw [idx_at nd hk]
  obtain ⟨j, hj⟩ := List.mem_iff_getElem?.mp m
  have jl := (List.getElem?_eq_some_iff.mp hj).1
  rw [List.length_take] at jl
  rw [List.getElem?_take, if_pos (by omega)] at hj
  rw [idx_at nd hj]
  omega
end FT


/-! dicts from texts to any values; lists by place in the heap. -/
namespace FT
open PySem L2 TL ClX
def tblV (l : List Str) (g : Str → V) : List (Key × V) := kvT (l.map fun a => (a, g a))
theorem tblV_val {l : List Str} {g : Str → V} {a : Str} (h : a ∈ l) : valV (tblV l g) (Sum.inr a) = some (g a) := by
  unfold tblV
  rw [kvT_val]
  induction l with
  | nil => cases h
  | cons b l ih =>
    rw [List.map_cons, look_cons]
    by_cases e : b = a
    · subst e
      exact if_pos rfl
    · rw [if_neg e]
      exact ih ((List.mem_cons.mp h).resolve_left fun z => e z.symm)
/-- lists by place: the dict at q, the list of p at r p -/
def LsAt (H : Hp) (q : Addr) (l : List Str) (r : Str → Addr) (L : Str → List Int) : Prop := H q = some (.dK (tblV l fun p => .ref (r p))) ∧ ∀ p ∈ l, H (r p) = some (.lst ((L p).map V.int))
theorem LsAt.mono {H H' : Hp} {q : Addr} {l : List Str} {r : Str → Addr} {L : Str → List Int} (s : Same H H') (h : LsAt H q l r L) : LsAt H' q l r L := ⟨s _ _ h.1, fun p hp => s _ _ (h.2 p hp)⟩
theorem LsAt.congr {H : Hp} {q : Addr} {l : List Str} {r : Str → Addr} {L L' : Str → List Int} (h : LsAt H q l r L) (e : ∀ p ∈ l, L p = L' p) : LsAt H q l r L' := ⟨h.1, fun p hp => by rw [h.2 p hp, e p hp]⟩
theorem LsAt.get {H : Hp} {q : Addr} {l : List Str} {r : Str → Addr} {L : Str → List Int} (h : LsAt H q l r L) {p : Str} (hp : p ∈ l) : DGet H q (.str p) (some (.ref (r p))) := by
  have z := DGet.k (k := Sum.inr p) h.1
  rw [tblV_val hp] at z
  exact z
end FT


/-! sums -/
namespace FT
open PySem
theorem pair_lenZ {α β : Type} {F : α → β → Prop} : ∀ {xs : List α} {ys : List β}, Paired F xs ys → xs.length = ys.length
  | _, _, .nil => rfl
  | _, _, .cons _ t => congrArg (· + 1) (pair_lenZ t)
theorem filter_more {c : Str → Bool} {l : List Str} {i : Nat} {a : Str} (h : l[i]? = some a) : (l.take (i + 1)).filter c = (l.take i).filter c ++ if c a = true then [a] else [] := by
  rw [take_more h, List.filter_append, List.filter_cons, List.filter_nil]
end FT


/-! a parent read from a forest's dict -/
namespace FT
open PySem L2 TL ClX
theorem Rd.same {H H' : Hp} {a : Addr} {u : HO} (s : Same H H') (h : Rd H a u) : Rd H' a u := h.imp (fun e => s _ _ e) fun ⟨o, e⟩ => ⟨o, s _ _ e⟩
theorem dget_prs {H : Hp} {q : Addr} {ts : List (Str × Str)} {a p : Str} (h : Rd H q (.dK (prs ts))) (e : par ts a = some p) : DGet H q (.str a) (some (.str p)) := .inl ⟨prs ts, Sum.inr a, h, rfl, by rw [val_prs, e] <;> rfl⟩
end FT


/-! path_in, need_place, Forest.under, edges_at -/
namespace FT
open PySem L2 TL ClX
def spPathIn : Sp := fun vs H Q _ => ∃ (q : Addr) (ts : List (Str × Str)) (a : Str), vs = [.ref q, .str a] ∧ Rd H q (.dK (prs ts)) ∧ TreeOk ts ∧ Pl ts a ∧ ∀ p H', Same H H' → H p = none → H' p = some (.tup ((pathOf ts a).map V.str)) → Q (.ref p) H'
def spNeedPl (CF : Addr) : Sp := fun vs H Q _ => ∃ (x : Addr) (ts : List (Str × Str)) (a : Str), vs = [.ref x, .str a] ∧ FAt CF H x ts ∧ TreeOk ts ∧ Pl ts a ∧ Q .non H
def spEdgesAt (CF : Addr) : Sp := fun vs H Q _ => ∃ (x : Addr) (ts : List (Str × Str)) (a : Str), vs = [.ref x, .str a] ∧ FAt CF H x ts ∧ TreeOk ts ∧ Pl ts a ∧ ∀ p H', Same H H' → H p = none → H' p = some (.lst ((adj ts a).map V.str)) → Q (.ref p) H'
def pathLen (ts : List (Str × Str)) (σ : St) : Nat := match σ[1]? with
  | some (some (V.str a)) => (pathOf ts a).length
  | _ => 0
section
variable {P : Program} {w : World} {K : PySem.W.Frag} {mg : Str → Option Value} {base : Heap}
abbrev NPi : List Str := ["above", "place", "path"]
theorem scPi : FnScope NPi ["above", "place"] (defScope s_path_in) := ⟨rfl, rfl, rfl, by decide +kernel, rfl, by decide +kernel, by decide +kernel⟩
theorem ok_pathIn {f : Addr} {fd : FuncData} (F : Fun K "path_in" "path_in" s_path_in f fd) (T : Nm mg) : FnOk P w K mg base CX0 1 f fd ["above", "place"] spPathIn := by
  refine F.ok scPi (fun vs H Q E h => ?_) (fun cdv A outer s H vs Q E hr h => ?_)
  · obtain ⟨q, ts, a, rfl, _⟩ := h
    rfl
  · obtain ⟨q, ts, a0, rfl, hq, o, pl0, k⟩ := h
    have hu := hu_of hr
    have nd := scPi.nd
    have big : 1000 ≤ sizeLine := by decide
    have few := o.few
    refine ⟨_, pss_cons (ps_set (i := 2) nd rfl (.inl rfl) (pe_lst pa_nil))
      (pss_cons (ps_while PassesOwn.never (pt_cmpR op_ne (pv 1) pe_str (nomark _))
        (pss_cons (ps_expr (pe_bm PySem.F.plainAttrs_list PySem.F.slot_list_append PySem.F.type_list_append mt_append (pv 2) (pa_cons (pv 1) pa_nil)))
        (pss_one (ps_set (i := 1) nd rfl (.inl rfl) (pe_dget hu (pv 0) (pv 1) (fun _ _ => rfl))))))
      (pss_one (ps_ret (pe_tupleOf (by rfl) T.tup (pe_revL (pv 2)))))), ?_⟩
    refine ⟨by show 0 ≤ sizeLine; omega, fun l nl => ?_⟩
    refine while_by (fun σ H' => ∃ (a : Str) (ws : List Str), σ = [some (.ref q), some (.str a), some (.ref l)] ∧ H' l = some (.lst (ws.map V.str)) ∧ Same H H' ∧ Pl ts a ∧ pathOf ts a0 = pathOf ts a ++ ws.reverse) (fun σ _ => pathLen ts σ)
      ⟨a0, [], rfl, upd_same, same_new nl, pl0, by rw [List.reverse_nil, List.append_nil]⟩ ?_ ?_
    · rintro σ Hx ⟨a, ws, rfl, hl, sm, pl, ep⟩
      have len := congrArg List.length ep
      have le := path_len ts a0
      rw [List.length_append, List.length_reverse] at len
      refine ⟨_, rfl, rfl, _, rfl, ?_⟩
      by_cases e : a = ""
      · rw [decide_eq_true (show V.str a = V.str "" by rw [e])]
        refine iteF ?_
        rw [e, path_root, List.nil_append] at ep
        refine ⟨_, rfl, l, _, rfl, SqL.of hl, fun p1 n1 => .inl ⟨p1, _, rfl, SqL.of upd_same, fun p2 n2 => ?_⟩⟩
        refine k p2 _ ((sm.trans (same_new n1)).trans (same_new n2)) ((sm.trans (same_new n1)).free n2) ?_
        rw [upd_same, ep, List.map_reverse]
      · rw [decide_eq_false (show ¬ V.str a = V.str "" from fun z => e (V.str.inj z))]
        show if true = true then _ else _
        rw [if_pos rfl]
        have fl := pl.resolve_left e
        obtain ⟨pa, hp⟩ := par_some o.nd fl
        have st := path_step o fl hp
        refine ⟨_, rfl, .inl ⟨rfl, _, SqL.of hl⟩, _, rfl, l, _, _, rfl, rfl, hl, by rw [List.length_map]; omega, ?_⟩
        refine ⟨_, rfl, _, rfl, q, V.str pa, rfl, dget_prs ?_ hp, ?_⟩
        · have ql : q ≠ l := by
            intro z
            rcases hq with hq | ⟨oo, hq⟩ <;> (rw [z, nl] at hq; cases hq)
          have hq' := Rd.same sm hq
          rcases hq' with h | ⟨oo, h⟩
          · exact .inl (by rw [upd_ne ql]; exact h)
          · exact .inr ⟨oo, by rw [upd_ne ql]; exact h⟩
        · refine ⟨⟨pa, ws ++ [a], rfl, by rw [upd_same, List.map_append] <;> rfl, sm.put nl, par_pl o hp, ?_⟩, ?_⟩
          · rw [ep, st, List.reverse_append, List.append_assoc] <;> rfl
          · show (pathOf ts pa).length < (pathOf ts a).length
            rw [st, List.length_append]
            exact Nat.lt_succ_self _
    · exact fun σ H Q Q' hm ⟨v, e, e2, b, eb, z⟩ => ⟨v, e, e2, b, eb, hm _ _ z⟩
abbrev NNp : List Str := ["forest", "place"]
theorem scNp : FnScope NNp ["forest", "place"] (defScope s_need_place) := ⟨rfl, rfl, rfl, by decide +kernel, rfl, by decide +kernel, by decide +kernel⟩
theorem ok_needPl {f CF : Addr} {mc : Value} {fd : FuncData} (F : Fun K "need_place" "need_place" s_need_place f fd) (T : Nm mg) (O : FoC K CF) (Z : Fc K mg CF mc) : FnOk P w K mg base CX0 1 f fd ["forest", "place"] (spNeedPl CF) := by
  obtain ⟨ur, cr⟩ := Z.root
  refine F.ok scNp (fun vs H Q E h => ?_) (fun cdv A outer s H vs Q E hr h => ?_)
  · obtain ⟨x, ts, a, rfl, _⟩ := h
    rfl
  · obtain ⟨x, ts, a, rfl, fa, o, pl, k⟩ := h
    have hu := hu_of hr
    refine ⟨_, pss_one (ps_if (PW.pt (pw_or (pt_not (pt_val (pe_callB call_isi (by rfl) T.isi (by decide +kernel) (pa_cons (pv 1) (pa_cons (pe_bltn (v := .ty "str") (u := .type "str") (by rfl) T.str (by decide +kernel) rfl) pa_nil)))))
          (pw_or1 (PW.pt (pw_and (pt_cmpR op_ne (pv 1) (pe_cval (pe_glob (v := .ref CF) (by rfl) Z.gF rfl)) (nomark _)) (pw_and1 (pt_cmp (pc_dnotin hu (pv 1) (pe_fld (pv 0) rfl))))))))) pss_never pss_nil), ?_⟩
    obtain ⟨dx, dq, hx, hd⟩ := id fa
    refine ⟨_, rfl, .str a, _, _, _, true, rfl, .ty _, .base (.str a), kit_ty (by decide +kernel), true, rfl, ?_⟩
    refine iteF ?_
    refine ⟨_, rfl, CF, mc, _, ur, rfl, Z.rd, cr, rfl, _, rfl, ?_⟩
    by_cases e : a = ""
    · rw [decide_eq_true (show V.str a = V.str "" by rw [e])]
      refine iteF ?_
      exact iteF k
    · rw [decide_eq_false (show ¬ V.str a = V.str "" from fun z => e (V.str.inj z))]
      show if true = true then _ else _
      rw [if_pos rfl]
      obtain ⟨pa, hp⟩ := par_some o.nd (pl.resolve_left e)
      refine ⟨_, rfl, _, rfl, x, CF, dx, _, .ref dq, rfl, hx, O.cl, O.nA, rfl, dq, _, rfl, dget_prs (.inl hd) hp, _, rfl, ?_⟩
      exact iteF k
end
end FT


/-! the law's own paths as lists, upwards -/
namespace FT
open PySem L2 TL ClX LiI
def rankL (t : List (Str × Str)) (rk : Str → Nat) (σ : St) : Nat := match σ[1]? with
  | some (some (V.str a)) => if a ∈ t.map Prod.fst then rk a + 1 else 0
  | _ => 0
def spPathL : Sp := fun vs H Q _ => ∃ (q : Addr) (a : Str) (t : List (Str × Str)), vs = [.ref q, .str a] ∧ Rd H q (.dK (prs t)) ∧ TreeOk t ∧ Pl t a ∧ ∀ p H', Same H H' → H p = none → H' p = some (.lst ((pathOf t a).reverse.map V.str)) → Q (.ref p) H'
section
variable {P : Program} {w : World} {K : PySem.W.Frag} {mg : Str → Option Value} {base : Heap}
abbrev NPl : List Str := ["_law_parents", "_law_place", "_law_found"]
theorem scPl : FnScope NPl ["_law_parents", "_law_place"] (defScope s__law_path) := ⟨rfl, rfl, rfl, by decide +kernel, rfl, by decide +kernel, by decide +kernel⟩
theorem ok_pathL {f : Addr} {fd : FuncData} (F : Fun K "_law_path" "_law_path" s__law_path f fd) : FnOk P w K mg base CX0 1 f fd ["_law_parents", "_law_place"] spPathL := by
  refine F.ok scPl (fun vs H Q E h => ?_) (fun cdv A outer s H vs Q E hr h => ?_)
  · obtain ⟨q, a, t, rfl, _⟩ := h
    rfl
  · obtain ⟨q, a, t, rfl, hq, o, pl, k⟩ := h
    have hu := hu_of hr
    obtain ⟨rk, r⟩ := o.up
    refine ⟨_, pss_cons (ps_set (i := 2) scPl.nd rfl (.inl rfl) (pe_lst pa_nil))
      (pss_cons (ps_while PassesOwn.never (pt_cmpR op_ne (pv 1) pe_str (nomark _))
        (pss_cons (ps_expr (pe_bm PySem.F.plainAttrs_list PySem.F.slot_list_append PySem.F.type_list_append mt_append (pv 2) (pa_cons (pv 1) pa_nil)))
        (pss_one (ps_set (i := 1) scPl.nd rfl (.inl rfl) (pe_dget hu (pv 0) (pv 1) (fun _ _ => rfl))))))
      (pss_one (ps_ret (pv 2)))), ?_⟩
    have big : 1000 ≤ sizeLine := by decide
    have few := o.few
    have rdm : ∀ {H'}, Same H H' → Rd H' q (.dK (prs t)) := fun s => hq.imp (s _ _) fun ⟨ob, e⟩ => ⟨ob, s _ _ e⟩
    refine ⟨by show 0 ≤ sizeLine; omega, fun p0 n0 => ?_⟩
    refine while_by (fun σ H' => ∃ (x : Str) (ws : List Str), σ = [some (.ref q), some (.str x), some (.ref p0)] ∧ Same H H' ∧ H' p0 = some (.lst (ws.map V.str)) ∧ Pl t x ∧ pathOf t a = pathOf t x ++ ws.reverse)
      (fun σ _ => rankL t rk σ) ⟨a, [], rfl, same_new n0, upd_same, pl, by rw [List.reverse_nil, List.append_nil]⟩ ?_ ?_
    · rintro σ H1 ⟨x, ws, rfl, s1, aw, px, epath⟩
      refine ⟨_, rfl, rfl, _, rfl, ?_⟩
      have lws : ws.length ≤ 12 := by
        have z := congrArg List.length epath
        rw [List.length_append, List.length_reverse] at z
        have := path_len t a
        omega
      by_cases e : x = ""
      · rw [decide_eq_true (show V.str x = V.str "" by rw [e])]
        refine iteF ?_
        rw [e, path_root, List.nil_append] at epath
        exact ⟨_, rfl, k p0 H1 s1 n0 (by rw [epath, List.reverse_reverse]; exact aw)⟩
      · rw [decide_eq_false (show ¬ V.str x = V.str "" from fun z => e (V.str.inj z))]
        show if true = true then _ else _
        rw [if_pos rfl]
        have mx := px.resolve_left e
        obtain ⟨pa, ep, hpa, lx⟩ := o.step r mx
        refine ⟨_, rfl, .inl ⟨rfl, _, SqL.of aw⟩, _, rfl, p0, _, _, rfl, rfl, aw, by rw [List.length_map]; omega, ?_⟩
        obtain ⟨H2, e2⟩ : ∃ X, X = upd H1 p0 (.lst (ws.map V.str ++ [V.str x])) := ⟨_, rfl⟩
        have s2 : Same H H2 := e2 ▸ s1.put n0
        rw [← e2]
        have dg : DGet H2 q (.str x) (some (.str pa)) := .inl ⟨_, Sum.inr x, rdm s2, rfl, by rw [val_prs, ep] <;> rfl⟩
        refine ⟨_, rfl, _, rfl, q, .str pa, rfl, dg, ⟨pa, ws ++ [x], rfl, s2, by rw [e2, upd_same, List.map_append] <;> rfl, hpa.imp id And.left, by rw [epath, path_step o mx ep, List.reverse_append, List.append_assoc] <;> rfl⟩, ?_⟩
        show (if pa ∈ t.map Prod.fst then rk pa + 1 else 0) < (if x ∈ t.map Prod.fst then rk x + 1 else 0)
        rw [if_pos mx]
        split
        · rename_i m
          have := (hpa.resolve_left fun z => o.root (by rw [← z]; exact m)).2
          omega
        · omega
    · exact fun σ H Q Q' hm ⟨v, e, z, b, eb, q⟩ => ⟨v, e, z, b, eb, hm _ _ q⟩
end
end FT


/-! methods and properties, as a whole -/
namespace FT
open PySem L2 TL ClX
/-- a method of a class, as a whole -/
structure Mt (P : Program) (w : World) (K : PySem.W.Frag) (mg : Str → Option Value) (base : Heap) (CX : CXT) (k : Nat) (C : Addr) (m : Str) (ps : List Str) (sp : Sp) (f : Addr) (fd : FuncData) : Prop where
  mt : Meth K C m f
  fn : FnOk P w K mg base CX k f fd ps sp
  bn : Binds K fd ps []
/-- a property, at any level -/
structure PrN (P : Program) (w : World) (K : PySem.W.Frag) (mg : Str → Option Value) (base : Heap) (k : Nat) (C : Addr) (x : Str) (sp : Sp) (p g : Addr) (fd : FuncData) : Prop where
  pr : PropOf K C x p g
  fn : FnOk P w K mg base CX0 k g fd ["self"] sp
  bn : Binds K fd ["self"] []
end FT


/-! Assignment: made of valid places; its places -/
namespace FT
open PySem L2 TL ClX
/-- the class Assignment -/
structure Ac (K : PySem.W.Frag) (mg : Str → Option Value) (CA : Addr) (mc : Value) : Prop where
  gA : mg "Assignment" = some (.ref CA)
  rd : CRead K CA mc
  most : ∃ u, CVal K CA mc "MOST" (.int 60) u
  cl : Cls K CA
  nF : NoAttr K CA "own_forest"
  nP : NoAttr K CA "own_places"
/-- an assignment at y: its forest, its places -/
def AAt (CA : Addr) (H : Hp) (y x : Addr) (zs : List Str) : Prop := ∃ dy p, H y = some (.ins CA dy [("own_forest", .ref x), ("own_places", .ref p)]) ∧ H p = some (.lst (zs.map V.str))
theorem AAt.mono {CA y x : Addr} {H H' : Hp} {zs : List Str} (s : Same H H') (h : AAt CA H y x zs) : AAt CA H' y x zs := let ⟨dy, p, e1, e2⟩ := h; ⟨dy, p, s _ _ e1, s _ _ e2⟩
def spAInit (CF CA : Addr) : Sp := fun vs H Q _ => ∃ (y x l dy : Addr) (ts : List (Str × Str)) (zs : List Str), vs = [.ref y, .ref x, .ref l] ∧ H y = some (.ins CA dy []) ∧ FAt CF H x ts ∧ TreeOk ts ∧ H l = some (.lst (zs.map V.str)) ∧ 1 ≤ zs.length ∧ zs.length ≤ 60 ∧ (∀ z ∈ zs, Pl ts z) ∧
  ∀ H', AAt CA H' y x zs → (∀ b o, b ≠ y → H b = some o → H' b = some o) → Q .non H'
def spAPlaces (CA : Addr) : Sp := fun vs H Q _ => ∃ (y x : Addr) (zs : List Str), vs = [.ref y] ∧ AAt CA H y x zs ∧ ∀ p, H p = none → Q (.ref p) (upd H p (.lst (zs.map V.str)))
section
variable {P : Program} {w : World} {K : PySem.W.Frag} {mg : Str → Option Value} {base : Heap}
end
end FT


/-! Assignment: forest, total, sizes, users_of, at -/
namespace FT
open PySem L2 TL ClX LiI
/-- the numbers below n with a mark -/
def selU (n : Nat) (c : Nat → Bool) : List Int := ((List.range n).filter c).map fun i : Nat => (i : Int)
theorem selU_zero (c : Nat → Bool) : selU 0 c = [] := rfl
theorem selU_more (n : Nat) (c : Nat → Bool) : selU (n + 1) c = selU n c ++ if c n = true then [(n : Int)] else [] := by
  unfold selU
  rw [List.range_succ, List.filter_append, List.map_append]
  by_cases h : c n = true
  · rw [if_pos h, List.filter_cons, if_pos h] <;> rfl
  · rw [if_neg h, List.filter_cons, if_neg h] <;> rfl
theorem mem_selU {n : Nat} {c : Nat → Bool} {u : Int} : u ∈ selU n c ↔ ∃ i : Nat, u = i ∧ i < n ∧ c i = true := by
  unfold selU
  rw [List.mem_map]
  constructor
  · rintro ⟨i, hi, rfl⟩
    obtain ⟨h1, h2⟩ := List.mem_filter.mp hi
    exact ⟨i, rfl, List.mem_range.mp h1, h2⟩
  · rintro ⟨i, rfl, h1, h2⟩
    exact ⟨i, List.mem_filter.mpr ⟨List.mem_range.mpr h1, h2⟩, rfl⟩
def atC (zs : List Str) (p : Str) (i : Nat) : Bool := decide (zs[i]? = some p)
def hasC (ts : List (Str × Str)) (zs : List Str) (a : Str) (i : Nat) : Bool := match zs[i]? with
  | some z => decide (a ∈ pathOf ts z)
  | none => false
/-- the users at a place; those that have a flag; how many -/
def atU (zs : List Str) (p : Str) : List Int := selU zs.length (atC zs p)
def hasU (ts : List (Str × Str)) (zs : List Str) (a : Str) : List Int := selU zs.length (hasC ts zs a)
def szZ (ts : List (Str × Str)) (zs : List Str) (a : Str) : Int := ((zs.filter fun z => decide (a ∈ pathOf ts z)).length : Int)
theorem szZ_more {ts : List (Str × Str)} {zs : List Str} {z a : Str} {j : Nat} (h : zs[j]? = some z) : szZ ts (zs.take (j + 1)) a = szZ ts (zs.take j) a + if a ∈ pathOf ts z then 1 else 0 := by
  unfold szZ
  rw [take_more h, List.filter_append, List.length_append]
  by_cases m : a ∈ pathOf ts z
  · rw [if_pos m, List.filter_cons, if_pos (decide_eq_true m)] <;> rfl
  · rw [if_neg m, List.filter_cons, if_neg (by rw [decide_eq_false m]; decide)] <;> rfl
def spAForest (CA : Addr) : Sp := fun vs H Q _ => ∃ (y x : Addr) (zs : List Str), vs = [.ref y] ∧ AAt CA H y x zs ∧ Q (.ref x) H
def spATotal (CA : Addr) : Sp := fun vs H Q _ => ∃ (y x : Addr) (zs : List Str), vs = [.ref y] ∧ AAt CA H y x zs ∧ Q (.int (zs.length : Int)) H
def spSizesOf (CF : Addr) : Sp := fun vs H Q _ => ∃ (x l : Addr) (ts : List (Str × Str)) (zs : List Str), vs = [.ref x, .ref l] ∧ FAt CF H x ts ∧ TreeOk ts ∧ H l = some (.lst (zs.map V.str)) ∧ (∀ z ∈ zs, Pl ts z) ∧
  ∀ (p : Addr) (H' : Hp), Same H H' → H p = none → H' p = some (.dK (tblI (ts.map Prod.fst) (szZ ts zs))) → Q (.ref p) H'
def spASizes (CF CA : Addr) : Sp := fun vs H Q _ => ∃ (y x : Addr) (ts : List (Str × Str)) (zs : List Str), vs = [.ref y] ∧ AAt CA H y x zs ∧ FAt CF H x ts ∧ TreeOk ts ∧ (∀ z ∈ zs, Pl ts z) ∧
  ∀ (p : Addr) (H' : Hp), Same H H' → H p = none → H' p = some (.dK (tblI (ts.map Prod.fst) (szZ ts zs))) → Q (.ref p) H'
def spAAt (CF CA : Addr) : Sp := fun vs H Q _ => ∃ (y x : Addr) (ts : List (Str × Str)) (zs : List Str) (a : Str), vs = [.ref y, .str a] ∧ AAt CA H y x zs ∧ FAt CF H x ts ∧ TreeOk ts ∧ zs.length ≤ 1000 ∧ Pl ts a ∧
  ∀ (p : Addr) (H' : Hp), Same H H' → H p = none → H' p = some (.lst ((atU zs a).map V.int)) → Q (.ref p) H'
def spAUsers (CF CA : Addr) : Sp := fun vs H Q _ => ∃ (y x : Addr) (ts : List (Str × Str)) (zs : List Str) (a : Str), vs = [.ref y, .str a] ∧ AAt CA H y x zs ∧ FAt CF H x ts ∧ TreeOk ts ∧ (∀ z ∈ zs, Pl ts z) ∧ zs.length ≤ 1000 ∧ a ∈ ts.map Prod.fst ∧
  ∀ (p : Addr) (H' : Hp), Same H H' → H p = none → H' p = some (.lst ((hasU ts zs a).map V.int)) → Q (.ref p) H'
def spNeedFl (CF : Addr) : Sp := fun vs H Q _ => ∃ (x : Addr) (ts : List (Str × Str)) (a : Str), vs = [.ref x, .str a] ∧ FAt CF H x ts ∧ TreeOk ts ∧ a ∈ ts.map Prod.fst ∧ Q .non H
section
variable {P : Program} {w : World} {K : PySem.W.Frag} {mg : Str → Option Value} {base : Heap}
abbrev NSo : List Str := ["forest", "places", "name", "found", "place"]
end
end FT


/-! paired lists -/
namespace FT
open PySem L2 TL ClX LiI
theorem pair_impW {α β : Type} {F G : α → β → Prop} (m : ∀ x y, F x y → G x y) : ∀ {xs : List α} {ys : List β}, Paired F xs ys → Paired G xs ys
  | _, _, .nil => .nil
  | _, _, .cons h t => .cons (m _ _ h) (pair_impW m t)
theorem pair_appW {α β : Type} {F : α → β → Prop} : ∀ {xs xs' : List α} {ys ys' : List β}, Paired F xs ys → Paired F xs' ys' → Paired F (xs ++ xs') (ys ++ ys')
  | _, _, _, _, .nil, q => q
  | _, _, _, _, .cons h t, q => .cons h (pair_appW t q)
theorem keys_walkW {t : List (Str × Str)} {i : Nat} {k : Key} {v : V} (h : (prs t)[i]? = some (k, v)) : ∃ a p : Str, k = Sum.inr a ∧ v = .str p ∧ t[i]? = some (a, p) := by
  unfold prs kvT at h
  rw [List.map_map, List.getElem?_map] at h
  obtain ⟨⟨a, p⟩, hp, e⟩ := Option.map_eq_some_iff.mp h
  cases e
  exact ⟨a, p, rfl, rfl, hp⟩
end FT


/-! all objects but some are as they were -/
namespace FT
open PySem L2 TL ClX
/-- all but Ex is as it was -/
def KeepX (Ex : List Addr) (H H' : Hp) : Prop := ∀ b u, b ∉ Ex → H b = some u → H' b = some u
theorem KeepX.of_same {Ex : List Addr} {H H' : Hp} (s : Same H H') : KeepX Ex H H' := fun b u _ e => s b u e
theorem KeepX.trans {Ex : List Addr} {H H1 H2 : Hp} (a : KeepX Ex H H1) (b : KeepX Ex H1 H2) : KeepX Ex H H2 := fun x u n e => b x u n (a x u n e)
end FT


/-! _law_held -/
namespace FT
open PySem L2 TL ClX LiI
/-- who has a flag -/
def hlU (t : List (Str × Str)) (zs : List Str) (a : Str) : List Int := selU zs.length (hasC t zs a)
def hdK (xs : List (Str × Addr)) : List (Key × V) := kvT (xs.map fun z => (z.1, V.ref z.2))
/-- a dict from the flags to lists of users -/
def HeldAt (t : List (Str × Str)) (zs : List Str) (H : Hp) (p : Addr) : Prop := ∃ xs : List (Str × Addr), H p = some (.dK (hdK xs)) ∧ xs.map Prod.fst = t.map Prod.fst ∧ ∀ z ∈ xs, H z.2 = some (.lst ((hlU t zs z.1).map V.int))
theorem HeldAt.mono {t : List (Str × Str)} {zs : List Str} {H H' : Hp} {p : Addr} (s : Same H H') (h : HeldAt t zs H p) : HeldAt t zs H' p := let ⟨xs, h1, h2, h3⟩ := h; ⟨xs, s _ _ h1, h2, fun z hz => s _ _ (h3 z hz)⟩
/-- .. all of it new -/
def HeldN (t : List (Str × Str)) (zs : List Str) (H H' : Hp) (p : Addr) : Prop := H p = none ∧ ∃ xs : List (Str × Addr), H' p = some (.dK (hdK xs)) ∧ xs.map Prod.fst = t.map Prod.fst ∧ ∀ z ∈ xs, H z.2 = none ∧ H' z.2 = some (.lst ((hlU t zs z.1).map V.int))
theorem HeldN.at {t : List (Str × Str)} {zs : List Str} {H H' : Hp} {p : Addr} (h : HeldN t zs H H' p) : HeldAt t zs H' p := let ⟨_, xs, h1, h2, h3⟩ := h; ⟨xs, h1, h2, fun z hz => (h3 z hz).2⟩
def spHeld : Sp := fun vs H Q _ => ∃ (q l : Addr) (t : List (Str × Str)) (zs : List Str), vs = [.ref q, .ref l] ∧ H q = some (.dK (prs t)) ∧ TreeOk t ∧ H l = some (.lst (zs.map V.str)) ∧ (∀ z ∈ zs, Pl t z) ∧ zs.length ≤ 1000 ∧ ∀ p H', Same H H' → HeldN t zs H H' p → Q (.ref p) H'
abbrev NHe : List Str := ["_law_parents", "_law_places", "_law_name", "_law_found", "_law_user", "_law_place"]
section
variable {P : Program} {w : World} {K : PySem.W.Frag} {mg : Str → Option Value} {base : Heap}
end
end FT


/-! == of two lists of other lengths -/
namespace L2
open PySem PySem.Spec PyProof.Rows
section
variable {X : Cx}
def rEqLen : R2 := fun x y H Q => ∃ a b xs ys, x = .ref a ∧ y = .ref b ∧ H a = some (.lst xs) ∧ H b = some (.lst ys) ∧ xs.length ≠ ys.length ∧ Q (.bl false) H
theorem op_eqLen (hu : X.A.units < cLine) : OpR X (compareOp .Eq) rEqLen := by
  intro pins s σ H x y v u Q I rx ry h
  obtain ⟨a, b, xs, ys, rfl, rfl, ea, eb, ne, q⟩ := h
  obtain rfl : v = Value.ref a := rx
  obtain rfl : u = Value.ref b := ry
  obtain ⟨za, ia, na, ra, la, da⟩ := I.lstM ea
  obtain ⟨zb, ib, nb, rb, lb, db⟩ := I.lstM eb
  refine PySem.SeqAt.eq_list_lengthsAt (items := ia.toArray) (items2 := ib.toArray) ⟨_, da, rfl, _, rfl⟩ ⟨_, db, rfl, _, rfl⟩ ?_ hu ⟨.bl _, H, I, rfl, q⟩
  rw [List.size_toArray, List.size_toArray, bne_iff_ne]
  have h1 : xs.length = ia.length := by first | exact la | exact ra.length | exact la.symm
  have h2 : ys.length = ib.length := by first | exact lb | exact rb.length | exact lb.symm
  omega
end
end L2


/-! xs == [] and xs != [], whatever the items -/
namespace L2
open PySem PySem.Spec PyProof.Rows
section
variable {X : Cx}
def rNeLen : R2 := fun x y H Q => ∃ a b xs ys, x = .ref a ∧ y = .ref b ∧ H a = some (.lst xs) ∧ H b = some (.lst ys) ∧ xs.length ≠ ys.length ∧ Q (.bl true) H
def rEqNil : R2 := fun x y H Q => ∃ a b xs, x = .ref a ∧ y = .ref b ∧ H a = some (.lst xs) ∧ H b = some (.lst []) ∧ Q (.bl (decide (xs.length = 0))) H
def rNeNil : R2 := fun x y H Q => ∃ a b xs, x = .ref a ∧ y = .ref b ∧ H a = some (.lst xs) ∧ H b = some (.lst []) ∧ Q (.bl (!decide (xs.length = 0))) H
theorem op_eqNil (hu : X.A.units + 64 < cLine) : OpR X (compareOp .Eq) rEqNil := by
  intro pins s σ H x y v u Q I rx ry h
  obtain ⟨a, b, xs, rfl, rfl, ea, eb, q⟩ := h
  cases xs with
  | nil => exact op_eqD hu pins s σ H _ _ v u Q I rx ry ⟨.list [], .list [], .lst (SqL.of ea) .nil, .lst (SqL.of eb) .nil, rfl, rfl, q⟩
  | cons x xs => exact op_eqLen (by omega) pins s σ H _ _ v u Q I rx ry ⟨a, b, _, _, rfl, rfl, ea, eb, Nat.succ_ne_zero _, q⟩
end
end L2


/-! _law_are_best -/
namespace FT
open PySem L2 TL ClX LiI
def lessU (l m : List Int) : List Int := l.filter fun u => !decide (u ∈ m)
def oneB (t : List (Str × Str)) (z1 z2 : List Str) (a : Str) : Bool := decide ((lessU (hlU t z2 a) (hlU t z1 a)).length = 0) || decide ((lessU (hlU t z1 a) (hlU t z2 a)).length = 0)
def arB (t : List (Str × Str)) (z1 z2 : List Str) : Bool := (t.map Prod.fst).all (oneB t z1 z2)
def spAreB : Sp := fun vs H Q _ => ∃ (p1 p2 : Addr) (t : List (Str × Str)) (z1 z2 : List Str), vs = [.ref p1, .ref p2] ∧ HeldAt t z1 H p1 ∧ HeldAt t z2 H p2 ∧ TreeOk t ∧ z1.length ≤ 1000 ∧ z2.length ≤ 1000 ∧ ∀ H', Same H H' → Q (.bl (arB t z1 z2)) H'
abbrev NAr : List Str := ["_law_one", "_law_other", "_law_name", "_law_gained", "_law_user"]
section
variable {P : Program} {w : World} {K : PySem.W.Frag} {mg : Str → Option Value} {base : Heap}
end
end FT


/-! users move along edges, the order of the lists left open (plain maths) -/
namespace FT
open PySem L2 TL ClX
def MovedP (ts : List (Str × Str)) (c : Str → Int) (L L' : Str → List Int) : Prop := ∃ G : Str → Str → List Int, (∀ p, Pl ts p → ∀ o ∈ adj ts p, (G p o).length = lv ts c p o) ∧ ∀ p, Pl ts p → (L p ++ ins ts G p).Perm (L' p ++ outs ts G p)
theorem Moved.p {ts : List (Str × Str)} {c : Str → Int} {L L' : Str → List Int} (m : Moved ts c L L') : MovedP ts c L L' := by
  obtain ⟨G, g1, g2⟩ := m
  exact ⟨G, g1, fun p hp => by rw [g2 p hp]⟩
end FT


/-! edges of a change, in an order (plain maths) -/
namespace FT
open PySem L2 TL ClX LiI
/-- each place behind all from which users move to it -/
def Topo (ts : List (Str × Str)) (c : Str → Int) (ds : List Str) : Prop := ∀ (i : Nat) (p : Str), ds[i]? = some p → ∀ q, 0 < lv ts c q p → q ∈ ds.take i
def spEdgeOrder (CF : Addr) : Sp := fun vs H Q _ => ∃ (x q : Addr) (ts : List (Str × Str)) (c : Str → Int), vs = [.ref x, .ref q] ∧ FAt CF H x ts ∧ TreeOk ts ∧ H q = some (.dK (tblI (ts.map Prod.fst) c)) ∧
  ∀ (p : Addr) (ds : List Str) (H' : Hp), Same H H' → H p = none → ds.Perm (pls ts) → Topo ts c ds → H' p = some (.lst (ds.map V.str)) → Q (.ref p) H'
/-- goals of the edges from places that are left -/
def waitL (es : List (Str × Str × Int)) (rest : List Str) : List Str := (es.filter fun e => decide (e.1 ∈ rest)).map fun e => e.2.1
end FT


/-! feasible sizes, dealt out name by name (plain maths) -/
namespace FT
open PySem L2 TL ClX
/-! ### sizes that are drawn -/
theorem szOf_tbl {l : List Str} {sz : Str → Int} {a : Str} (h : a ∈ l) : szOf (tblI l sz) a = sz a := by
  unfold szOf
  rw [tblI_val h]
theorem kids_sub {t : List (Str × Str)} {p a : Str} (h : a ∈ kids t p) : a ∈ t.map Prod.fst := by
  obtain ⟨q, hq, rfl⟩ := List.mem_map.mp h
  exact List.mem_map.mpr ⟨q, (List.mem_filter.mp hq).1, rfl⟩
theorem resid_congr {t : List (Str × Str)} {n : Int} {sz sz' : Str → Int} {p : Str} (h : ∀ a ∈ t.map Prod.fst, sz a = sz' a) (hp : p = "" ∨ sz p = sz' p) : resid t n sz p = resid t n sz' p := by
  unfold resid
  rw [List.map_congr_left fun a ha => h a (kids_sub ha)]
  by_cases e : p = ""
  · rw [if_pos e, if_pos e]
  · rw [if_neg e, if_neg e, hp.resolve_left e]
/-- feasible sizes for n users -/
structure Fea (t : List (Str × Str)) (n : Int) (sz : Str → Int) : Prop where
  nn : ∀ a ∈ t.map Prod.fst, 0 ≤ sz a
  res : ∀ p ∈ (("" : Str) :: t.map Prod.fst), 0 ≤ resid t n sz p
theorem Fea.perm {t u : List (Str × Str)} {n : Int} {sz : Str → Int} (p : t.Perm u) (f : Fea t n sz) : Fea u n sz :=
  ⟨fun a ha => f.nn a ((p.map _).mem_iff.mpr ha), fun q hq => by rw [← resid_perm p]; exact f.res q ((List.mem_cons.mp hq).elim (fun e => e ▸ List.mem_cons_self ..) fun m => List.mem_cons_of_mem _ ((p.map Prod.fst).mem_iff.mpr m))⟩
theorem Fea.ok {CS : Addr} {ts : List (Str × Str)} {n : Int} {sz : Str → Int} {l : List Str} (f : Fea ts n sz) (p : l.Perm (ts.map Prod.fst)) : feE CS ts n (some (tblI l sz)) = none := by
  have e1 : ∀ a ∈ ts.map Prod.fst, valV (tblI l sz) (Sum.inr a) = some (.int (sz a)) := fun a ha => tblI_val (p.mem_iff.mpr ha)
  have ll := p.length_eq
  rw [List.length_map] at ll
  unfold feE
  rw [feas_some, if_neg (by rw [tblI_len]; exact fun z => z ll), if_neg]
  · have e2 : (ts.map Prod.fst).find? (badKey (tblI l sz)) = none := List.find?_eq_none.mpr fun a ha z => by
      unfold badKey at z
      rw [e1 a ha] at z
      have z' : (!decide ((0 : Int) ≤ sz a)) = true := z
      rw [decide_eq_true (f.nn a ha)] at z'
      cases z'
    rw [e2]
    have e3 : ((("" : Str) :: ts.map Prod.fst).find? fun p => decide (resid ts n (szOf (tblI l sz)) p < 0)) = none := List.find?_eq_none.mpr fun q hq z => by
      have z' := of_decide_eq_true z
      rw [resid_congr (sz' := sz) (fun a ha => szOf_tbl (p.mem_iff.mpr ha)) ((List.mem_cons.mp hq).imp id fun h => szOf_tbl (p.mem_iff.mpr h))] at z'
      have := f.res q hq
      omega
    show Option.map _ (Option.map V.str (List.find? _ _)) = none
    rw [e3] <;> rfl
  · intro z
    have : ((ts.map Prod.fst).all fun a => (valV (tblI l sz) (Sum.inr a)).isSome) = true := List.all_eq_true.mpr fun a ha => by rw [e1 a ha] <;> rfl
    rw [this] at z
    cases z
/-- what has been dealt out -/
structure Dealt (t : List (Str × Str)) (n : Int) (l : List Str) (t' : List (Str × Str)) (sz : Str → Int) : Prop where
  keys : t'.map Prod.fst = l
  sub : ∀ p ∈ t', p ∈ t
  par_ : ∀ p ∈ t', p.2 = "" ∨ p.2 ∈ l
  nn : ∀ a ∈ l, 0 ≤ sz a
  res : ∀ p ∈ (("" : Str) :: l), 0 ≤ resid t' n sz p
  top_ : ∀ p ∈ (("" : Str) :: l), resid t' n sz p ≤ n
theorem Dealt.nil {t : List (Str × Str)} {n : Int} {sz : Str → Int} (n0 : 0 ≤ n) : Dealt t n [] [] sz := by
  refine ⟨rfl, fun p h => (by cases h), fun p h => (by cases h), fun a h => (by cases h), fun p h => ?_, fun p h => ?_⟩
  · rw [List.mem_singleton.mp h]
    show 0 ≤ n - 0
    omega
  · rw [List.mem_singleton.mp h]
    show n - 0 ≤ n
    omega
theorem Dealt.step {t t' : List (Str × Str)} {n : Int} {l : List Str} {sz : Str → Int} (d : Dealt t n l t' sz) {a pa : Str} {z : Int} (na : a ∉ l) (ne : a ≠ "") (mt : (a, pa) ∈ t) (mp : pa = "" ∨ pa ∈ l) (z0 : 0 ≤ z) (z1 : z ≤ resid t' n sz pa) :
    Dealt t n (l ++ [a]) (t' ++ [(a, pa)]) (fun x => if x = a then z else sz x) ∧
    (∀ p ∈ (("" : Str) :: (l ++ [a])), resid (t' ++ [(a, pa)]) n (fun x => if x = a then z else sz x) p = if p = pa then resid t' n sz pa - z else if p = a then z else resid t' n sz p) := by
  have kid : kids t' a = [] := by
    unfold kids
    rw [List.filter_eq_nil_iff.mpr fun q hq z => ?_] <;> try rfl
    have e := of_decide_eq_true z
    rcases d.par_ q hq with h | h
    · exact ne (e.symm.trans h)
    · exact na (by rw [← e]; exact h)
  have pne : pa ≠ a := fun e => mp.elim (fun h => ne (e.symm.trans h)) fun h => na (by rw [← e]; exact h)
  have old : ∀ p, p ≠ a → resid t' n (fun x => if x = a then z else sz x) p = resid t' n sz p := fun p hp =>
    resid_congr (fun x hx => if_neg fun e => na (by rw [← e, ← d.keys]; exact hx)) (.inr (if_neg hp))
  have eq : ∀ p ∈ (("" : Str) :: (l ++ [a])), resid (t' ++ [(a, pa)]) n (fun x => if x = a then z else sz x) p = if p = pa then resid t' n sz pa - z else if p = a then z else resid t' n sz p := fun p _ => by
    rw [resid_snoc]
    by_cases h1 : p = pa
    · rw [if_pos h1.symm, if_pos h1, old p (by rw [h1]; exact pne), h1]
      show _ - (if a = a then z else sz a) = _
      rw [if_pos rfl]
    · rw [if_neg (fun e => h1 e.symm), if_neg h1]
      by_cases h2 : p = a
      · rw [if_pos h2, h2]
        unfold resid
        rw [kid, if_neg ne]
        show (if a = a then z else sz a) - 0 = z
        rw [if_pos rfl]
        omega
      · rw [if_neg h2, old p h2]
  refine ⟨⟨by rw [List.map_append, d.keys] <;> rfl, fun p hp => ?_, fun p hp => ?_, fun x hx => ?_, fun p hp => ?_, fun p hp => ?_⟩, eq⟩
  · rcases List.mem_append.mp hp with h | h
    · exact d.sub p h
    · rw [List.mem_singleton.mp h]
      exact mt
  · rcases List.mem_append.mp hp with h | h
    · exact (d.par_ p h).imp id fun m => List.mem_append_left _ m
    · rw [List.mem_singleton.mp h]
      exact mp.imp id fun m => List.mem_append_left _ m
  · show 0 ≤ if x = a then z else sz x
    by_cases e : x = a
    · rw [if_pos e]
      exact z0
    · rw [if_neg e]
      exact d.nn x ((List.mem_append.mp hx).resolve_right fun m => e (List.mem_singleton.mp m))
  · rw [eq p hp]
    by_cases h1 : p = pa
    · rw [if_pos h1]
      omega
    · rw [if_neg h1]
      by_cases h2 : p = a
      · rw [if_pos h2]
        exact z0
      · rw [if_neg h2]
        refine d.res p ((List.mem_cons.mp hp).elim (fun e => e ▸ List.mem_cons_self ..) fun m => List.mem_cons_of_mem _ ?_)
        exact (List.mem_append.mp m).resolve_right fun m => h2 (List.mem_singleton.mp m)
  · rw [eq p hp]
    have tp := d.top_ pa (List.mem_cons.mpr mp)
    by_cases h1 : p = pa
    · rw [if_pos h1]
      omega
    · rw [if_neg h1]
      by_cases h2 : p = a
      · rw [if_pos h2]
        omega
      · rw [if_neg h2]
        refine d.top_ p ((List.mem_cons.mp hp).elim (fun e => e ▸ List.mem_cons_self ..) fun m => List.mem_cons_of_mem _ ?_)
        exact (List.mem_append.mp m).resolve_right fun m => h2 (List.mem_singleton.mp m)
end FT


/-! users moved edge by edge (plain maths) -/
namespace FT
open PySem L2 TL ClX LiI
/-- the last ones, the rest -/
def lastN (a : Int) (l : List Int) : List Int := l.drop (l.length - a.toNat)
def butN (a : Int) (l : List Int) : List Int := l.take (l.length - a.toNat)
def mvE (L : Str → List Int) (e : Str × Str × Int) : Str → List Int := fun p => if p = e.1 then butN e.2.2 (L e.1) else if p = e.2.1 then L e.2.1 ++ lastN e.2.2 (L e.1) else L p
def mvP (es : List (Str × Str × Int)) (L : Str → List Int) (p : Str) : Str → List Int := (es.filter fun e => decide (e.1 = p)).foldl mvE L
def mvA (es : List (Str × Str × Int)) (L : Str → List Int) (ds : List Str) : Str → List Int := ds.foldl (mvP es) L
structure Adv (φ : List Int → Int) : Prop where
  nil : φ [] = 0
  app : ∀ a b, φ (a ++ b) = φ a + φ b
def Bal (ts : List (Str × Str)) (L0 L : Str → List Int) (G : Str → Str → List Int) : Prop := ∀ p, Pl ts p → ∀ φ, Adv φ → φ (L0 p) + ((adj ts p).map fun x => φ (G x p)).sum = φ (L p) + ((adj ts p).map fun x => φ (G p x)).sum
/-- after some places: groups out of them are whole, out of others none -/
structure Gone (ts : List (Str × Str)) (c : Str → Int) (L0 L : Str → List Int) (D : List Str) : Prop where
  ex : ∃ G : Str → Str → List Int, Bal ts L0 L G ∧ (∀ p x, p ∉ D → G p x = []) ∧ ∀ p ∈ D, ∀ x ∈ adj ts p, (G p x).length = lv ts c p x
end FT


/-! best -/
namespace FT
open PySem L2 TL ClX LiI
theorem EdG.imp {H H' : Hp} (m : ∀ r xs, H r = some (.tup xs) → H' r = some (.tup xs)) : ∀ {rs : List Addr} {es : List (Str × Str × Int)}, EdG H rs es → EdG H' rs es
  | _, _, .nil => .nil
  | _, _, .cons h t => .cons (m _ _ h) (EdG.imp m t)
/-- a change of places by moves along edges -/
def BestOf (ts : List (Str × Str)) (c : Str → Int) (zs zs' : List Str) : Prop := ∃ L' : Str → List Int, MovedP ts c (atU zs) L' ∧ Val ts zs.length L' ∧ zs' = (usr zs.length).map (plOf ts L')
def spBest (K : PySem.W.Frag) (CF CA CS : Addr) : Sp := fun vs H Q E => ∃ (y x : Addr) (sv : V) (ts : List (Str × Str)) (zs : List Str) (so : Option (List (Key × V))), vs = [.ref y, sv] ∧ AAt CA H y x zs ∧ FAt CF H x ts ∧ TreeOk ts ∧ (∀ z ∈ zs, Pl ts z) ∧ 1 ≤ zs.length ∧ zs.length ≤ 60 ∧ SzV K H sv so ∧
  match feE CS ts (zs.length : Int) so with
  | none => ∀ (y' : Addr) (H' : Hp) (zs' : List Str), Same H H' → H y' = none → AAt CA H' y' x zs' → BestOf ts (fun a => szOf (kvsOf so) a - szZ ts zs a) zs zs' → Q (.ref y') H'
  | some e => Out H E e
theorem atU_val {ts : List (Str × Str)} (o : TreeOk ts) {zs : List Str} (pl : ∀ z ∈ zs, Pl ts z) : Val ts zs.length (atU zs) := by
  unfold Val
  have nd : ((pls ts).flatMap (atU zs)).Nodup := by
    refine List.nodup_iff_pairwise_ne.mpr (List.pairwise_flatMap.mpr ⟨fun p _ => ?_, ?_⟩)
    · unfold atU selU
      refine List.pairwise_map.mpr (((List.nodup_iff_pairwise_ne.mp List.nodup_range).filter _).imp fun h e => h ?_)
      omega
    · refine (List.nodup_iff_pairwise_ne.mp (pls_nd o)).imp fun {p q} ne u hu v hv e => ?_
      obtain ⟨i, e1, i1, i2⟩ := mem_selU.mp hu
      obtain ⟨j, e2, j1, j2⟩ := mem_selU.mp hv
      have ij : i = j := by omega
      subst ij
      exact ne (Option.some.inj ((of_decide_eq_true i2).symm.trans (of_decide_eq_true j2)))
  refine (List.perm_ext_iff_of_nodup nd (usr_nd _)).mpr fun u => ?_
  rw [List.mem_flatMap, mem_usr]
  constructor
  · rintro ⟨p, hp, hu⟩
    obtain ⟨i, rfl, i1, _⟩ := mem_selU.mp hu
    omega
  · rintro ⟨h0, h1⟩
    have lt : u.toNat < zs.length := by omega
    refine ⟨zs[u.toNat], mem_pls.mpr (pl _ (List.getElem_mem lt)), mem_selU.mpr ⟨u.toNat, by omega, lt, ?_⟩⟩
    exact decide_eq_true (List.getElem?_eq_getElem lt)
/-- lists by place as counts of users with a flag -/
theorem atU_lsz {ts : List (Str × Str)} (o : TreeOk ts) {zs : List Str} (pl : ∀ z ∈ zs, Pl ts z) {a : Str} (ha : a ∈ ts.map Prod.fst) : lsz ts (atU zs) a = szZ ts zs a := by
  rw [lsz_inP]
  have key : ∀ j, j ≤ zs.length → ((ts.map Prod.fst).map fun b => inP ts a b * ((selU j (atC zs b)).length : Int)).sum = szZ ts (zs.take j) a := by
    intro j
    induction j with
    | zero =>
      intro _
      rw [List.take_zero, sum_map_zero fun b _ => by rw [selU_zero]; exact Int.mul_zero _] <;> rfl
    | succ j ih =>
      intro hj
      have e : zs[j]? = some zs[j] := List.getElem?_eq_getElem (by omega)
      obtain ⟨z, ez⟩ : ∃ z, z = zs[j] := ⟨_, rfl⟩
      rw [← ez] at e
      rw [szZ_more e, ← ih (by omega)]
      have e1 : ∀ b ∈ ts.map Prod.fst, inP ts a b * ((selU (j + 1) (atC zs b)).length : Int) = inP ts a b * ((selU j (atC zs b)).length : Int) + if b = z then inP ts a b else 0 := fun b _ => by
        rw [selU_more, List.length_append, Int.natCast_add, Int.mul_add]
        congr 1
        have ec : atC zs b j = decide (z = b) := by
          unfold atC
          rw [e]
          by_cases w : z = b
          · rw [decide_eq_true w, decide_eq_true (by rw [w])]
          · rw [decide_eq_false w, decide_eq_false fun h => w (Option.some.inj h)]
        by_cases w : b = z
        · rw [if_pos w, ec, decide_eq_true w.symm, if_pos rfl]
          show inP ts a b * 1 = _
          rw [Int.mul_one]
        · rw [if_neg w, ec, decide_eq_false (fun h => w h.symm), if_neg (by decide)]
          exact Int.mul_zero _
      rw [List.map_congr_left e1, sum_map_add, sum_one (f := fun b => inP ts a b) o.nd]
      congr 1
      by_cases m : z ∈ ts.map Prod.fst
      · rw [if_pos m] <;> rfl
      · have z0 : z = "" := (pl z (List.mem_of_getElem? e)).resolve_right m
        rw [if_neg m, z0, path_root, if_neg (by simp)]
  have z := key zs.length (Nat.le_refl _)
  rw [List.take_length] at z
  exact z
end FT


/-! the sizes of a list of places are feasible (plain maths) -/
namespace FT
open PySem L2 TL ClX
theorem selU_count {zs : List Str} {p : Str} : ∀ k : Nat, k ≤ zs.length → (selU k (atC zs p)).length = (zs.take k).count p
  | 0, _ => by rw [selU_zero, List.take_zero] <;> rfl
  | k + 1, h => by
    have hk : zs[k]? = some zs[k] := List.getElem?_eq_getElem (by omega)
    obtain ⟨z, ez⟩ : ∃ z, z = zs[k] := ⟨_, rfl⟩
    rw [← ez] at hk
    rw [selU_more, List.length_append, selU_count k (by omega), take_more hk, List.count_append]
    congr 1
    unfold atC
    rw [hk]
    by_cases e : z = p
    · rw [e, if_pos (by rw [decide_eq_true_eq])]
      simp
    · rw [if_neg (fun w => e (Option.some.inj (of_decide_eq_true w)))]
      simp [e]
theorem atU_count (zs : List Str) (p : Str) : (atU zs p).length = zs.count p := by
  unfold atU
  rw [selU_count _ (Nat.le_refl _), List.take_length]
section
variable {ts : List (Str × Str)} {zs : List Str} {s : Str → Int}
theorem cnt_resid (o : TreeOk ts) (pl : ∀ z ∈ zs, Pl ts z) (hs : ∀ a ∈ ts.map Prod.fst, szZ ts zs a = s a) {p : Str} (hp : Pl ts p) : (zs.count p : Int) = resid ts (zs.length : Int) s p := by
  have h := lsz_lens o (val_len (atU_val o pl)) p hp
  rw [atU_count] at h
  rw [h]
  have e : ∀ a ∈ ts.map Prod.fst, lsz ts (atU zs) a = s a := fun a ha => by rw [atU_lsz o pl ha, hs a ha]
  exact resid_congr e (hp.imp id fun m => e p m)
end
theorem fea_szZ {ts : List (Str × Str)} {zs : List Str} (o : TreeOk ts) (pl : ∀ z ∈ zs, Pl ts z) : Fea ts (zs.length : Int) (szZ ts zs) :=
  ⟨fun a _ => Int.natCast_nonneg _, fun p hp => by rw [← cnt_resid o pl (fun _ _ => rfl) (mem_pls.mp hp)]; exact Int.natCast_nonneg _⟩
end FT


/-! walked: the flags below a place, each ahead of those below it, with their depths -/
namespace FT
open PySem L2 TL ClX LiI
def walkN (ts : List (Str × Str)) : Nat → Str → Int → List (Str × Int)
  | 0, _, _ => []
  | m + 1, a, d => ts.flatMap fun z => if z.2 = a then (z.1, d) :: walkN ts m z.1 (d + 1) else []
def RowW (H : Hp) (r : Addr) (z : Str × Int) : Prop := H r = some (.tup [.str z.1, .int z.2])
theorem RowW.same {H H' : Hp} {rs : List Addr} {zs : List (Str × Int)} (s : Same H H') (h : Paired (RowW H) rs zs) : Paired (RowW H') rs zs := pair_impW (fun _ _ e => s _ _ e) h
def spWalked (m : Nat) : Sp := fun vs H Q _ => ∃ (q : Addr) (ts : List (Str × Str)) (od : Obj) (a : Str) (d : Int), vs = [.ref q, .str a, .int d] ∧ H q = some (.frz od (.dK (prs ts))) ∧ TreeOk ts ∧ Pl ts a ∧ (pathOf ts a).length + m = ts.length + 1 ∧ (walkN ts m a d).length ≤ 1000 ∧
  ∀ (p : Addr) (rs : List Addr) (H' : Hp), Same H H' → H p = none → H' p = some (.lst (rs.map V.ref)) → Paired (RowW H') rs (walkN ts m a d) → (∀ r ∈ rs, H r = none) → Q (.ref p) H'
section
variable {P : Program} {w : World} {K : PySem.W.Frag} {mg : Str → Option Value} {base : Heap}
abbrev NWd : List Str := ["above", "place", "depth", "found", "name"]
end
end FT


/-! what runs while generators sleep leaves them as they are -/
namespace Slp
open PySem
open Sem (wp)
def deadK : Resume → Sem PySem.Fin := fun _ => .unsupported "asleep"
def dead : GenState → GenState
  | .suspended _ l c p fs cl => .suspended deadK l c p fs cl
  | x => x
def sw (T : Nat → Option GenState) (G : Array GenState) : Array GenState := G.mapIdx fun i x => (T i).getD x
def swS (T : Nat → Option GenState) (s : Shared) : Shared := { s with gens := sw T s.gens }
structure Iv (T : Nat → Option GenState) (G : Array GenState) : Prop where
  fro : ∀ i x, T i = some x → (∃ k l c p fs cl, x = .suspended k l c p fs cl) ∧ G[i]? = some (dead x)
  pla : ∀ i k l c p fs cl, T i = none → G[i]? = some (.suspended k l c p fs cl) → splitAtGen fs = none
theorem sw_size (T : Nat → Option GenState) (G : Array GenState) : (sw T G).size = G.size := by
  unfold sw
  rw [Array.size_mapIdx]
theorem sw_get (T : Nat → Option GenState) (G : Array GenState) (i : Nat) : (sw T G)[i]? = G[i]?.map fun x => (T i).getD x := by
  unfold sw
  rw [Array.getElem?_mapIdx]
section
variable {T : Nat → Option GenState} {G : Array GenState}
theorem sw_push {x : GenState} (h : T G.size = none) : sw T (G.push x) = (sw T G).push x := by
  refine Array.ext_getElem? fun i => ?_
  rw [sw_get, Array.getElem?_push, Array.getElem?_push, sw_size, sw_get]
  by_cases e : i = G.size
  · subst e
    rw [if_pos rfl, if_pos rfl, Option.map_some, h] <;> rfl
  · rw [if_neg e, if_neg e]
theorem sw_set {i : Nat} {x : GenState} (h : T i = none) : sw T (G.setIfInBounds i x) = (sw T G).setIfInBounds i x := by
  refine Array.ext_getElem? fun j => ?_
  rw [sw_get, Array.getElem?_setIfInBounds, Array.getElem?_setIfInBounds, sw_size, sw_get]
  by_cases e : i = j
  · subst e
    by_cases l : i < G.size
    · rw [if_pos rfl, if_pos rfl, if_pos l, Option.map_some, h] <;> rfl
    · rw [if_pos rfl, if_pos rfl, if_neg l] <;> rfl
  · rw [if_neg e, if_neg e]
theorem Iv.noT (v : Iv T G) : T G.size = none := by
  cases e : T G.size with
  | none => rfl
  | some x =>
    have := (v.fro _ x e).2
    rw [Array.getElem?_eq_none (Nat.le_refl _)] at this
    cases this
theorem Iv.free (v : Iv T G) {i : Nat} {y : GenState} (h : G[i]? = some y) (n : ∀ k l c p fs cl, y ≠ .suspended k l c p fs cl) : T i = none := by
  cases e : T i with
  | none => rfl
  | some x =>
    obtain ⟨⟨k, l, c, p, fs, cl, rfl⟩, q⟩ := v.fro _ x e
    rw [h] at q
    exact absurd (Option.some.inj q) (n _ _ _ _ _ _)
theorem Iv.push (v : Iv T G) {x : GenState} (n : ∀ k l c p fs cl, x = .suspended k l c p fs cl → splitAtGen fs = none) : Iv T (G.push x) := by
  refine ⟨fun i y e => ?_, fun i k l c p fs cl e h => ?_⟩
  · obtain ⟨a, b⟩ := v.fro i y e
    have li := (Array.getElem?_eq_some_iff.mp b).1
    refine ⟨a, ?_⟩
    rw [Array.getElem?_push, if_neg (by omega)]
    exact b
  · rw [Array.getElem?_push] at h
    by_cases q : i = G.size
    · rw [if_pos q] at h
      exact n k l c p fs cl (Option.some.inj h)
    · rw [if_neg q] at h
      exact v.pla i k l c p fs cl e h
theorem Iv.set (v : Iv T G) {j : Nat} {x : GenState} (hj : T j = none) (n : ∀ k l c p fs cl, x = .suspended k l c p fs cl → splitAtGen fs = none) : Iv T (G.setIfInBounds j x) := by
  refine ⟨fun i y e => ?_, fun i k l c p fs cl e h => ?_⟩
  · obtain ⟨a, b⟩ := v.fro i y e
    refine ⟨a, ?_⟩
    rw [Array.getElem?_setIfInBounds, if_neg fun w => by rw [w, e] at hj; cases hj]
    exact b
  · rw [Array.getElem?_setIfInBounds] at h
    by_cases q : j = i
    · rw [if_pos q] at h
      by_cases w : j < G.size
      · rw [if_pos w] at h
        exact n k l c p fs cl (Option.some.inj h)
      · rw [if_neg w] at h
        cases h
    · rw [if_neg q] at h
      exact v.pla i k l c p fs cl e h
theorem sw_at (v : Iv T G) {i : Nat} {y : GenState} (h : G[i]? = some y) : ∃ y', (sw T G)[i]? = some y' ∧ y'.seen = y.seen := by
  cases e : T i with
  | none => exact ⟨y, by rw [sw_get, h, e] <;> rfl, rfl⟩
  | some x =>
    obtain ⟨⟨k, l, c, p, fs, cl, rfl⟩, q⟩ := v.fro i x e
    rw [h] at q
    cases q
    exact ⟨.suspended k l c p fs cl, by rw [sw_get, h, e] <;> rfl, rfl⟩
theorem sw_free {i : Nat} {y : GenState} (h : G[i]? = some y) (e : T i = none) : (sw T G)[i]? = some y := by
  rw [sw_get, h, e] <;> rfl
end
theorem plain_cons {F : Frame} {fs : List Frame} (h : splitAtGen (F :: fs) = none) : splitAtGen fs = none ∧ ∀ g k l c p, F ≠ .gen g k l c p := by
  cases F with
  | ret k hd gd l c p kp =>
    refine ⟨?_, fun _ _ _ _ _ e => by cases e⟩
    have h : (splitAtGen fs).map _ = none := h
    exact Option.map_eq_none_iff.mp h
  | gen g k l c p => cases h
theorem plain_app : ∀ {a b : List Frame}, splitAtGen a = none → splitAtGen b = none → splitAtGen (a ++ b) = none
  | [], _, _, h => h
  | F :: a, b, ha, hb => by
    obtain ⟨h1, h2⟩ := plain_cons ha
    cases F with
    | ret k hd gd l c p kp =>
      show (splitAtGen (a ++ b)).map _ = none
      rw [plain_app h1 hb] <;> rfl
    | gen g k l c p => exact absurd rfl (h2 g k l c p)
theorem runs_dead {M : Model} {Γ : Ctx} {p : Pos} {t : Sem PySem.Fin} {fs : List Frame} {s s' : Shared} {e : End} (h : Runs M Γ p t fs s e s') : ∀ w, t ≠ .unsupported w := by
  induction h <;> intro w q <;> first | (cases q; done) | (rename_i ih _; exact ih w q) | (rename_i ih; exact ih w q) | skip
  all_goals first | (cases q) | (simp_all)
def plainEnd : End → Prop
  | .susp _ _ _ _ _ _ fs => splitAtGen fs = none
  | .ret _ => True
theorem end_gen {e : End} (h : plainEnd e) : ∀ k l c p fs cl, e.genState = .suspended k l c p fs cl → splitAtGen fs = none := by
  intro k l c p fs cl q
  cases e with
  | ret r => cases q
  | susp v g l0 k0 c0 p0 fs0 =>
    cases q
    exact h
theorem swS_set {T : Nat → Option GenState} {s : Shared} {g : Nat} {x : GenState} (h : T g = none) : swS T (s.setGen g x) = (swS T s).setGen g x := by
  unfold swS Shared.setGen
  rw [sw_set h]
theorem no_susp {x : GenState} (h : ∀ k l c p fs cl, x ≠ .suspended k l c p fs cl) : ∀ k l c p fs cl, x = .suspended k l c p fs cl → splitAtGen fs = none := fun k l c p fs cl e => absurd e (h k l c p fs cl)
theorem swS_new {T : Nat → Option GenState} {s : Shared} {c : Code} (v : Iv T s.gens) : swS T { s with gens := s.gens.push (.fresh c) } = { swS T s with gens := (swS T s).gens.push (.fresh c) } := by
  unfold swS
  rw [sw_push v.noT]
theorem swS_size {T : Nat → Option GenState} {s : Shared} : (swS T s).gens.size = s.gens.size := sw_size T s.gens
theorem runs_swap {M : Model} {T : Nat → Option GenState} {Γ : Ctx} {p : Pos} {t : Sem PySem.Fin} {fs : List Frame} {s s' : Shared} {e : End} (h : Runs M Γ p t fs s e s') : splitAtGen fs = none → Iv T s.gens → Iv T s'.gens ∧ plainEnd e ∧ Runs M Γ p t fs (swS T s) e (swS T s') := by
  induction h with
  | done => exact fun _ v => ⟨v, trivial, .done⟩
  | raise => exact fun _ v => ⟨v, trivial, .raise⟩
  | again q _ ih => exact fun hf v => let ⟨a, b, c⟩ := ih hf v; ⟨a, b, .again q c⟩
  | rule _ ih => exact fun hf v => let ⟨a, b, c⟩ := ih hf v; ⟨a, b, .rule c⟩
  | «at» _ ih => exact fun hf v => let ⟨a, b, c⟩ := ih hf v; ⟨a, b, .at c⟩
  | load q _ ih => exact fun hf v => let ⟨a, b, c⟩ := ih hf v; ⟨a, b, .load q c⟩
  | update q _ ih => exact fun hf v => let ⟨a, b, c⟩ := ih hf v; ⟨a, b, .update q c⟩
  | loadIfAlive _ ih => exact fun hf v => let ⟨a, b, c⟩ := ih hf v; ⟨a, b, .loadIfAlive c⟩
  | point _ ih => exact fun hf v => let ⟨a, b, c⟩ := ih hf v; ⟨a, b, .point c⟩
  | alloc _ ih => exact fun hf v => let ⟨a, b, c⟩ := ih hf v; ⟨a, b, .alloc c⟩
  | fresh _ ih => exact fun hf v => let ⟨a, b, c⟩ := ih hf v; ⟨a, b, .fresh c⟩
  | ask _ ih => exact fun hf v => let ⟨a, b, c⟩ := ih hf v; ⟨a, b, .ask c⟩
  | choose q _ ih => exact fun hf v => let ⟨a, b, c⟩ := ih hf v; ⟨a, b, .choose q c⟩
  | os _ ih => exact fun hf v => let ⟨a, b, c⟩ := ih hf v; ⟨a, b, .os c⟩
  | handled _ ih => exact fun hf v => let ⟨a, b, c⟩ := ih hf v; ⟨a, b, .handled c⟩
  | genState q _ ih =>
    intro hf v
    obtain ⟨a, b, c⟩ := ih hf v
    obtain ⟨y, hy, sy⟩ := sw_at v q
    exact ⟨a, b, .genState hy (by rw [sy]; exact c)⟩
  | stack _ ih => exact fun hf v => let ⟨a, b, c⟩ := ih hf v; ⟨a, b, .stack c⟩
  | thread _ ih => exact fun hf v => let ⟨a, b, c⟩ := ih hf v; ⟨a, b, .thread c⟩
  | newGen _ ih =>
    intro hf v
    obtain ⟨a, b, d⟩ := ih hf (v.push (x := .fresh _) (no_susp fun _ _ _ _ _ _ q => by cases q))
    refine ⟨a, b, .newGen ?_⟩
    rw [swS_new v] at d
    rw [swS_size]
    exact d
  | call _ _ ih1 ih2 =>
    intro hf v
    obtain ⟨a1, _, c1⟩ := ih1 rfl v
    obtain ⟨a2, b2, c2⟩ := ih2 hf a1
    exact ⟨a2, b2, .call c1 c2⟩
  | callSusp _ ih =>
    intro hf v
    obtain ⟨a, b, c⟩ := ih rfl v
    exact ⟨a, plain_app b rfl, .callSusp c⟩
  | yield => exact fun hf v => ⟨v, rfl, .yield⟩
  | resumeFresh q _ qt _ ih1 ih2 =>
    intro hf v
    have n := v.free q fun _ _ _ _ _ _ w => by cases w
    obtain ⟨a1, b1, c1⟩ := ih1 rfl (v.set n (no_susp fun _ _ _ _ _ _ w => by cases w))
    obtain ⟨a2, b2, c2⟩ := ih2 hf (a1.set n (end_gen b1))
    rw [swS_set n] at c1 c2
    exact ⟨a2, b2, .resumeFresh (sw_free q n) c1 qt c2⟩
  | @resumeSuspended Γ p g r l k s k0 l0 c0 p0 fs0 cl e1 s1 e s' q r1 qt r2 ih1 ih2 =>
    intro hf v
    cases et : T g with
    | some x =>
      obtain ⟨⟨k1, l1, c1, p1, fs1, cl1, rfl⟩, w⟩ := v.fro g x et
      rw [q] at w
      cases w
      exact absurd rfl (runs_dead r1 "asleep")
    | none =>
      obtain ⟨a1, b1, c1⟩ := ih1 (v.pla g _ _ _ _ _ _ et q) (v.set et (no_susp fun _ _ _ _ _ _ w => by cases w))
      obtain ⟨a2, b2, c2⟩ := ih2 hf (a1.set et (end_gen b1))
      rw [swS_set et] at c1 c2
      exact ⟨a2, b2, .resumeSuspended (sw_free q et) c1 qt c2⟩
  | resumeJustStarted q nv _ ih =>
    intro hf v
    obtain ⟨a, b, c⟩ := ih hf v
    exact ⟨a, b, .resumeJustStarted (sw_free q (v.free q fun _ _ _ _ _ _ w => by cases w)) nv c⟩
  | resumeThrowFresh q _ ih =>
    intro hf v
    have n := v.free q fun _ _ _ _ _ _ w => by cases w
    obtain ⟨a, b, c⟩ := ih hf (v.set n (no_susp fun _ _ _ _ _ _ w => by cases w))
    rw [swS_set n] at c
    exact ⟨a, b, .resumeThrowFresh (sw_free q n) c⟩
  | resumeRunning q _ ih =>
    intro hf v
    obtain ⟨a, b, c⟩ := ih hf v
    exact ⟨a, b, .resumeRunning (sw_free q (v.free q fun _ _ _ _ _ _ w => by cases w)) c⟩
  | resumeFinished q _ ih =>
    intro hf v
    obtain ⟨a, b, c⟩ := ih hf v
    exact ⟨a, b, .resumeFinished (sw_free q (v.free q fun _ _ _ _ _ _ w => by cases w)) c⟩
  | segRet _ _ ih1 ih2 =>
    intro hf v
    obtain ⟨a1, _, c1⟩ := ih1 rfl v
    obtain ⟨a2, b2, c2⟩ := ih2 (plain_cons hf).1 a1
    exact ⟨a2, b2, .segRet c1 c2⟩
  | segGen => exact fun hf => by cases hf
  | segSuspOut q _ ih =>
    intro hf v
    obtain ⟨a, b, c⟩ := ih rfl v
    exact ⟨a, plain_app b q, .segSuspOut q c⟩
  | segSuspGen q => exact fun hf => by rw [q] at hf; cases hf
theorem wakes_swap {M : Model} {T : Nat → Option GenState} {Γ : Ctx} {p : Pos} {g : Nat} {r : Resume} {s s' : Shared} {res : GenResult} (h : Wakes M Γ p g r s res s') (v : Iv T s.gens) : Iv T s'.gens ∧ Wakes M Γ p g r (swS T s) res (swS T s') := by
  unfold Wakes at h
  cases q : s.gens[g]? with
  | none =>
    rw [q] at h
    exact h.elim
  | some x =>
    rw [q] at h
    cases x with
    | fresh c =>
      have n := v.free q fun _ _ _ _ _ _ w => by cases w
      have qs : (swS T s).gens[g]? = some (.fresh c) := sw_free q n
      cases r with
      | send u =>
        cases u with
        | none =>
          obtain ⟨e1, s1, hr, qt, rfl, rfl⟩ := h
          obtain ⟨a, b, d⟩ := runs_swap hr rfl (v.set n (no_susp fun _ _ _ _ _ _ w => by cases w))
          rw [swS_set n] at d
          refine ⟨a.set n (end_gen b), ?_⟩
          unfold Wakes
          rw [qs]
          exact ⟨e1, _, d, qt, rfl, swS_set n⟩
        | _ =>
          obtain ⟨rfl, rfl⟩ := h
          refine ⟨v, ?_⟩
          unfold Wakes
          rw [qs]
          exact ⟨rfl, rfl⟩
      | throw x =>
        obtain ⟨rfl, rfl⟩ := h
        refine ⟨v.set n (no_susp fun _ _ _ _ _ _ w => by cases w), ?_⟩
        unfold Wakes
        rw [qs]
        exact ⟨rfl, swS_set n⟩
    | suspended k0 l0 c0 p0 fs0 cl =>
      obtain ⟨e1, s1, hr, qt, rfl, rfl⟩ := h
      cases et : T g with
      | some x =>
        obtain ⟨⟨k1, l1, c1, p1, fs1, cl1, rfl⟩, w⟩ := v.fro g x et
        rw [q] at w
        cases w
        exact absurd rfl (runs_dead hr "asleep")
      | none =>
        obtain ⟨a, b, d⟩ := runs_swap hr (v.pla g _ _ _ _ _ _ et q) (v.set et (no_susp fun _ _ _ _ _ _ w => by cases w))
        rw [swS_set et] at d
        refine ⟨a.set et (end_gen b), ?_⟩
        unfold Wakes
        rw [show (swS T s).gens[g]? = some (.suspended k0 l0 c0 p0 fs0 cl) from sw_free q et]
        exact ⟨e1, _, d, qt, rfl, swS_set et⟩
    | running =>
      obtain ⟨rfl, rfl⟩ := h
      refine ⟨v, ?_⟩
      unfold Wakes
      rw [show (swS T _).gens[g]? = some .running from sw_free q (v.free q fun _ _ _ _ _ _ w => by cases w)]
      exact ⟨rfl, rfl⟩
    | finished =>
      obtain ⟨rfl, rfl⟩ := h
      refine ⟨v, ?_⟩
      unfold Wakes
      rw [show (swS T _).gens[g]? = some .finished from sw_free q (v.free q fun _ _ _ _ _ _ w => by cases w)]
      exact ⟨rfl, rfl⟩
theorem wp_swap {α : Type} (M : Model) (T : Nat → Option GenState) (Γ : Ctx) (t : Sem α) : ∀ (Q : α → Pos → Shared → Prop) (E : Value → Pos → Shared → Prop) (p : Pos) (s : Shared), Iv T s.gens → wp M Γ t Q E p s →
    wp M Γ t (fun a p' s' => ∃ sh, Iv T sh.gens ∧ s' = swS T sh ∧ Q a p' sh) (fun e p' s' => ∃ sh, Iv T sh.gens ∧ s' = swS T sh ∧ E e p' sh) p (swS T s) := by
  induction t with
  | pure a => intro Q E p s v h; exact ⟨s, v, rfl, h⟩
  | raise e => intro Q E p s v h; exact ⟨s, v, rfl, h⟩
  | unsupported _ => intro Q E p s _ h; exact h
  | finish _ => intro Q E p s _ h; exact h
  | rule _ k ih => intro Q E p s v h; exact ih () Q E p s v h
  | «at» p' k ih => intro Q E p s v h; exact ih () Q E p' s v h
  | load a _ k ih => intro Q E p s v h; obtain ⟨o, ho, h⟩ := h; exact ⟨o, ho, ih o Q E p s v h⟩
  | update a _ f k ih => intro Q E p s v h; exact ⟨h.1, ih () Q E p { s with heap := s.heap.update a f } v h.2⟩
  | loadIfAlive a k ih => intro Q E p s v h; exact ih _ Q E p s v h
  | point _ k ih => intro Q E p s v h; exact ih () Q E p s v h
  | register _ _ => intro Q E p s _ h; exact h
  | alloc o k ih => intro Q E p s v h; exact ih _ Q E p { s with heap := s.heap.push o } v h
  | fresh k ih => intro Q E p s v h; exact ih _ Q E p { s with toks := s.toks + 1 } v h
  | ask k ih => intro Q E p s v h; exact ih _ Q E p s v h
  | choose src m k ih => intro Q E p s v h; exact ⟨h.1, ih _ Q E p { s with drawn := s.drawn.bump src } v h.2⟩
  | os q _ k ih => intro Q E p s v h; exact ih _ Q E p { s with os := (Os.step s.os q).1 } v h
  | call c hd _ _ k ih =>
    intro Q E p s v h
    obtain ⟨r, s', hr, h⟩ := h
    obtain ⟨a, _, d⟩ := runs_swap hr rfl v
    exact ⟨r, _, d, ih r Q E p s' a h⟩
  | handled own k ih => intro Q E p s v h; exact ih _ Q E p s v h
  | genState g k ih =>
    intro Q E p s v h
    obtain ⟨st, hs, h⟩ := h
    obtain ⟨y, hy, sy⟩ := sw_at v hs
    refine ⟨y, hy, ?_⟩
    rw [sy]
    exact ih _ Q E p s v h
  | newGen c k ih =>
    intro Q E p s v h
    have z := ih _ Q E p { s with gens := s.gens.push (.fresh c) } (v.push (x := .fresh c) (no_susp fun _ _ _ _ _ _ q => by cases q)) h
    rw [swS_new v] at z
    show wp M Γ (k (swS T s).gens.size) _ _ p _
    rw [swS_size]
    exact z
  | resume g r _ k ih =>
    intro Q E p s v h
    obtain ⟨res, s', hw, h⟩ := h
    obtain ⟨a, d⟩ := wakes_swap hw v
    exact ⟨res, _, d, ih res Q E p s' a h⟩
  | yield _ _ _ _ => intro Q E p s _ h; exact h
  | stack k ih => intro Q E p s v h; exact ih _ Q E p s v h
  | fork _ _ => intro Q E p s _ h; exact h
  | thread k ih => intro Q E p s v h; exact ih _ Q E p s v h
  | await _ _ _ _ _ => intro Q E p s _ h; exact h
/-- all generators that sleep, put out of reach -/
def hid (s : Shared) : Shared := { s with gens := s.gens.map dead }
def tab (G : Array GenState) (i : Nat) : Option GenState := match G[i]? with
  | some (.suspended k l c p fs cl) => some (.suspended k l c p fs cl)
  | _ => none
theorem tab_iv (G : Array GenState) : Iv (tab G) (G.map dead) := by
  refine ⟨fun i x e => ?_, fun i k l c p fs cl e h => ?_⟩
  · unfold tab at e
    cases q : G[i]? with
    | none => rw [q] at e; cases e
    | some y =>
      rw [q] at e
      cases y with
      | suspended k l c p fs cl =>
        cases e
        exact ⟨⟨_, _, _, _, _, _, rfl⟩, by rw [Array.getElem?_map, q] <;> rfl⟩
      | _ => cases e
  · unfold tab at e
    rw [Array.getElem?_map] at h
    cases q : G[i]? with
    | none => rw [q] at h; cases h
    | some y =>
      rw [q] at e h
      cases y with
      | suspended k l c p fs cl => cases e
      | _ => cases h
theorem tab_sw (G : Array GenState) : sw (tab G) (G.map dead) = G := by
  refine Array.ext_getElem? fun i => ?_
  rw [sw_get, Array.getElem?_map]
  unfold tab
  cases q : G[i]? with
  | none => rfl
  | some y => cases y <;> rfl
theorem hid_sw (s : Shared) : swS (tab s.gens) (hid s) = s := by
  unfold swS hid
  rw [tab_sw]
/-- what is shown while all that sleep is out of reach holds, and they sleep on -/
theorem asleep {α : Type} {M : Model} {A : Around} {s : Shared} {t : Sem α} {Q : α → Shared → Prop} {E : Value → Shared → Prop} (h : wpAny M A t Q E (hid s)) :
    wpAny M A t (fun a s' => ∃ sh, Iv (tab s.gens) sh.gens ∧ s' = swS (tab s.gens) sh ∧ Q a sh) (fun e s' => ∃ sh, Iv (tab s.gens) sh.gens ∧ s' = swS (tab s.gens) sh ∧ E e sh) s := by
  intro Γ p hΓ
  have z := wp_swap M (tab s.gens) Γ t _ _ p (hid s) (tab_iv s.gens) (h Γ p hΓ)
  rw [hid_sw] at z
  exact z
end Slp


/-! one segment of a generator's run, up to where it hands out a value or ends -/
namespace Sg
open PySem PyProof.Rows GenW L2
open Sem (wp)
def SegG (M : Model) (A : Around) (Φ : End → Shared → Prop) (c : Code) (t : Sem PySem.Fin) (fs : List Frame) (s : Shared) : Prop :=
  ∀ (Γ : PySem.Ctx) (p : Pos), Γ.code = c → Γ.Woken A → ∃ e s', Runs M Γ p t fs s e s' ∧ Φ e s'
section
variable {M : Model} {A : Around} {Φ : End → Shared → Prop} {c : Code} {fs : List Frame} {s : Shared}
end
def GoesG (M : Model) (A : Around) (Φ : End → Shared → Prop) (gs : GenState) (r : Resume) (s : Shared) : Prop :=
  match gs with
  | .fresh c => r = .send .none ∧ SegG M A Φ c (M.den c) [] s
  | .suspended k _ c _ fs _ => SegG M A Φ c (k r) fs s
  | _ => False
section
variable {M : Model}
end
/-- how a segment may end: for good, by an exception, or with a value handed out -/
def PhiOf (F : Shared → Prop) (Er : Value → Shared → Prop) (Yd : Value → GenState → Shared → Prop) (e : End) (s : Shared) : Prop :=
  e.quiet = true ∧ match e with
  | .ret r => ((r = .ok (.ret .none) ∨ r = .ok .next) ∧ F s) ∨ ∃ x, r = .error x ∧ Er x s
  | .susp v g l k c p fs => Yd v (End.susp v g l k c p fs).genState s
section
variable {P : Program} {w : World} {A : Around} {E : Value → Shared → Prop} {s : Shared}
end
end Sg


/-! a generator's body between two wakings: its context is anchored anew at each -/
namespace Sg
open PySem PyProof.Rows GenW L2
/-- what a generator promises: at its i-th waking on a heap it hands out a value, or it ends, or it raises -/
structure It2 where
  wk : Nat → Hp → Hp → Prop
  yld : Nat → Hp → V → Hp → Prop
  fin : Nat → Hp → Hp → Prop
  ex : Nat → Hp → XK
structure Gz where
  P : Program
  w : World
  K : PySem.W.Frag
  mg : Str → Option Value
  base : Heap
  N : List Str
  qual : Str
  scope : Scope
  n : Nat
  f : Addr
  cd : Value
  A : Around
  outer : List Env
  os : OsState
  ag : Addr
  g : Nat
  go : Obj
  pa : List Addr
  J : It2
structure An where
  i : Nat
  s : Shared
  H : Hp
  pn : List (Addr × Obj)
/-- what it raises: what is pinned is not tracked -/
def Gz.Ex (Z : Gz) (a : An) : XK := fun cls d H' => Z.J.ex a.i a.H cls d H' ∧ ∀ p ∈ (Z.ag, Z.go) :: a.pn, H' p.1 = none
abbrev Gz.env (Z : Gz) : Env := envOfC Z.qual Z.scope Z.n Z.f Z.cd
def Gz.cx (Z : Gz) (a : An) : Cx where
  prog := Z.P
  w := Z.w
  K := Z.K
  mg := Z.mg
  base := Z.base
  A := Z.A.deeper Z.env
  N := Z.N
  s_0 := a.s
  H_0 := a.H
  env := Z.env
  outer := Z.outer
  stack := Z.env :: Z.outer
  ex := []
  calm := true
  fn := fun _ => true
  pn := (Z.ag, Z.go) :: a.pn
  xe := fun e s' => wpAny (model Z.P Z.w) (Z.A.deeper Z.env) (leaving Z.env e)
      (fun _ s'' => CX Z.P Z.w Z.outer a.H a.s (Z.Ex a) e s'' ∧ ∀ p ∈ (Z.ag, Z.go) :: a.pn, s''.heap.get? p.1 = some p.2) (fun _ _ => False) s'
structure Gz.Ok (Z : Gz) : Prop where
  frames : Z.A.frames = some Z.outer
  hd : Z.A.handled = none
  mod : Mod Z.K Z.mg Z.base
  bsz : Z.base.objs.size ≤ Z.n
  frl : ∀ b ∈ frs Z.outer, b < Z.n
  kind : Z.scope.kind = .function
  cells : Z.env.cells = []
  loc : ∀ x k, Z.scope.names.lookup x = some k → k ≠ .cell ∧ k ≠ .free
  agn : Z.n < Z.ag
  npa : Z.n ∉ Z.pa
  apa : Z.ag ∉ Z.pa
  gen : Z.go.cls = .type "generator" ∧ (∃ nm qn, Z.go.data = .fields #[.int Z.g 0, nm, qn]) ∧ Z.go.slots = #[]
/-- the heap's first n objects -/
def cutH (n : Nat) (h : Heap) : Heap := { h with objs := h.objs.extract 0 n }
def cutS (n : Nat) (s : Shared) : Shared := { s with heap := cutH n s.heap }
/-- how a segment leaves things, against its anchor -/
structure Ret (Z : Gz) (a : An) (H : Hp) (s : Shared) : Prop where
  os : s.os = Z.os
  bare : AllBare s.gens
  un : Un (frs Z.outer) [] a.H H a.s.heap s.heap
  hok : HOk Z.P Z.w H s.heap
  pin : ∀ p ∈ (Z.ag, Z.go) :: a.pn, s.heap.get? p.1 = some p.2 ∧ H p.1 = none
  base : ∀ b o, Z.base.get? b = some o → s.heap.get? b = some o ∧ H b = none
structure AnOk (Z : Gz) (a : An) : Prop where
  sz : a.s.heap.objs.size = Z.n
  os : a.s.os = Z.os
  pa : a.pn.map (·.1) = Z.pa
/-- what the consumer gives when it wakes the generator; ks: what must be as it was -/
structure Woke (Z : Gz) (ks : List (Addr × Obj)) (H : Hp) (pc : List (Addr × Obj)) (s : Shared) : Prop where
  os : s.os = Z.os
  bare : AllBare s.gens
  bs : ∀ b o, Z.base.get? b = some o → s.heap.get? b = some o ∧ H b = none
  funs : s.heap.FunFrames Z.base Z.outer
  frf : ∀ b ∈ frs Z.outer, H b = none
  hok : HOk Z.P Z.w H s.heap
  ks : ∀ p ∈ ks, s.heap.get? p.1 = some p.2 ∧ H p.1 = none
  pa : pc.map (·.1) = Z.pa
  pc : ∀ p ∈ pc, s.heap.get? p.1 = some p.2 ∧ H p.1 = none ∧ p.1 ∉ frs Z.outer ∧ ∀ v, p.2.data ≠ .cell v
/-- what sleeps -/
structure KsOk (Z : Gz) (ks : List (Addr × Obj)) (H : Hp) (s : Shared) : Prop where
  at_ : ∀ p ∈ ks, s.heap.get? p.1 = some p.2 ∧ H p.1 = none ∧ Z.n ≤ p.1 ∧ p.1 ∉ Z.pa ∧ ∀ v, p.2.data ≠ .cell v
  ag : (Z.ag, Z.go) ∈ ks
def PhiW (Z : Gz) (Sl : Nat → GenState → List (Addr × Obj) → Hp → Prop) (a : An) : End → Shared → Prop :=
  PhiOf (fun s => ∃ H, Ret Z a H s ∧ Z.J.fin a.i a.H H)
    (fun e s => CX Z.P Z.w Z.outer a.H a.s (Z.Ex a) e s ∧ ∀ p ∈ (Z.ag, Z.go) :: a.pn, s.heap.get? p.1 = some p.2)
    (fun v gs s => (∃ k l c p fs cl, gs = .suspended k l c p fs cl) ∧ ∃ x H ks, RelV x v ∧ Ret Z a H s ∧ Z.J.yld a.i a.H x H ∧ KsOk Z ks H s ∧ Sl (a.i + 1) gs ks H)
def Gz.Slp (Z : Gz) : Nat → Nat → GenState → List (Addr × Obj) → Hp → Prop
  | 0 => fun _ _ _ _ => True
  | n + 1 => fun i gs ks Hs => ∀ (s : Shared) (H : Hp) (pc : List (Addr × Obj)), Woke Z ks H pc s → Z.J.wk i Hs H → GoesG (model Z.P Z.w) Z.A (PhiW Z (Z.Slp n) ⟨i, cutS Z.n s, H, pc⟩) gs (.send .none) s
def Gz.Phi (Z : Gz) (n : Nat) (a : An) : End → Shared → Prop := PhiW Z (Z.Slp n) a
/-- what is wanted behind a statement of a generator -/
structure GE where
  nx : An → L2.St → Hp → Prop
  rt : An → V → Hp → Prop
  bk : An → L2.St → Hp → Prop := fun _ _ _ => False
  ct : An → L2.St → Hp → Prop := fun _ _ _ => False
abbrev TG2 := GE → An → L2.St → Hp → Prop
def GE.at (D : GE) (a : An) : Ends := { nx := D.nx a, rt := D.rt a, bk := D.bk a, ct := D.ct a }
structure GC2 (Z : Gz) (ip : List (Addr × Obj)) (c : Code) (fs : List Frame) (gd : Bool → Bool) : Prop where
  ok : Z.Ok
  ip : ∀ p ∈ ip, p.1 ∉ Z.pa ∧ Z.n < p.1
  over : Z.A.over c fs = Z.A.deeper Z.env
  split : splitAtGen fs = none
  guard : fs.any Frame.guarded = false
  gd : gd false = false
structure GK2 (Z : Gz) (ip : List (Addr × Obj)) (c : Code) (fs : List Frame) (Kc : Flow → Sem PySem.Fin) (Jc : Value → Sem PySem.Fin) (D : GE) : Prop where
  ok : ∀ (n : Nat) (a : An) (s : Shared) (f : Flow), AnOk Z a → SP (Z.cx a) ip (D.at a) f s → SegG (model Z.P Z.w) Z.A (Z.Phi n a) c (Kc f) fs s
  exc : ∀ (n : Nat) (a : An) (e : Value) (s : Shared), AnOk Z a → (Z.cx a).xe e s → SegG (model Z.P Z.w) Z.A (Z.Phi n a) c (Jc e) fs s
structure GS2 (Z : Gz) (st : Stmt) (t : TG2) : Prop where
  run : ∀ (n : Nat) (ip : List (Addr × Obj)) (c : Code) (fs : List Frame) (Kc : Flow → Sem PySem.Fin) (Jc : Value → Sem PySem.Fin) (gd : Bool → Bool) (lv : List Value → List Value) (a : An) (s : Shared) (σ : L2.St) (H : Hp) (D : GE),
    GC2 Z ip c fs gd → GK2 Z ip c fs Kc Jc D → AnOk Z a → Inv (Z.cx a) ip σ H s → t D a σ H → SegG (model Z.P Z.w) Z.A (Z.Phi n a) c ((exec st Z.env).wrap Kc Jc gd lv) fs s
structure GSs2 (Z : Gz) (st : List Stmt) (t : TG2) : Prop where
  run : ∀ (n : Nat) (ip : List (Addr × Obj)) (c : Code) (fs : List Frame) (Kc : Flow → Sem PySem.Fin) (Jc : Value → Sem PySem.Fin) (gd : Bool → Bool) (lv : List Value → List Value) (a : An) (s : Shared) (σ : L2.St) (H : Hp) (D : GE),
    GC2 Z ip c fs gd → GK2 Z ip c fs Kc Jc D → AnOk Z a → Inv (Z.cx a) ip σ H s → t D a σ H → SegG (model Z.P Z.w) Z.A (Z.Phi n a) c ((execs st Z.env).wrap Kc Jc gd lv) fs s
section
variable {Z : Gz} {st : Stmt} {rest : List Stmt} {pos yp : Pos}
def tPl (t : An → TS) : TG2 := fun D a σ H => t a (D.at a) σ H
def t2Nil : TG2 := fun D a σ H => D.nx a σ H
def t2Then (t u : TG2) : TG2 := fun D a σ H => t { D with nx := fun a' σ' H' => u D a' σ' H' } a σ H
/-! ### yield -/
def t2Y (J : It2) (te : An → TE) : TG2 := fun D a σ H => te a σ H fun x H1 => J.yld a.i a.H x H1 ∧ ∀ s' H' pc, J.wk (a.i + 1) H1 H' → D.nx ⟨a.i + 1, s', H', pc⟩ σ H'
/-! ### if -/
def t2If (tc : An → TT) (t u : TG2) : TG2 := fun D a σ H => tc a σ H fun b H1 => if b = true then t D a σ H1 else u D a σ H1
end
end Sg


/-! a for in a generator's body -/
namespace Sg
open PySem PyProof.Rows GenW L2
section
variable {M : Model} {A : Around} {Φ : End → Shared → Prop} {c : Code} {fs : List Frame} {s : Shared} {env : Env}
end
section
variable {prog : Program} {w : World} {A : Around} {Φ : End → Shared → Prop} {fs : List Frame} {s : Shared} {env : Env}
/-- an exception is noted, and leaves the loop's code -/
def noted (env : Env) (x : Value) : Sem PySem.Fin := (do noteFrame x env; theTreesLotGoes x : Sem Unit).wrap (fun _ => .raise x) .raise id id
end
section
variable {Z : Gz}
def t2For (wi : An → TI) (g : An → TG) (tb : TG2) : TG2 := fun D a σ H => wi a σ H fun J H1 => ∃ W : Nat → Nat → An → L2.St → Hp → Prop, (∃ m, W 0 m a σ H1) ∧ ∀ i m a σ H, W i m a σ H →
  (J.stop i H ∧ D.nx a σ H) ∨ (J.go i H ∧ ∃ N : An → L2.St → Hp → Prop, (∀ a' σ' H', N a' σ' H' → ∃ m', m' < m ∧ W (i + 1) m' a' σ' H') ∧
    ∀ x H', J.yld i H x H' → g a x σ H' fun σ2 H2 => tb { D with nx := N, ct := N, bk := D.nx } a σ2 H2)
end
end Sg


/-! yield from of a list, in a generator whose consumer runs code between the yields -/
namespace Sg
open PySem PyProof.Rows GenW L2
section
variable {prog : Program} {w : World} {A : Around} {E : Value → Shared → Prop} {s : Shared}
end
section
variable {M : Model} {A : Around} {Φ : End → Shared → Prop} {c : Code} {fs : List Frame} {s : Shared}
end
section
variable {Z : Gz} {pos yp : Pos}
def t2From (Z : Gz) (te : An → TE) : TG2 := fun D a σ H => te a σ H fun x H1 => ∃ b xs, x = .ref b ∧ ∃ W : Nat → An → Hp → Prop, W 0 a H1 ∧ ∀ i a H, W i a H →
  SqL Z.K H b xs ∧ (∀ x, xs[i]? = some x → Z.J.yld a.i a.H x H ∧ ∀ s' H' pc, Z.J.wk (a.i + 1) H H' → W (i + 1) ⟨a.i + 1, s', H', pc⟩ H') ∧ (i = xs.length → D.nx a σ H)
end
end Sg


/-! a generator def's promise, by its body -/
namespace Sg
open PySem PyProof.Rows GenW L2
abbrev SpG2 := List V → Hp → (It2 → Prop) → Prop
def mkZ (P : Program) (w : World) (K : PySem.W.Frag) (mg : Str → Option Value) (base : Heap) (N : List Str) (qual : Str) (scope : Scope) (f : Addr) (cd : Value) (n : Nat) (A : Around) (outer : List Env) (os : OsState) (ag : Addr) (g : Nat) (go : Obj) (pa : List Addr) (J : It2) : Gz :=
  ⟨P, w, K, mg, base, N, qual, scope, n, f, cd, A, outer, os, ag, g, go, pa, J⟩
/-- what a call of a generator def gives -/
def GMade2 (P : Program) (w : World) (K : PySem.W.Frag) (mg : Str → Option Value) (base : Heap) (k : Nat) (outer : List Env) (H : Hp) (s : Shared) (C : It2 → Prop) (u : Value) (s' : Shared) : Prop :=
  ∃ (a : Addr) (g : Nat) (c : Code), u = .ref a ∧ s.heap.objs.size < a ∧ a < s'.heap.objs.size ∧ s'.heap.IsGen a g ∧ s'.gens[g]? = some (.fresh c) ∧ s'.os = s.os ∧ AllBare s'.gens ∧ s'.heap.NoLimit ∧ (∀ b o, s.heap.get? b = some o → s'.heap.get? b = some o) ∧
    ∃ (N : List Str) (qual : Str) (scope : Scope) (f : Addr) (cd : Value) (go : Obj) (ks : List (Addr × Obj)), ∀ (A : Around) (pa : List Addr) (J : It2), C J → Room k A → A.frames = some outer → (∀ b ∈ pa, s'.heap.objs.size ≤ b) →
      (mkZ P w K mg base N qual scope f cd s.heap.objs.size A outer s.os a g go pa J).Ok ∧ KsOk (mkZ P w K mg base N qual scope f cd s.heap.objs.size A outer s.os a g go pa J) ks H s' ∧
      ∀ n, (mkZ P w K mg base N qual scope f cd s.heap.objs.size A outer s.os a g go pa J).Slp n 0 (.fresh c) ks H
structure GFn2 (P : Program) (w : World) (K : PySem.W.Frag) (mg : Str → Option Value) (base : Heap) (k : Nat) (f : Addr) (fd : FuncData) (ps : List Str) (sp : SpG2) : Prop where
  len : ∀ vs H C, sp vs H C → vs.length = ps.length
  run : ∀ (A : Around) (outer : List Env) (s : Shared) (H : Hp) (args : Args) (us : List Value) (vs : List V) (C : It2 → Prop), Room k A → Env0 P w K mg base A outer s H → BindsTo s fd args (ps.zip us) → Vals vs us → sp vs H C →
    codeAny (model P w) A (.call (.ref f) args) (fun r s' => match r with | .ok (.ret u) => GMade2 P w K mg base k outer H s C u s' | _ => False) s
end Sg


/-! who draws from a generator: its next value; for x in g(..) -/
namespace Sg
open PySem PyProof.Rows GenW L2
section
variable {X : Cx} {pins : List (Addr × Obj)} {σ : L2.St} {H : Hp} {s sh : Shared}
end
/-- an exception that is wished for is wished for whatever sleeps -/
def SwX (X : Cx) : Prop := ∀ (T : Nat → Option GenState) (e : Value) (sh : Shared), Slp.Iv T sh.gens → X.xe e sh → X.xe e (Slp.swS T sh)
/-- where the consumer's own things stand: ahead of the generator's, or pinned -/
structure Con (X : Cx) (pins : List (Addr × Obj)) (n : Nat) (pa td : List Addr) : Prop where
  ent : ∀ b o, X.s_0.heap.get? b = some o → b < n ∨ b ∈ X.ex ∨ b ∈ td
  td : ∀ b ∈ td, X.H_0 b ≠ none
  loc : (X.env.locals < n ∧ X.env.locals ∈ frs X.stack) ∨ X.env.locals ∈ pa
  cel : ∀ x c, X.env.cells.lookup x = some c → c < n
  pin : ∀ p ∈ X.pn ++ pins, p.1 < n ∨ p.1 ∈ pa
section
variable {X : Cx} {pins : List (Addr × Obj)} {σ : L2.St} {H H1 : Hp} {s s1 s2 : Shared} {n : Nat} {pa td : List Addr}
end
abbrev zOf (X : Cx) (N : List Str) (qual : Str) (scope : Scope) (f : Addr) (cd : Value) (n : Nat) (os : OsState) (ag : Addr) (g : Nat) (go : Obj) (pa : List Addr) (J : It2) : Gz :=
  mkZ X.prog X.w X.K X.mg X.base N qual scope f cd n X.A.in1 X.stack os ag g go pa J
section
variable {X : Cx} {pins : List (Addr × Obj)} {σ : L2.St} {H : Hp} {s : Shared} {N : List Str} {qual : Str} {scope : Scope} {f : Addr} {cd : Value} {n : Nat} {os : OsState} {ag : Addr} {g : Nat} {go : Obj} {pa td : List Addr} {J : It2}
end
end Sg


/-! for x in g(..); [.. for x in g(..)] -/
namespace Sg
open PySem PyProof.Rows GenW L2
abbrev TGen2 := L2.St → Hp → ((It2 → Prop) → Hp → Prop) → Prop
structure PGen2 (X : Cx) (k : Nat) (e : Expr) (tg : TGen2) : Prop where
  run : ∀ (pins : List (Addr × Obj)) (s : Shared) (σ : L2.St) (H : Hp) (R : (It2 → Prop) → Hp → Prop) (E : Value → Shared → Prop), (∀ e s, X.xe e s → E e s) → Inv X pins σ H s → tg σ H R → wpAny (model X.prog X.w) X.A (eval e X.env)
    (fun u s' => ∃ H1 sc J, Inv X pins σ H1 sc ∧ GMade2 X.prog X.w X.K X.mg X.base k X.stack H1 sc J u s' ∧ R J H1) E s
section
variable {X : Cx} {k : Nat} {f C : Addr} {fd : FuncData} {ps : List Str} {sp : SpG2} {dvs : List V} {ds : List Value} {x m : Str} {p pos pos' apos : Pos} {o e : Expr} {es : List Expr} {ta : TE} {t : TA}
def tCallG2 (sp : SpG2) (dvs : List V) (t : TA) : TGen2 := fun σ H R => t σ H fun vs H1 => ∃ C, sp (vs ++ dvs) H1 C ∧ R C H1
def tMethG2 (C : Addr) (m : Str) (sp : SpG2) (dvs : List V) (ta : TE) (t : TA) : TGen2 := fun σ H R => ta σ H fun x H1 => ∃ a dx fs, x = .ref a ∧ H1 a = some (.ins C dx fs) ∧ fs.lookup m = none ∧
  t σ H1 fun vs H2 => ∃ J, sp (x :: (vs ++ dvs)) H2 J ∧ R J H2
end
section
variable {X : Cx}
def tForG (tg : TGen2) (g : TG) (tb : TS) : TS := fun D σ H => tg σ H fun C H1 => ∃ J, C J ∧ ∃ W : Nat → Nat → Hp → L2.St → Hp → Prop, (∃ m, W 0 m H1 σ H1) ∧ ∀ i m Hs σ H, W i m Hs σ H →
  J.wk i Hs H ∧ (∀ cls d H', ¬ J.ex i H cls d H') ∧ (∀ H', J.fin i H H' → D.nx σ H') ∧ ∀ x H', J.yld i H x H' → ∃ N : L2.St → Hp → Prop, (∀ σ' H'', N σ' H'' → ∃ m', m' < m ∧ W (i + 1) m' H' σ' H'') ∧
    g x σ H' fun σ2 H2 => tb { D with nx := N, ct := N, bk := D.nx } σ2 H2
end
end Sg


/-! [.. for x in g(..)] -/
namespace Sg
open PySem PyProof.Rows GenW L2
/-- the objects between n and m -/
def rng (n m : Nat) : List Addr := (List.range m).filter fun b => decide (n ≤ b)
section
variable {X : Cx}
def tLcG (tgen : TGen2) (g : TG) (tt : TT) (te : TE) (vs : List Nat) : TE := fun σ H Q => tgen σ H fun C H1 => ∀ D, H1 D = none → ∃ J, C J ∧ ∃ W : Nat → Nat → Hp → Hp → Prop, (∃ m, W 0 m H1 (upd H1 D (.lst []))) ∧ ∀ i m Hs H, W i m Hs H →
  J.wk i Hs H ∧ (∀ cls d H', ¬ J.ex i H cls d H') ∧ (∀ H', J.fin i H H' → H' D ≠ none ∧ Q (.ref D) H') ∧ ∀ x H', J.yld i H x H' → H' D ≠ none ∧ ∃ Nx : Hp → Prop, (∀ H'', Nx H'' → ∃ m', m' < m ∧ W (i + 1) m' H' H'') ∧
    g x (wipe σ vs) H' fun σ2 H2 => wipe σ2 vs = wipe σ vs ∧ tt σ2 H2 fun b H3 =>
      if b = true then te σ2 H3 fun y H4 => ∃ acc, H4 D = some (.lst acc) ∧ acc.length < sizeLine ∧ Nx (upd H4 D (.lst (acc ++ [y]))) else Nx H3
end
end Sg
namespace Sg
open PySem PyProof.Rows GenW L2
/-- what stood stays, but for mu -/
def KpM (mu : Addr → Prop) (Hs H : Hp) : Prop := ∀ b u, Hs b = some u → ¬ mu b → H b = some u
end Sg


/-! Forest.walk: a generator -/
namespace FT
open PySem L2 TL ClX LiI Sg
def rowsW (ts : List (Str × Str)) : List (Str × Int) := walkN ts (ts.length + 1) "" 1
def itWalk (zs : List (Str × Int)) (mu : Addr → Prop) : It2 where
  wk := fun _ Hs H => KpM mu Hs H ∧ ∀ b, mu b → H b ≠ none
  yld := fun i H v H' => Same H H' ∧ ∃ r z, v = .ref r ∧ zs[i]? = some z ∧ RowW H' r z
  fin := fun i H H' => i = zs.length ∧ Same H H'
  ex := fun _ _ _ _ _ => False
def spWalk (CF : Addr) : SpG2 := fun vs H C => ∃ (x : Addr) (ts : List (Str × Str)), vs = [.ref x] ∧ TreeOk ts ∧ (rowsW ts).length ≤ 1000 ∧
  C = fun J => ∃ mu : Addr → Prop, (∀ H', KpM mu H H' → FAt CF H' x ts) ∧ J = itWalk (rowsW ts) mu
section
variable {P : Program} {w : World} {K : PySem.W.Frag} {mg : Str → Option Value} {base : Heap}
abbrev NWk : List Str := ["self"]
end
end FT


/-! plain: a walk goes to every flag below a place once -/
namespace FT
open PySem L2 TL
section
variable {ts : List (Str × Str)}
theorem path_endW (o : TreeOk ts) {a : Str} (h : Pl ts a) (n : a ≠ "") : a ∈ pathOf ts a := by
  obtain ⟨rk, r⟩ := o.up
  obtain ⟨p, ep, _, _⟩ := o.step r (h.resolve_left n)
  rw [path_step o (h.resolve_left n) ep]
  exact List.mem_append_right _ (List.mem_singleton.mpr rfl)
/-- above a flag on the way: the root, or on the way too -/
theorem path_upW (o : TreeOk ts) {rk : Str → Nat} (r : Rk ts rk) {z p : Str} (ep : par ts z = some p) : ∀ (k : Nat) (n : Str), rk n < k → n ∈ ts.map Prod.fst → z ∈ pathOf ts n → p = "" ∨ p ∈ pathOf ts n := by
  intro k
  induction k with
  | zero => intro n h; exact absurd h (Nat.not_lt_zero _)
  | succ k ih =>
    intro n hk mn mz
    obtain ⟨q, eq, hq, _⟩ := o.step r mn
    have st := path_step o mn eq
    rw [st] at mz ⊢
    by_cases pe : p = ""
    · exact .inl pe
    refine .inr (List.mem_append_left _ ?_)
    rcases List.mem_append.mp mz with m | m
    · rcases hq with e | ⟨mq, lt⟩
      · rw [e, path_root] at m
        cases m
      · exact (ih q (by omega) mq m).resolve_left pe
    · rw [List.mem_singleton.mp m, eq] at ep
      have e := Option.some.inj ep
      subst e
      exact path_endW o (hq.imp id fun h => h.1) pe
/-- the one child of a on the way to n -/
theorem child_on (o : TreeOk ts) {rk : Str → Nat} (r : Rk ts rk) {a : Str} (pa : Pl ts a) : ∀ (k : Nat) (n : Str), rk n < k → n ∈ ts.map Prod.fst → n ≠ a → (a = "" ∨ a ∈ pathOf ts n) →
    ∃ c, c ∈ kids ts a ∧ c ∈ pathOf ts n ∧ ∀ c' ∈ kids ts a, c' ∈ pathOf ts n → c' = c := by
  intro k
  induction k with
  | zero => intro n h; exact absurd h (Nat.not_lt_zero _)
  | succ k ih =>
    intro n hk mn ne h
    obtain ⟨p, ep, hp, _⟩ := o.step r mn
    have st := path_step o mn ep
    by_cases e : p = a
    · refine ⟨n, (kid_par o).mpr (e ▸ ep), by rw [st]; exact List.mem_append_right _ (List.mem_singleton.mpr rfl), fun c' k' m' => ?_⟩
      rw [st] at m'
      rcases List.mem_append.mp m' with m' | m'
      · exfalso
        rw [e] at m'
        have ec := (kid_par o).mp k'
        have mc := mem_kids.mp k'
        by_cases ea : a = ""
        · rw [ea, path_root] at m'
          cases m'
        · have h1 := path_rank o r (rk a + 1) a pa (fun _ => Nat.lt_succ_self _) c' m'
          obtain ⟨_, h2⟩ := r _ mc
          rcases h2 with h2 | ⟨_, h2⟩
          · exact ea h2
          · have h2 : rk a < rk c' := h2
            omega
      · exact List.mem_singleton.mp m'
    · have pne : p ≠ "" := by
        intro z
        rcases h with h | h
        · exact e (z.trans h.symm)
        · rw [st, z, path_root, List.nil_append] at h
          exact ne (List.mem_singleton.mp h).symm
      obtain ⟨mp, lt⟩ := hp.resolve_left pne
      obtain ⟨c, h1, h2, h3⟩ := ih p (by omega) mp e (h.imp id fun h => by
        rw [st] at h
        rcases List.mem_append.mp h with h | h
        · exact h
        · exact absurd (List.mem_singleton.mp h).symm ne)
      refine ⟨c, h1, by rw [st]; exact List.mem_append_left _ h2, fun c' k' m' => ?_⟩
      rw [st] at m'
      rcases List.mem_append.mp m' with m' | m'
      · exact h3 c' k' m'
      · rw [List.mem_singleton.mp m'] at k'
        have := (kid_par o).mp k'
        rw [ep] at this
        exact absurd (Option.some.inj this) e
end
end FT


/-! Forest.children -/
namespace FT
open PySem L2 TL ClX LiI
def spKids (CF : Addr) : Sp := fun vs H Q _ => ∃ (x : Addr) (ts : List (Str × Str)) (a : Str), vs = [.ref x, .str a] ∧ FAt CF H x ts ∧ TreeOk ts ∧ Pl ts a ∧ ∀ p H', Same H H' → H p = none → H' p = some (.lst ((kids ts a).map V.str)) → Q (.ref p) H'
section
variable {P : Program} {w : World} {K : PySem.W.Frag} {mg : Str → Option Value} {base : Heap}
abbrev NKi : List Str := ["self", "place", "name"]
theorem scKi : FnScope NKi ["self", "place"] (defScope s_Forest_children) := ⟨rfl, rfl, rfl, by decide +kernel, rfl, by decide +kernel, by decide +kernel⟩
theorem ok_kids {f fN CF : Addr} {fd fdN : FuncData} (F : Fun K "children" "Forest.children" s_Forest_children f fd) (O : FoC K CF) (DN : Dn P w K mg base CX0 1 "need_place" ["forest", "place"] (spNeedPl CF) fN fdN) :
    FnOk P w K mg base CX0 2 f fd ["self", "place"] (spKids CF) := by
  refine F.ok scKi (fun vs H Q E h => ?_) (fun cdv A outer s H vs Q E hr h => ?_)
  · obtain ⟨x, ts, a, rfl, _⟩ := h
    rfl
  · obtain ⟨x, ts, a, rfl, fa, o, pl, k⟩ := h
    have hu := hu_of hr
    have nd := scKi.nd
    have big : 1000 ≤ sizeLine := by decide
    have few := o.few
    refine ⟨_, pss_cons (ps_expr (pe_call DN.ok hr rfl DN.mgn DN.kp DN.bn .nil pass0 (pa_cons (pv 0) (pa_cons (pv 1) pa_nil))))
      (pss_one (ps_ret (pe_lock (pe_lc (own := [("name", 2)]) (g := gName 2) (tt := tTest (tOp rEq (tDGet (tFld K (tVar 0) "above") (tVar 2)) (tVar 1))) (te := tVar 2) rfl nd (pi_keys (pe_fld (pv 0) rfl))
        (blkOk_by (N := NKi) (sc := defScope s_Forest_children) (by decide +kernel)) (fun _ _ _ _ _ => pg_name (i := 2) nd rfl (Or.inl rfl))
        (fun _ _ _ _ _ => pts_one (pt_cmpR op_eq (pe_dget hu (pe_fld (pv 0) rfl) (pv 2) (fun _ _ => rfl)) (pv 1) (nomark _))) (fun _ _ _ _ _ => pv 2))))), ?_⟩
    obtain ⟨dx, dq, hx, hd⟩ := id fa
    refine ⟨_, rfl, _, rfl, x, ts, a, rfl, fa, o, pl, ?_⟩
    refine ⟨dq, .dK (prs ts), hd, trivial, fun od => ⟨_, rfl, x, CF, dx, _, .ref dq, rfl, by rw [upd_ne (ne_of hx hd (by intro z; cases z))]; exact hx, O.cl, O.nA, rfl, dq, od, rfl, .inl ⟨prs ts, upd_same, fun D nD => ?_⟩⟩⟩
    have hx1 : (upd H dq (.frz od (.dK (prs ts)))) x = some (.ins CF dx [("above", .ref dq)]) := by rw [upd_ne (ne_of hx hd (by intro z; cases z))]; exact hx
    have Dq : D ≠ dq := (ne_of_none upd_same nD).symm
    refine lc_it walk_keys (fun i H' => Same (upd H dq (.frz od (.dK (prs ts)))) H' ∧ H' D = some (.lst ((kids (ts.take i) a).map V.str))) ⟨same_new nD, upd_same⟩ (fun i H' _ z => z.1 _ _ upd_same) ?_ ?_
    · intro i y Ha Hb hi ⟨q1, q2⟩ ⟨eb, kk, vv, hk, ey⟩
      subst eb
      subst ey
      obtain ⟨⟨b, pb⟩, hp, ee⟩ : ∃ z : Str × Str, ts[i]? = some z ∧ (kk, vv) = (Sum.inr z.1, V.str z.2) := by
        unfold prs kvT at hk
        rw [List.map_map, List.getElem?_map] at hk
        obtain ⟨z, hz, e⟩ := Option.map_eq_some_iff.mp hk
        exact ⟨z, hz, e.symm⟩
      cases ee
      rw [show kV (Sum.inr b) = V.str b from rfl]
      have ep := par_of o.nd (List.mem_of_getElem? hp)
      have more := kids_snoc (ts.take i) (b, pb) a
      rw [← take_more hp] at more
      have kl : (kids (ts.take i) a).length ≤ 12 := by
        unfold kids
        rw [List.length_map]
        have := List.length_filter_le (fun q : Str × Str => decide (q.2 = a)) (ts.take i)
        rw [List.length_take] at this
        omega
      refine ⟨rfl, ?_⟩
      refine ⟨_, rfl, x, CF, dx, _, .ref dq, rfl, q1 _ _ hx1, O.cl, O.nA, rfl, _, rfl, dq, .str pb, rfl, dget_prs (.inr ⟨od, q1 _ _ upd_same⟩) ep, _, rfl, rfl, _, rfl, ?_⟩
      by_cases e : pb = a
      · rw [decide_eq_true (show V.str pb = V.str a by rw [e])]
        rw [if_pos e] at more
        show if true = true then _ else _
        rw [if_pos rfl]
        exact ⟨_, rfl, _, q2, by rw [List.length_map]; omega, q1.put nD, by rw [upd_same, more, List.map_append] <;> rfl⟩
      · rw [decide_eq_false (show ¬ V.str pb = V.str a from fun z => e (V.str.inj z))]
        rw [if_neg e, List.append_nil] at more
        exact ⟨q1, by rw [more]; exact q2⟩
    · intro H' ⟨q1, q2⟩
      rw [prs_len, List.take_length] at q2
      exact ⟨q1 _ _ upd_same, k D _ (unlock_same hd q1) (by rw [upd_ne Dq] at nD; exact nD) (by rw [upd_ne Dq]; exact q2)⟩
end
end FT


/-! is_integer -/
namespace FT
open PySem L2 TL ClX
section
variable {P : Program} {w : World} {K : PySem.W.Frag} {mg : Str → Option Value} {base : Heap}
theorem scIsInt : FnScope ["value", "least"] ["value", "least"] (defScope s_is_integer) := ⟨rfl, rfl, rfl, by decide +kernel, rfl, by decide +kernel, by decide +kernel⟩
theorem ok_isInt {f : Addr} {fd : FuncData} (F : Fun K "is_integer" "is_integer" s_is_integer f fd) (T : Nm mg) : FnOk P w K mg base CX0 1 f fd ["value", "least"] (spIsInt K) := by
  refine F.ok scIsInt (fun vs H Q E h => ?_) (fun cdv A outer s H vs Q E hr h => ?_)
  · obtain ⟨v, l, rfl, _⟩ := h
    rfl
  · obtain ⟨v, l, rfl, ⟨t, d⟩, k⟩ := h
    refine ⟨_, pss_one (ps_ret (pe_and (pe_callB call_isi (by rfl) T.isi (by decide +kernel) (pa_cons (pv 0) (pa_cons (pe_bltn (v := .ty "int") (u := .type "int") (by rfl) T.int (by decide +kernel) rfl) pa_nil)))
      (pe_and (pe_not (pe_callB call_isi (by rfl) T.isi (by decide +kernel) (pa_cons (pv 0) (pa_cons (pe_bltn (v := .ty "bool") (u := .type "bool") (by rfl) T.bool (by decide +kernel) rfl) pa_nil)))) (pe_one (pe_cmpR op_ge (pv 0) (pv 1) (nomark _)))))), ?_⟩
    refine ⟨_, rfl, v, _, _, _, _, rfl, .ty _, d.ty, d.int_, _, rfl, ?_⟩
    refine ite2 (fun yes => ⟨_, rfl, v, _, _, _, _, rfl, .ty _, d.ty, d.bool_, _, rfl, _, rfl, ?_⟩) (fun no => ?_)
    · refine ite2 (fun yes2 => ?_) (fun no2 => ?_)
      · cases v with
        | int i => exact ⟨_, rfl, _, rfl, i, l, rfl, rfl, k⟩
        | bl b => cases yes2
        | _ => cases yes
      · cases v with
        | int i => exact absurd rfl no2
        | bl b => exact k
        | _ => cases yes
    · cases v with
      | int i => exact absurd rfl no
      | bl b => exact absurd rfl no
      | _ => exact k
end
end FT


/-! need_users -/
namespace FT
open PySem L2 TL ClX
section
variable {P : Program} {w : World} {K : PySem.W.Frag} {mg : Str → Option Value} {base : Heap}
theorem scUsers : FnScope ["users", "most"] ["users", "most"] (defScope s_need_users) := ⟨rfl, rfl, rfl, by decide +kernel, rfl, by decide +kernel, by decide +kernel⟩
theorem ok_users {f fI CU IU : Addr} {fd fdI dU : FuncData} (F : Fun K "need_users" "need_users" s_need_users f fd) (T : Nm mg) (I : Dn P w K mg base CX0 1 "is_integer" ["value", "least"] (spIsInt K) fI fdI) (U : Er0 P w K mg base "InvalidUsers" CU IU dU) :
    FnOk P w K mg base (L2.CX P w) 3 f fd ["users", "most"] (spUsers K CU) := by
  refine F.okX scUsers (fun vs H Q E h => ?_) (fun cdv A outer s H vs Q E hr h => ?_)
  · obtain ⟨v, m, rfl, _⟩ := h
    rfl
  · obtain ⟨v, m, rfl, d, k⟩ := h
    refine ⟨_, pss_one (ps_if (PW.pt (pw_or (pt_not (pt_val (pe_call I.ok (hr.mono (by decide)) rfl I.mgn I.kp I.bn .nil pass0 (pa_cons (pv 0) (pa_cons pe_int pa_nil))))) (pw_or1 (pt_cmpR op_gt (pv 0) (pv 1) (nomark _))))) (pss_one (ps_err0 U rfl (takes_of rfl rfl rfl rfl) hr rfl)) pss_nil), ?_⟩
    refine ⟨_, rfl, v, 1, rfl, d, _, rfl, ?_⟩
    cases v with
    | int i =>
      by_cases h1 : 1 ≤ i
      · rw [show isGe (.int i) 1 = true from decide_eq_true h1]
        refine iteF ?_
        refine ⟨_, rfl, _, rfl, i, m, rfl, rfl, _, rfl, ?_⟩
        by_cases h2 : i ≤ m
        · rw [decide_eq_false (show ¬ m < i by omega)]
          rw [if_pos (show usersOk (.int i) m = true by show (decide (1 ≤ i) && decide (i ≤ m)) = true; rw [decide_eq_true h1, decide_eq_true h2] <;> rfl)] at k
          exact iteF (k H Same.refl)
        · rw [decide_eq_true (show m < i by omega)]
          rw [if_neg (show ¬ usersOk (.int i) m = true by show ¬ (decide (1 ≤ i) && decide (i ≤ m)) = true; rw [decide_eq_false h2, Bool.and_false]; decide)] at k
          exact iteT (out0 k Same.refl)
      · rw [show isGe (.int i) 1 = false from decide_eq_false h1]
        rw [if_neg (show ¬ usersOk (.int i) m = true by show ¬ (decide (1 ≤ i) && decide (i ≤ m)) = true; rw [decide_eq_false h1, Bool.false_and]; decide)] at k
        show if true = true then _ else _
        rw [if_pos rfl]
        exact iteT (out0 k Same.refl)
    | _ =>
      show if true = true then _ else _
      rw [if_pos rfl]
      exact iteT (out0 k Same.refl)
end
end FT


/-! has_two_chains, is_memoryless -/
namespace FT
open PySem L2 TL ClX LiI
def twoC (ts : List (Str × Str)) : Bool := decide ((kids ts "").length ≤ 2) && (ts.map Prod.fst).all fun n => decide ((kids ts n).length ≤ 1)
def memC (ts : List (Str × Str)) (v : V) : Bool := decide (v = .int 1) || twoC ts
def spTwoC (CF : Addr) : Sp := fun vs H Q _ => ∃ (x : Addr) (ts : List (Str × Str)), vs = [.ref x] ∧ FAt CF H x ts ∧ TreeOk ts ∧ ∀ H', Same H H' → Q (.bl (twoC ts)) H'
def spMem (K : PySem.W.Frag) (CF CU : Addr) : Sp := fun vs H Q E => ∃ (x : Addr) (ts : List (Str × Str)) (v : V), vs = [.ref x, v] ∧ FAt CF H x ts ∧ TreeOk ts ∧ IsDat K H v ∧
  if usersOk v (10 ^ 30) = true then ∀ H', Same H H' → Q (.bl (memC ts v)) H' else Out H E (.e0 CU)
section
variable {P : Program} {w : World} {K : PySem.W.Frag} {mg : Str → Option Value} {base : Heap}
abbrev NTw : List Str := ["forest", "name"]
theorem scTw : FnScope NTw ["forest"] (defScope s_has_two_chains) := ⟨rfl, rfl, rfl, by decide +kernel, rfl, by decide +kernel, by decide +kernel⟩
theorem ok_twoC {f fC CF p1 g1 : Addr} {mc : Value} {fd fdC fd1 : FuncData} (F : Fun K "has_two_chains" "has_two_chains" s_has_two_chains f fd) (T : Nm mg) (O : FoC K CF) (Z : Fc K mg CF mc)
    (DC : Mt P w K mg base CX0 2 CF "children" ["self", "place"] (spKids CF) fC fdC) (L1 : Pr1 P w K mg base CF "flags" (spFFlags CF) p1 g1 fd1) : FnOk P w K mg base CX0 3 f fd ["forest"] (spTwoC CF) := by
  obtain ⟨ur, cr⟩ := Z.root
  refine F.ok scTw (fun vs H Q E h => ?_) (fun cdv A outer s H vs Q E hr h => ?_)
  · obtain ⟨x, ts, rfl, _⟩ := h
    rfl
  · obtain ⟨x, ts, rfl, fa, o, k⟩ := h
    have hu := hu_of hr
    have nd := scTw.nd
    have big : 1000 ≤ sizeLine := by decide
    have few := o.few
    have hr1 : Room 2 _ := hr.mono (by decide)
    refine ⟨_, pss_one (ps_ret (pe_and (pe_cmpR op_le (pe_callB call_len_seq (by rfl) T.len PySem.boot_len (pa_cons (pe_meth (pv 0) O.cl DC.mt DC.fn hr DC.bn .nil pass0 (pa_cons (pe_cval (pe_glob (v := .ref CF) (by rfl) Z.gF rfl)) pa_nil)) pa_nil)) pe_int (nomark _))
      (pe_one (pe_callB (cr_all rfl) (by rfl) T.all (by decide +kernel) (pa_cons (pe_lc (own := [("name", 1)]) (g := gName 1) (tt := tYes) (te := tOp (rI0 fun i j => .bl (decide (i ≤ j))) (tCB (fun xs H Q => ∃ p ys, xs = [.ref p] ∧ (SqL K H p ys ∨ SqT K H p ys) ∧ Q (.int ys.length) H) (tCons (tMeth CF "children" (spKids CF) [] E0 (tVar 0) (tCons (tVar 1) tNil)) tNil)) (tC (.int 1))) rfl nd
        (pi_list (pe_prop (pv 0) O.cl L1.pr L1.fn hr1 L1.bn .nil pass0 (by rfl)))
        (blkOk_by (N := NTw) (sc := defScope s_has_two_chains) (by decide +kernel)) (fun _ _ _ _ _ => pg_name (i := 1) nd rfl (Or.inl rfl)) (fun _ _ _ _ _ => pts_nil)
        (fun _ _ _ _ _ => pe_cmpR op_le (pe_callB call_len_seq (by rfl) T.len PySem.boot_len (pa_cons (pe_meth (pv 0) O.cl DC.mt DC.fn hr DC.bn .nil pass0 (pa_cons (pv 1) pa_nil)) pa_nil)) pe_int (nomark _))) pa_nil))))), ?_⟩
    obtain ⟨dx, dq, hx, hd⟩ := id fa
    refine ⟨_, rfl, x, dx, _, rfl, hx, rfl, CF, mc, _, ur, rfl, Z.rd, cr, x, ts, "", rfl, fa, o, .inl rfl, fun p H1 s1 np hp => ⟨p, _, rfl, .inl (SqL.of hp), _, _, rfl, rfl, _, rfl, ?_⟩⟩
    rw [List.length_map]
    refine ite2 (fun yes => ?_) (fun no => ?_)
    rotate_left
    · have e : twoC ts = false := by
        unfold twoC
        rw [decide_eq_false (fun z => no (decide_eq_true (by omega))), Bool.false_and]
      rw [e] at k
      exact k _ s1
    · have e : twoC ts = (ts.map Prod.fst).all fun n => decide ((kids ts n).length ≤ 1) := by
        unfold twoC
        rw [decide_eq_true (by have := of_decide_eq_true yes; omega), Bool.true_and]
      rw [e] at k
      refine ⟨_, rfl, x, dx, _, rfl, s1 _ _ hx, x, ts, rfl, fa.mono s1, fun pf nf => ⟨pf, rfl, ⟨_, SqL.of upd_same⟩, fun D nD => ?_⟩⟩
      obtain ⟨H2, e2⟩ : ∃ X, X = upd H1 pf (.lst ((ts.map Prod.fst).map V.str)) := ⟨_, rfl⟩
      have s2 : Same H1 H2 := e2 ▸ same_new nf
      have a2 : H2 pf = some (.lst ((ts.map Prod.fst).map V.str)) := by rw [e2]; exact upd_same
      rw [← e2] at nD ⊢
      refine lc_it walk_list (fun i H' => Same H2 H' ∧ H' D = some (.lst ((((ts.map Prod.fst).take i).map fun n => decide ((kids ts n).length ≤ 1)).map V.bl))) ⟨same_new nD, upd_same⟩ (fun i H' _ z => SqL.of (z.1 _ _ a2)) ?_ ?_
      · intro i y Ha Hb hi ⟨q1, q2⟩ ⟨eb, ex⟩
        subst eb
        obtain ⟨b, hb, rfl⟩ := map_of ex
        have mb := List.mem_of_getElem? hb
        have s0 := (s1.trans s2).trans q1
        refine ⟨rfl, ?_⟩
        refine ⟨_, rfl, x, dx, _, rfl, s0 _ _ hx, rfl, _, rfl, x, ts, b, rfl, fa.mono s0, o, .inr mb, fun pu Hu su npu hpu => ⟨pu, _, rfl, .inl (SqL.of hpu), _, _, rfl, rfl, ?_⟩⟩
        refine ⟨_, su _ _ q2, ?_, (q1.trans su).put nD, ?_⟩
        · rw [List.length_map, List.length_map, List.length_take, List.length_map]
          omega
        · rw [upd_same, take_more hb, List.map_append, List.map_append, List.length_map] <;> (first | rfl | (simp; omega))
      · intro H3 ⟨q1, q2⟩
        rw [List.length_map, List.take_length] at q2
        refine ⟨D, _, rfl, SqL.of q2, ?_⟩
        have := k _ ((s1.trans s2).trans q1)
        rw [show ((ts.map Prod.fst).all fun n => decide ((kids ts n).length ≤ 1)) = ((ts.map Prod.fst).map fun n => decide ((kids ts n).length ≤ 1)).all id by simp only [List.all_map] <;> rfl] at this
        exact this
theorem scMem : FnScope ["forest", "users"] ["forest", "users"] (defScope s_is_memoryless) := ⟨rfl, rfl, rfl, by decide +kernel, rfl, by decide +kernel, by decide +kernel⟩
theorem ok_mem {f fU fT CF CU : Addr} {fd fdU fdT : FuncData} {tm : Tok} (F : Fun K "is_memoryless" "is_memoryless" s_is_memoryless f fd) (gM : mg "MOST_COUNTED" = some (.int (10 ^ 30) tm)) (U : Dn P w K mg base (L2.CX P w) 3 "need_users" ["users", "most"] (spUsers K CU) fU fdU)
    (D2 : Dn P w K mg base CX0 3 "has_two_chains" ["forest"] (spTwoC CF) fT fdT) : FnOk P w K mg base (L2.CX P w) 4 f fd ["forest", "users"] (spMem K CF CU) := by
  refine F.okX scMem (fun vs H Q E h => ?_) (fun cdv A outer s H vs Q E hr h => ?_)
  · obtain ⟨x, ts, v, rfl, _⟩ := h
    rfl
  · obtain ⟨x, ts, v, rfl, fa, o, dv, k⟩ := h
    refine ⟨_, pss_cons (ps_expr (pe_call U.ok hr rfl U.mgn U.kp U.bn .nil (passes_call (takes_of rfl rfl rfl rfl) (fun _ _ _ _ h => h)) (pa_cons (pv 1) (pa_cons (pe_glob (v := .int (10 ^ 30)) (by rfl) gM ⟨_, rfl⟩) pa_nil))))
      (pss_one (ps_ret (pe_or (pe_cmpR op_eq (pv 1) pe_int (nomark _)) (pe_one (pe_call D2.ok hr rfl D2.mgn D2.kp D2.bn .nil pass0 (pa_cons (pv 0) pa_nil)))))), ?_⟩
    refine ⟨_, rfl, v, 10 ^ 30, rfl, dv, ?_⟩
    by_cases h : usersOk v (10 ^ 30) = true
    · rw [if_pos h] at k ⊢
      intro H1 s1
      refine ⟨_, rfl, ?_⟩
      cases v with
      | int n =>
        refine ⟨rfl, _, rfl, ?_⟩
        refine ite2 (fun yes => ?_) (fun no => ?_)
        · have e : memC ts (.int n) = true := by unfold memC; rw [yes, Bool.true_or]
          rw [e] at k
          exact k _ s1
        · have e : memC ts (.int n) = twoC ts := by
            unfold memC
            rw [show decide (V.int n = V.int 1) = false by cases q : decide (V.int n = V.int 1) with | true => exact absurd q no | false => rfl, Bool.false_or]
          rw [e] at k
          exact ⟨_, rfl, x, ts, rfl, fa.mono s1, o, fun H2 s2 => k _ (s1.trans s2)⟩
      | _ => cases h
    · rw [if_neg h] at k ⊢
      exact k
end
end FT


namespace FT
open PySem L2 TL ClX
section
variable {P : Program} {w : World} {K : PySem.W.Frag} {mg : Str → Option Value} {base : Heap}
abbrev NRes : List Str := ["forest", "users", "sizes", "found", "parents", "name", "place"]
end
end FT


namespace FT
open PySem L2 TL ClX
section
variable {P : Program} {w : World} {K : PySem.W.Frag} {mg : Str → Option Value} {base : Heap}
abbrev NFe : List Str := ["forest", "users", "sizes", "name", "left", "place"]
end
end FT


/-! Own: repr over the layer. repr asks what calls of repr are under way (A.guards), and the layer's contracts do not tell it: a contract FnG that tells it too, its rule for a def's body, its call, the end. -/
namespace L2
open PySem PySem.Spec PyProof.Rows
/-- no repr is under way -/
abbrev Clr (A : Around) : Prop := A.guards = some []
theorem Clr.deeper {A : Around} {env : Env} (h : Clr A) : Clr (A.deeper env) := by
  have h' : A.guards = some [] := h
  show (A.deeper env).guards = some []
  first
    | exact h'
    | (simp [Around.deeper, h', pushGuards, Code.guards, Code.isGuard])
structure FnG (P : Program) (w : World) (K : PySem.W.Frag) (mg : Str → Option Value) (base : Heap) (CX : CXT) (k : Nat) (f : Addr) (fd : FuncData) (ps : List Str) (sp : Sp) : Prop where
  len : ∀ vs H Q E, sp vs H Q E → vs.length = ps.length
  run : ∀ (A : Around) (outer : List Env) (s : Shared) (H : Hp) (args : Args) (us : List Value) (vs : List V) (Q : VK) (E : XK), Clr A → Room k A → Env0 P w K mg base A outer s H → BindsTo s fd args (ps.zip us) → Vals vs us → sp vs H Q E →
    codeAny (model P w) A (.call (.ref f) args) (CR CX outer P w H s Q E) s
theorem FnOk.g {P : Program} {w : World} {K : PySem.W.Frag} {mg : Str → Option Value} {base : Heap} {CX : CXT} {k : Nat} {f : Addr} {fd : FuncData} {ps : List Str} {sp : Sp} (F : FnOk P w K mg base CX k f fd ps sp) : FnG P w K mg base CX k f fd ps sp :=
  ⟨F.len, fun A outer s H args us vs Q E _ => F.run A outer s H args us vs Q E⟩
section
variable {P : Program} {w : World} {K : PySem.W.Frag} {mg : Str → Option Value} {base : Heap}
/-- a def by its body, where nothing is raised out of it -/
theorem Fun.okG {x qual : Str} {st : Stmt} {f : Addr} {fd : FuncData} {N ps : List Str} {k : Nat} {sp : Sp} (F : Fun K x qual st f fd) (S : FnScope N ps (defScope st)) (len : ∀ vs H Q E, sp vs H Q E → vs.length = ps.length)
    (body : ∀ (cdv : Value) (A : Around) (outer : List Env) (s : Shared) (H : Hp) (vs : List V) (Q : VK) (E : XK), Clr A → Room k (A.deeper (envOfC qual (defScope st) s.heap.objs.size f cdv)) → sp vs H Q E →
      ∃ t, PSs (cxOf CX0 P w K mg base N qual (defScope st) f cdv A outer s H E).nox (defBody st) t ∧ t { nx := fun _ H' => Q .non H', rt := Q } (start N vs) H) : FnG P w K mg base CX0 (k + 1) f fd ps sp := by
  obtain ⟨oc, od, kV, doc, pm, an, cdv, ct, osl, rfl, lk, code⟩ := F.ex
  refine ⟨len, fun A outer s H args us vs Q E clr room e0 binds rel want => ?_⟩
  have nps := len _ _ _ _ want
  have KX : K.In s.heap := e0.mod.kin.keeps fun b o e => (e0.bs b o e).1
  have lim : s.heap.NoLimit := e0.mod.nolimit.keeps fun b o e => (e0.bs b o e).1
  refine codeAny_call_function room.depth (KX _ _ lk) rfl S.co S.gen rfl (PySem.W.codeRec_of KX code) (binds _ _ _ _ (wpAny_newFunctionEnv_cells S.kind (fun y hy => ?_) fun env he s1 x => ?_))
  · obtain ⟨n, v⟩ := y
    exact (S.par n (List.of_mem_zip hy).1).elim .inl fun q => .inr ⟨q, PySem.W.cellsFrom_some _ _ _ (.inl q)⟩
  · subst he
    obtain ⟨t, term, q⟩ := body cdv A outer s H vs Q E clr (room.deeper _) want
    have I : Inv (cxOf CX0 P w K mg base N qual (defScope st) f cdv A outer s H E) [] (start N vs) H s1 := inv_start S room.hd e0 nps rel x
    refine ⟨lim.keeps x.toInCall.keep, codeAny_func (wpAny_mono (term.nox.run [] s1 (start N vs) H _ I q) (fun fl s' z => ?_) fun _ _ z => z)⟩
    match fl, z with
    | .ret u, ⟨v, _, H', J, rv, q⟩ => exact ⟨v, H', J.os, J.bare, J.base, J.hok, rv, q⟩
    | .next, ⟨_, H', J, q⟩ => exact ⟨.non, H', J.os, J.bare, J.base, J.hok, rfl, q⟩
    | .brk, ⟨_, _, _, q⟩ => exact q.elim
    | .cont, ⟨_, _, _, q⟩ => exact q.elim
end
section
variable {X : Cx} {CX : CXT} {k : Nat} {f : Addr} {fd : FuncData} {ps : List Str} {sp : Sp} {dvs : List V} {ds : List Value} {E : XK} {x : Str} {p pos : Pos} {e : Expr} {es : List Expr} {t : TA}
/-! ### repr -/
/-- what is shown: data without dicts, or the empty dict -/
def Shw (K : PySem.W.Frag) (H : Hp) (x : V) (d : PyData) : Prop := (Dp K H x d ∧ d.hasDict = false) ∨ ∃ a, x = .ref a ∧ H a = some (.dK []) ∧ d = .dict []
def rRepr (K : PySem.W.Frag) : List V → Hp → VK → Prop := fun xs H Q => ∃ (x : V) (d : PyData), xs = [x] ∧ Shw K H x d ∧ d.showable = true ∧ d.depth ≤ 60 ∧ d.shown.length ≤ sizeLine ∧ Q (.str d.shown) H
theorem Shw.reads {pins : List (Addr × Obj)} {σ : St} {H : Hp} {s : Shared} {x : V} {u : Value} {d : PyData} (h : Shw X.K H x d) (I : Inv X pins σ H s) (r : RelV x u) : ∃ as, Reads s.heap u d as ∧ (d.hasDict = true → sysModules ∉ as) := by
  rcases h with ⟨h, nd⟩ | ⟨a, rfl, e, rfl⟩
  · obtain ⟨as, q⟩ := Dp.reads I d x u h r
    exact ⟨as, q, PyData.noDict_hsm nd⟩
  · obtain rfl : u = Value.ref a := r
    obtain ⟨_, ns, vs, kv, o, es, ep, h1, h2, h3, h4⟩ := (show ObjOk X.prog X.w H s.heap a (.dK []) from I.hok a _ e)
    cases kv
    have hes : es.toList = [] := by
      obtain ⟨_, h5, _⟩ := h4
      revert h5
      generalize es.toList = l
      intro h5
      cases h5
      rfl
    refine ⟨a :: [] ++ [], .dict h1 h2.1 h3 (by rw [hes]; exact .nil) (by rw [hes]; exact .nil), fun _ hm => ?_⟩
    have hm' : sysModules = a := by simpa using hm
    rw [hm'] at ns
    simp at ns
theorem call_repr (clr : Clr X.A) (hu : X.A.units + 64 < cLine) : CallR X (.builtin "repr") (rRepr X.K) := by
  intro pins s σ H xs us Q I r h
  obtain ⟨x, d, rfl, sh, ok, dep, few, q⟩ := h
  obtain ⟨u, rfl, ru⟩ := vals1 r
  obtain ⟨as, rd, sm⟩ := sh.reads I ru
  have fin : ∀ h' (t : Tok) tk, (∀ b o, s.heap.get? b = some o → h'.get? b = some o) → EP X pins σ Q (.str d.shown t) { s with heap := h', toks := tk } := fun h' t tk kp => ⟨.str d.shown, H, I.kept kp, ⟨t, rfl⟩, q⟩
  cases u with
  | ref a => exact repr_of_reads' rd ok sm clr (by omega) (fun _ _ z => z) fin few
  | none => cases rd; exact PySem.P.repr_of_none (fin _ _ _ fun _ _ z => z)
  | bool b => cases rd; exact PySem.P.repr_of_bool (fin _ _ _ fun _ _ z => z)
  | int i t => cases rd; exact PySem.P.repr_of_int (by simpa [PyData.showable] using ok) (fin _ _ _ fun _ _ z => z)
  | str y t => cases rd; exact PySem.P.repr_of_str (fin _ _ _ fun _ _ z => z) few
  | _ => cases rd
end
end L2


/-! a dict with one key that is None or a tuple beside ints and texts: it is stored, counted, walked by keys, its class is asked -/
namespace PySem
open Sem (wp)
section
variable {prog : Program} {w : World} {A : Around} {E : Value → Shared → Prop} {s : Shared}
/-- no stored key is this one: what is stored is carried by value -/
structure Missed (s : Shared) (k : NestedKey) (es : Array DictEntry) : Prop where
  all : ∀ e ∈ es, carriedByValue e.key = true ∧ ∃ k', NestedIs s.heap k' e.key ∧ k'.depth = 0 ∧ NestedKey.beq k' k = false
end
end PySem
namespace PySem
open Sem (wp)
section
variable {prog : Program} {w : World} {A : Around} {E : Value → Shared → Prop} {s : Shared}
end
end PySem
namespace L2
open PySem PySem.Spec PyProof.Rows
/-- a plain dict whose keys may be of any kind: what is stored, in order -/
def RawO (d : Addr) (rows : List (V × V)) : HO := .ext fun h => (d == sysModules) = false ∧ rows.length ≤ sizeLine ∧ ∃ es ep, h.DictRaw d es ep ∧ Paired (fun (r : V × V) (e : DictEntry) => RelV r.1 e.key ∧ RelV r.2 e.val) rows es.toList
def rowsK (kvs : List (Key × V)) : List (V × V) := kvs.map fun p => (kV p.1, p.2)
/-- None, or a tracked tuple of ints and texts -/
def OddK (H : Hp) (y : V) : Prop := y = .non ∨ ∃ (b : Addr) (ks : List Key), y = .ref b ∧ H b = some (.tup (ks.map kV))
def nkK : Key → NestedKey
  | .inl i => .num i
  | .inr x => .text x
/-- d[y] = v, y None or a tuple, d a dict of ints and texts -/
def RPut (H : Hp) (a : Addr) (y v : V) (H' : Hp) : Prop := ∃ kvs, H a = some (.dK kvs) ∧ OddK H y ∧ kvs.length < sizeLine ∧ H' = upd H a (RawO a (rowsK kvs ++ [(y, v)]))
section
variable {X : Cx} {pins : List (Addr × Obj)} {σ : St} {H : Hp} {s : Shared} {a : Addr} {y v : V} {u r : Value} {A : Around} {E : Value → Shared → Prop}
end
end L2
namespace L2
open PySem PySem.Spec PyProof.Rows
/-- d[y] = v, y of any kind -/
def sRPut (td ty tv : TE) : TS := fun D σ H => tv σ H fun v H1 => td σ H1 fun x H2 => ty σ H2 fun y H3 => ∃ a H4, x = .ref a ∧ (DPut H3 a y v H4 ∨ RPut H3 a y v H4) ∧ D.nx σ H4
/-- the rows of a dict: of ints and texts, or of any keys -/
def RowsO (d : Addr) (u : HO) (rows : List (V × V)) : Prop := (∃ kvs, u = .dK kvs ∧ rows = rowsK kvs) ∨ u = RawO d rows
def Itkr (d : Addr) (o : Obj) (rows : List (V × V)) : It :=
  ⟨fun i H => H d = some (.frz o (RawO d rows)) ∧ i < rows.length, fun i H x H' => H' = H ∧ ∃ v, rows[i]? = some (x, v), fun i H => H d = some (.frz o (RawO d rows)) ∧ rows.length ≤ i⟩
section
variable {X : Cx} {pins : List (Addr × Obj)} {σ : St} {H : Hp} {s : Shared} {d : Addr} {o : Obj} {rows : List (V × V)}
end
section
variable {P : Program} {w : World} {K : PySem.W.Frag} {tg : Expr} {d : Addr} {o : Obj} {es : Array DictEntry} {ep : Nat}
end
/-- for k in d: d of ints and texts, or of any keys (locked) -/
def iKeysO (td : TE) : TI := fun σ H R => td σ H fun x H1 => ∃ (d : Addr) (o : Obj) (u : HO) (rows : List (V × V)), x = .ref d ∧ H1 d = some (.frz o u) ∧ RowsO d u rows ∧
  ∀ J, Walk J rows.length (fun H => H d = some (.frz o u)) (fun i H x H' => H' = H ∧ ∃ v, rows[i]? = some (x, v)) → R J H1
section
variable {X : Cx} {tg e : Expr} {td : TE}
def rLenR : List V → Hp → VK → Prop := fun xs H Q => ∃ (a : Addr) (rows : List (V × V)), xs = [V.ref a] ∧ H a = some (RawO a rows) ∧ Q (.int ((rows.length : Nat) : Int)) H
end
end L2


/-! need_feasible, where the sizes may be a dict with a key of another kind -/
namespace FT
open PySem L2 TL ClX
theorem FnOk.or {P : Program} {w : World} {K : PySem.W.Frag} {mg : Str → Option Value} {base : Heap} {CX : CXT} {k : Nat} {f : Addr} {fd : FuncData} {ps : List Str} {sp sp' : Sp} (h : FnOk P w K mg base CX k f fd ps sp) (h' : FnOk P w K mg base CX k f fd ps sp') :
    FnOk P w K mg base CX k f fd ps (fun vs H Q E => sp vs H Q E ∨ sp' vs H Q E) := by
  refine ⟨fun vs H Q E q => ?_, fun A outer s H args us vs Q E r e0 b v q => ?_⟩
  · rcases q with q | q
    · exact h.len _ _ _ _ q
    · exact h'.len _ _ _ _ q
  · rcases q with q | q
    · exact h.run A outer s H args us vs Q E r e0 b v q
    · exact h'.run A outer s H args us vs Q E r e0 b v q
def spFeasR (CF CS : Addr) : Sp := fun vs H _ E => ∃ (x b : Addr) (n : Int) (ts : List (Str × Str)) (rows : List (V × V)), vs = [.ref x, .int n, .ref b] ∧ FAt CF H x ts ∧ TreeOk ts ∧ H b = some (RawO b rows) ∧ rows.length ≠ ts.length ∧ Out H E (.e1 CS "place" .non)
def spFeasM (K : PySem.W.Frag) (CF CS : Addr) : Sp := fun vs H Q E => spFeas K CF CS vs H Q E ∨ spFeasR CF CS vs H Q E
section
variable {P : Program} {w : World} {K : PySem.W.Frag} {mg : Str → Option Value} {base : Heap}
end
end FT


/-! sizes of any kind: data, or a dict with a key of another kind -/
namespace FT
open PySem L2 TL ClX
/-- a value for sizes of m flags: a dict with the entries o, or no dict of as many entries -/
def SzM (K : PySem.W.Frag) (H : Hp) (m : Nat) (sv : V) (o : Option (List (Key × V))) : Prop := SzV K H sv o ∨ (o = none ∧ ∃ b rows, sv = .ref b ∧ H b = some (RawO b rows) ∧ rows.length ≠ m)
theorem SzM.mono {K : PySem.W.Frag} {H H' : Hp} {m : Nat} {sv : V} {o : Option (List (Key × V))} (s : Same H H') (h : SzM K H m sv o) : SzM K H' m sv o := by
  rcases h with h | ⟨e, b, rows, e1, e2, e3⟩
  · exact .inl (h.mono s)
  · exact .inr ⟨e, b, rows, e1, s _ _ e2, e3⟩
theorem SzM.some {K : PySem.W.Frag} {H : Hp} {m : Nat} {sv : V} {kvs : List (Key × V)} (h : SzM K H m sv (some kvs)) : SzV K H sv (some kvs) := by
  rcases h with h | ⟨e, _⟩
  · exact h
  · cases e
def spFeasZ (K : PySem.W.Frag) (CF CS : Addr) : Sp := fun vs H Q E => ∃ (x : Addr) (n : Int) (sv : V) (ts : List (Str × Str)) (o : Option (List (Key × V))), vs = [.ref x, .int n, sv] ∧ FAt CF H x ts ∧ TreeOk ts ∧ SzM K H ts.length sv o ∧ Res H Q E (feE CS ts n o)
/-! ### sizes that a law has bent -/
def KeyB : Key → Prop
  | .inl i => i = 3
  | .inr z => NameL z ∨ z = ""
def RawK (H : Hp) (x : V) : Prop := x = .non ∨ (∃ z, x = .str z ∧ NameL z) ∨ ∃ c, x = .ref c ∧ H c = some (.tup [.str "a"])
def BentV (K : PySem.W.Frag) (H : Hp) (m : Nat) (sv : V) : Option (List (Key × V)) → Prop
  | some kvs => ∃ q, sv = .ref q ∧ H q = some (.dK kvs) ∧ (∀ p ∈ kvs, IsDat K H p.2) ∧ (kvs.map (·.1)).Nodup ∧ kvs.length ≤ 13 ∧ ∀ p ∈ kvs, KeyB p.1
  | none => (∃ T, Dat K H sv T ∧ T ≠ "dict") ∨ ∃ b rows, sv = .ref b ∧ H b = some (RawO b rows) ∧ rows.length = m + 1 ∧ rows.length ≤ 13 ∧ ∀ r ∈ rows, RawK H r.1
theorem BentV.mono {K : PySem.W.Frag} {H H' : Hp} {m : Nat} {sv : V} {o : Option (List (Key × V))} (s : Same H H') (h : BentV K H m sv o) : BentV K H' m sv o := by
  cases o with
  | some kvs =>
    obtain ⟨q, e, h1, h2, h3⟩ := h
    exact ⟨q, e, s _ _ h1, fun p hp => (h2 p hp).mono s, h3⟩
  | none =>
    rcases h with ⟨T, d, n⟩ | ⟨b, rows, e, h1, h2, h4, h3⟩
    · exact .inl ⟨T, d.mono s, n⟩
    · refine .inr ⟨b, rows, e, s _ _ h1, h2, h4, fun r hr => ?_⟩
      rcases h3 r hr with z | z | ⟨c, z, hc⟩
      · exact .inl z
      · exact .inr (.inl z)
      · exact .inr (.inr ⟨c, z, s _ _ hc⟩)
end FT


/-! feasible sizes are at most the users (plain maths) -/
namespace FT
open PySem L2 TL ClX
theorem sum_nnW {f : Str → Int} : ∀ {l : List Str}, (∀ a ∈ l, 0 ≤ f a) → 0 ≤ (l.map f).sum
  | [], _ => Int.le_refl _
  | a :: l, h => by
    rw [List.map_cons, List.sum_cons]
    have := h a (List.mem_cons_self ..)
    have := sum_nnW fun b hb => h b (List.mem_cons_of_mem a hb)
    omega
theorem le_sumW {f : Str → Int} {b : Str} : ∀ {l : List Str}, (∀ a ∈ l, 0 ≤ f a) → b ∈ l → f b ≤ (l.map f).sum
  | a :: l, h, m => by
    rw [List.map_cons, List.sum_cons]
    have h1 := h a (List.mem_cons_self ..)
    have h2 : ∀ c ∈ l, 0 ≤ f c := fun b hb => h b (List.mem_cons_of_mem a hb)
    rcases List.mem_cons.mp m with rfl | m
    · have := sum_nnW h2
      omega
    · have := le_sumW h2 m
      omega
theorem fea_leW {ts : List (Str × Str)} {n : Int} {s : Str → Int} (o : TreeOk ts) (f : Fea ts n s) : ∀ a ∈ ts.map Prod.fst, s a ≤ n := by
  obtain ⟨rk, r⟩ := o.up
  have key : ∀ (m : Nat) (a : Str), a ∈ ts.map Prod.fst → rk a ≤ m → s a ≤ n := by
    intro m
    induction m with
    | zero =>
      intro a ha hm
      obtain ⟨p, hp, h, _⟩ := o.step r ha
      rcases h with e | ⟨_, l⟩
      · have := f.res p (by rw [e]; exact List.mem_cons_self ..)
        have l1 := le_sumW (f := s) (fun c hc => f.nn c (kids_sub hc)) (mem_kids.mpr (par_mem hp))
        unfold resid at this
        rw [if_pos e] at this
        omega
      · omega
    | succ m ih =>
      intro a ha hm
      obtain ⟨p, hp, h, _⟩ := o.step r ha
      have l1 := le_sumW (f := s) (fun c hc => f.nn c (kids_sub hc)) (mem_kids.mpr (par_mem hp))
      rcases h with e | ⟨mp, l⟩
      · have := f.res p (by rw [e]; exact List.mem_cons_self ..)
        unfold resid at this
        rw [if_pos e] at this
        omega
      · have := f.res p (List.mem_cons_of_mem _ mp)
        have ne : p ≠ "" := fun z => o.root (by rw [← z]; exact mp)
        unfold resid at this
        rw [if_neg ne] at this
        have := ih p mp (by omega)
        omega
  exact fun a ha => key (rk a) a ha (Nat.le_refl _)
end FT


/-! fixed -/
namespace FT
open PySem L2 TL ClX LiI Sg
def starI (ts : List (Str × Str)) (n : Int) (sz : Str → Int) (a : Str) : Int := if (pathOf ts a)[0]? = (kids ts "")[0]? then 0 else n - sz a
def setN (a : Str) (from_ : Nat) : Nat → List Str → List Str
  | 0, zs => zs
  | k + 1, zs => (setN a from_ k zs).set (from_ + k) a
def fixS (ts : List (Str × Str)) (n : Int) (sz : Str → Int) (zs : List Str) (y : Str × Int) : List Str := setN y.1 (starI ts n sz y.1).toNat (sz y.1).toNat zs
def fixP (ts : List (Str × Str)) (n : Int) (sz : Str → Int) : List Str := (rowsW ts).foldl (fixS ts n sz) (List.replicate n.toNat "")
/-! ### those present -/
def preC (ts : List (Str × Str)) (n : Int) (s1 s2 : Str → Int) (p : Str) : Int := (if p = "" then n else max (s1 p) (s2 p)) - ((kids ts p).map fun c => min (s1 c) (s2 c)).sum
def spFixed (K : PySem.W.Frag) (CF CA CS CU CN : Addr) : Sp := fun vs H Q E => ∃ (x : Addr) (v sv : V) (ts : List (Str × Str)) (so : Option (List (Key × V))), vs = [.ref x, v, sv] ∧ FAt CF H x ts ∧ TreeOk ts ∧ IsDat K H v ∧ SzM K H ts.length sv so ∧
  if usersOk v 60 = true then ∃ n : Int, v = .int n ∧ if memC ts v = true then match feE CS ts n so with
      | some e => Out H E e
      | none => ∀ r H', Same H H' → H r = none → AAt CA H' r x (fixP ts n (szOf (so.getD []))) → Q (.ref r) H'
    else Out H E (.e0 CN)
  else Out H E (.e0 CU)
section
variable {P : Program} {w : World} {K : PySem.W.Frag} {mg : Str → Option Value} {base : Heap}
abbrev NFx : List Str := ["forest", "users", "sizes", "places", "name", "depth", "is_first", "start", "user"]
/-- a generator that is a method -/
structure MtG (P : Program) (w : World) (K : PySem.W.Frag) (mg : Str → Option Value) (base : Heap) (k : Nat) (C : Addr) (m : Str) (ps : List Str) (sp : SpG2) (f : Addr) (fd : FuncData) : Prop where
  mt : Meth K C m f
  fn : GFn2 P w K mg base k f fd ps sp
  bn : Binds K fd ps []
end
end FT


/-! plain: where fixed places the users -/
namespace FT
open PySem L2 TL
end FT


/-! Assignment.at -/
namespace FT
open PySem L2 TL ClX LiI
section
variable {P : Program} {w : World} {K : PySem.W.Frag} {mg : Str → Option Value} {base : Heap}
abbrev NAt : List Str := ["self", "place", "user", "other"]
end
end FT


/-! plain: the users that fixed gives to a flag are an interval; between two of these assignments a flag only gets or only loses users -/
namespace FT
open PySem L2 TL
section
variable {ts : List (Str × Str)} {n : Int} {sz : Str → Int}
def inI (ts : List (Str × Str)) (n : Int) (sz : Str → Int) (u : Nat) (a : Str) : Prop := starI ts n sz a ≤ (u : Int) ∧ (u : Int) < starI ts n sz a + sz a
theorem path_ltW (o : TreeOk ts) {rk : Str → Nat} (r : Rk ts rk) {a z : Str} (h : Pl ts a) (m : z ∈ pathOf ts a) (n : z ≠ a) : rk z < rk a := by
  by_cases e : a = ""
  · rw [e, path_root] at m
    cases m
  · obtain ⟨p, ep, hp, _⟩ := o.step r (h.resolve_left e)
    rw [path_step o (h.resolve_left e) ep] at m
    rcases List.mem_append.mp m with m | m
    · rcases hp with e0 | ⟨hp, lt⟩
      · rw [e0, path_root] at m
        cases m
      · have := path_rank o r (rk p + 1) p (.inr hp) (fun _ => Nat.lt_succ_self _) z m
        omega
    · exact absurd (List.mem_singleton.mp m) n
def Apart (ts : List (Str × Str)) (n : Int) (sz : Str → Int) (u : Nat) : Prop := ∀ p, Pl ts p → ∀ c ∈ kids ts p, ∀ d ∈ kids ts p, inI ts n sz u c → inI ts n sz u d → c = d
end
end FT


/-! plain: the sizes of a witness have no three assignments that are best changes of each other -/
namespace FT
open PySem L2 TL ClX
/-- who has a flag, user by user -/
def Hs (ts : List (Str × Str)) (zs : List Str) (a : Str) : List Bool := zs.map fun z => decide (a ∈ pathOf ts z)
theorem Hs_len (ts : List (Str × Str)) (zs : List Str) (a : Str) : (Hs ts zs a).length = zs.length := by unfold Hs; rw [List.length_map]
theorem Hs_get {ts : List (Str × Str)} {zs : List Str} {a : Str} {u : Nat} {z : Str} (h : zs[u]? = some z) : (Hs ts zs a)[u]? = some (decide (a ∈ pathOf ts z)) := by
  unfold Hs
  rw [List.getElem?_map, h] <;> rfl
theorem Hs_true {ts : List (Str × Str)} {zs : List Str} {a : Str} {u : Nat} (h : (Hs ts zs a)[u]? = some true) : ∃ z, zs[u]? = some z ∧ a ∈ pathOf ts z := by
  unfold Hs at h
  rw [List.getElem?_map] at h
  obtain ⟨z, hz, e⟩ := Option.map_eq_some_iff.mp h
  exact ⟨z, hz, of_decide_eq_true e⟩
theorem Hs_cnt (ts : List (Str × Str)) (zs : List Str) (a : Str) : ((Hs ts zs a).count true : Int) = szZ ts zs a := by
  unfold Hs szZ
  induction zs with
  | nil => rfl
  | cons z l ih =>
    rw [List.map_cons, List.filter_cons]
    by_cases h : a ∈ pathOf ts z
    · rw [decide_eq_true h, List.count_cons_self, if_pos rfl, List.length_cons]
      omega
    · rw [decide_eq_false h, List.count_cons_of_ne (by decide), if_neg (by decide)]
      exact ih
def LeB (l m : List Bool) : Prop := ∀ i : Nat, l[i]? = some true → m[i]? = some true
theorem LeB.tail {x y : Bool} {l m : List Bool} (h : LeB (x :: l) (y :: m)) : LeB l m := fun i e => by
  have := h (i + 1) (by rw [List.getElem?_cons_succ]; exact e)
  rwa [List.getElem?_cons_succ] at this
theorem LeB.head {x y : Bool} {l m : List Bool} (h : LeB (x :: l) (y :: m)) (e : x = true) : y = true := by
  have := h 0 (by rw [e] <;> rfl)
  exact Option.some.inj this
theorem LeB.cnt : ∀ {l m : List Bool}, l.length = m.length → LeB l m → l.count true ≤ m.count true
  | [], [], _, _ => Nat.le_refl _
  | x :: l, y :: m, e, h => by
    have ih := LeB.cnt (l := l) (m := m) (Nat.succ.inj e) h.tail
    cases x with
    | false =>
      rw [List.count_cons_of_ne (by decide)]
      exact Nat.le_trans ih (List.count_le_count_cons)
    | true =>
      rw [h.head rfl, List.count_cons_self, List.count_cons_self]
      omega
theorem LeB.eq : ∀ {l m : List Bool}, l.length = m.length → LeB l m → l.count true = m.count true → l = m
  | [], [], _, _, _ => rfl
  | x :: l, y :: m, e, h, c => by
    have le := LeB.cnt (l := l) (m := m) (Nat.succ.inj e) h.tail
    cases x with
    | false =>
      rw [List.count_cons_of_ne (by decide)] at c
      cases y with
      | false =>
        rw [List.count_cons_of_ne (by decide)] at c
        rw [LeB.eq (Nat.succ.inj e) h.tail c]
      | true =>
        rw [List.count_cons_self] at c
        omega
    | true =>
      have hy := h.head rfl
      subst hy
      rw [List.count_cons_self, List.count_cons_self] at c
      rw [LeB.eq (Nat.succ.inj e) h.tail (by omega)]
/-- as many, and one way: the same -/
theorem same_B {l m : List Bool} (e : l.length = m.length) (c : l.count true = m.count true) (h : LeB l m ∨ LeB m l) : l = m := by
  rcases h with h | h
  · exact h.eq e c
  · exact (h.eq e.symm c.symm).symm
theorem has_B : ∀ {l : List Bool}, 1 ≤ l.count true → ∃ u : Nat, l[u]? = some true
  | [], h => absurd h (by decide)
  | true :: l, _ => ⟨0, rfl⟩
  | false :: l, h => by
    rw [List.count_cons_of_ne (by decide)] at h
    obtain ⟨u, hu⟩ := has_B h
    exact ⟨u + 1, by rw [List.getElem?_cons_succ]; exact hu⟩
theorem one_B : ∀ {l : List Bool}, l.count true = 1 → ∀ {u v : Nat}, l[u]? = some true → l[v]? = some true → u = v
  | [], h, _, _, _, _ => absurd h (by decide)
  | true :: l, h, u, v, hu, hv => by
    rw [List.count_cons_self] at h
    have z : ∀ i : Nat, l[i]? ≠ some true := fun i e => by
      have := List.count_pos_iff.mpr (List.mem_of_getElem? e)
      omega
    cases u with
    | zero =>
      cases v with
      | zero => rfl
      | succ v => rw [List.getElem?_cons_succ] at hv; exact absurd hv (z v)
    | succ u => rw [List.getElem?_cons_succ] at hu; exact absurd hu (z u)
  | false :: l, h, u, v, hu, hv => by
    rw [List.count_cons_of_ne (by decide)] at h
    cases u with
    | zero => cases hu
    | succ u =>
      cases v with
      | zero => cases hv
      | succ v =>
        rw [List.getElem?_cons_succ] at hu hv
        rw [one_B h hu hv]
/-- two that never meet and are all together -/
theorem all_B : ∀ {l m : List Bool}, l.length = m.length → (∀ i : Nat, l[i]? = some true → m[i]? = some true → False) → l.length ≤ l.count true + m.count true → ∀ i, i < l.length → l[i]? = some true ∨ m[i]? = some true := by
  have low : ∀ {l m : List Bool}, l.length = m.length → (∀ i : Nat, l[i]? = some true → m[i]? = some true → False) → l.count true + m.count true ≤ l.length := by
    intro l
    induction l with
    | nil => intro m e _; cases m with
      | nil => exact Nat.le_refl _
      | cons _ _ => cases e
    | cons x l ih =>
      intro m e d
      cases m with
      | nil => cases e
      | cons y m =>
        have q := ih (m := m) (Nat.succ.inj e) fun i h1 h2 => d (i + 1) (by rw [List.getElem?_cons_succ]; exact h1) (by rw [List.getElem?_cons_succ]; exact h2)
        have d0 := d 0
        cases x <;> cases y <;> simp [List.count_cons] at d0 ⊢ <;> omega
  intro l
  induction l with
  | nil => intro m _ _ _ i hi; exact absurd hi (Nat.not_lt_zero _)
  | cons x l ih =>
    intro m e d c i hi
    cases m with
    | nil => cases e
    | cons y m =>
      have dl : ∀ i : Nat, l[i]? = some true → m[i]? = some true → False := fun i h1 h2 => d (i + 1) (by rw [List.getElem?_cons_succ]; exact h1) (by rw [List.getElem?_cons_succ]; exact h2)
      have q := low (l := l) (m := m) (Nat.succ.inj e) dl
      have d0 := d 0
      cases i with
      | zero =>
        cases x with
        | true => exact .inl rfl
        | false =>
          cases y with
          | true => exact .inr rfl
          | false =>
            rw [List.count_cons_of_ne (by decide), List.count_cons_of_ne (by decide), List.length_cons] at c
            omega
      | succ i =>
        rw [List.getElem?_cons_succ, List.getElem?_cons_succ]
        refine ih (Nat.succ.inj e) dl ?_ i (Nat.lt_of_succ_lt_succ hi)
        cases x <;> cases y <;> simp [List.count_cons] at d0 c ⊢ <;> omega
section
variable {ts : List (Str × Str)}
/-- two children of one place are never on one path -/
theorem sib_path (o : TreeOk ts) {p b c x : Str} (px : Pl ts x) (pp : Pl ts p) (hb : b ∈ kids ts p) (hc : c ∈ kids ts p) (ne : b ≠ c) (mb : b ∈ pathOf ts x) (mc : c ∈ pathOf ts x) : False := by
  obtain ⟨rk, r⟩ := o.up
  have pb := (kid_par o).mp hb
  have mbf := par_flag pb
  have mx : x ∈ ts.map Prod.fst := px.resolve_left fun e => by rw [e, path_root] at mb; cases mb
  obtain ⟨q, eq, alt, _⟩ := o.step r mbf
  rw [pb] at eq
  cases eq
  have np : b ≠ p := fun e => by
    rcases alt with h | ⟨_, h⟩
    · exact o.root (by rw [← h, ← e]; exact mbf)
    · rw [e] at h; exact Nat.lt_irrefl _ h
  have nx : x ≠ p := fun e => by
    rw [e] at mb
    have lt := path_ltW o r pp mb np
    rcases alt with h | ⟨_, h⟩
    · rw [h, path_root] at mb; cases mb
    · omega
  have up : p = "" ∨ p ∈ pathOf ts x := path_upW o r pb (rk x + 1) x (Nat.lt_succ_self _) mx mb
  obtain ⟨d, _, _, one⟩ := child_on o r pp (rk x + 1) x (Nat.lt_succ_self _) mx nx up
  exact ne ((one b hb mb).trans (one c hc mc).symm)
/-- three assignments, each the best change of the others: flag by flag one way -/
def OneWay (ts : List (Str × Str)) (z1 z2 : List Str) : Prop := ∀ a ∈ ts.map Prod.fst, LeB (Hs ts z1 a) (Hs ts z2 a) ∨ LeB (Hs ts z2 a) (Hs ts z1 a)
theorem eqH (o : TreeOk ts) {z1 z2 : List Str} {n : Nat} (l1 : z1.length = n) (l2 : z2.length = n) (w : OneWay ts z1 z2) {a : Str} (ma : a ∈ ts.map Prod.fst) (e : szZ ts z1 a = szZ ts z2 a) : Hs ts z1 a = Hs ts z2 a := by
  refine same_B (by rw [Hs_len, Hs_len, l1, l2]) ?_ (w a ma)
  have h1 := Hs_cnt ts z1 a
  have h2 := Hs_cnt ts z2 a
  omega
theorem cntH {z : List Str} {a : Str} {k : Nat} (h : szZ ts z a = k) : (Hs ts z a).count true = k := by
  have := Hs_cnt ts z a
  omega
/-- three top flags -/
theorem no_three (o : TreeOk ts) {z1 z2 z3 : List Str} {n : Nat} (l1 : z1.length = n) (l2 : z2.length = n) (l3 : z3.length = n) (p1 : ∀ z ∈ z1, Pl ts z) (p2 : ∀ z ∈ z2, Pl ts z) (p3 : ∀ z ∈ z3, Pl ts z) (w12 : OneWay ts z1 z2) (w13 : OneWay ts z1 z3) (w23 : OneWay ts z2 z3)
    {a b c : Str} (ha : a ∈ kids ts "") (hb : b ∈ kids ts "") (hc : c ∈ kids ts "") (ab : a ≠ b) (ac : a ≠ c) (bc : b ≠ c)
    (a1 : szZ ts z1 a = 1) (b1 : szZ ts z1 b = (n : Int) - 1) (b2 : szZ ts z2 b = (n : Int) - 1) (c2 : szZ ts z2 c = 1) (a3 : szZ ts z3 a = 1) (c3 : szZ ts z3 c = 1) : False := by
  have fl : ∀ {k : Str}, k ∈ kids ts "" → k ∈ ts.map Prod.fst := fun h => par_flag ((kid_par o).mp h)
  have eA := eqH o l1 l3 w13 (fl ha) (by rw [a1, a3])
  have eB := eqH o l1 l2 w12 (fl hb) (by rw [b1, b2])
  have eC := eqH o l2 l3 w23 (fl hc) (by rw [c2, c3])
  obtain ⟨u, hu⟩ := has_B (l := Hs ts z1 a) (by rw [cntH (k := 1) a1]; exact Nat.le_refl _)
  have hu3 := hu
  rw [eA] at hu3
  obtain ⟨x1, hx1, m1⟩ := Hs_true hu
  obtain ⟨x3, hx3, m3⟩ := Hs_true hu3
  have un : u < n := by rw [← l1]; exact (List.getElem?_eq_some_iff.mp hx1).1
  have alt := all_B (l := Hs ts z2 b) (m := Hs ts z2 c) (by rw [Hs_len, Hs_len]) (fun i h1 h2 => by
    obtain ⟨y1, hy1, q1⟩ := Hs_true h1
    obtain ⟨y2, hy2, q2⟩ := Hs_true h2
    rw [hy1] at hy2
    cases hy2
    exact sib_path o (p2 _ (List.mem_of_getElem? hy1)) (.inl rfl) hb hc bc q1 q2) (by
      have h1 := Hs_cnt ts z2 b
      have h2 := Hs_cnt ts z2 c
      rw [Hs_len]
      omega) u (by rw [Hs_len, l2]; exact un)
  rcases alt with h | h
  · rw [← eB] at h
    obtain ⟨y, hy, q⟩ := Hs_true h
    rw [hx1] at hy
    cases hy
    exact sib_path o (p1 _ (List.mem_of_getElem? hx1)) (.inl rfl) ha hb ab m1 q
  · rw [eC] at h
    obtain ⟨y, hy, q⟩ := Hs_true h
    rw [hx3] at hy
    cases hy
    exact sib_path o (p3 _ (List.mem_of_getElem? hx3)) (.inl rfl) ha hc ac m3 q
theorem up_H (o : TreeOk ts) {zs : List Str} (pl : ∀ z ∈ zs, Pl ts z) {a b : Str} (hb : b ∈ kids ts a) (na : a ≠ "") : LeB (Hs ts zs b) (Hs ts zs a) := fun u h => by
  obtain ⟨rk, r⟩ := o.up
  obtain ⟨z, hz, m⟩ := Hs_true h
  have mz : z ∈ ts.map Prod.fst := (pl z (List.mem_of_getElem? hz)).resolve_left fun e => by rw [e, path_root] at m; cases m
  have := (path_upW o r ((kid_par o).mp hb) (rk z + 1) z (Nat.lt_succ_self _) mz m).resolve_left na
  rw [Hs_get hz, decide_eq_true this]
/-- a flag with two children -/
theorem no_fork (o : TreeOk ts) {z1 z2 z3 : List Str} {n : Nat} (l1 : z1.length = n) (l2 : z2.length = n) (l3 : z3.length = n) (p1 : ∀ z ∈ z1, Pl ts z) (p2 : ∀ z ∈ z2, Pl ts z) (p3 : ∀ z ∈ z3, Pl ts z) (w12 : OneWay ts z1 z2) (w13 : OneWay ts z1 z3) (w23 : OneWay ts z2 z3)
    {a b c : Str} (ma : a ∈ ts.map Prod.fst) (hb : b ∈ kids ts a) (hc : c ∈ kids ts a) (bc : b ≠ c)
    (a1 : szZ ts z1 a = 1) (b1 : szZ ts z1 b = 1) (a2 : szZ ts z2 a = 1) (c2 : szZ ts z2 c = 1) (b3 : szZ ts z3 b = 1) (c3 : szZ ts z3 c = 1) : False := by
  have fl : ∀ {k : Str}, k ∈ kids ts a → k ∈ ts.map Prod.fst := fun h => par_flag ((kid_par o).mp h)
  have na : a ≠ "" := fun e => o.root (e ▸ ma)
  have eA := eqH o l1 l2 w12 ma (by rw [a1, a2])
  have eB := eqH o l1 l3 w13 (fl hb) (by rw [b1, b3])
  have eC := eqH o l2 l3 w23 (fl hc) (by rw [c2, c3])
  obtain ⟨u, hu⟩ := has_B (l := Hs ts z1 b) (by rw [cntH (k := 1) b1]; exact Nat.le_refl _)
  obtain ⟨v, hv⟩ := has_B (l := Hs ts z2 c) (by rw [cntH (k := 1) c2]; exact Nat.le_refl _)
  have h1 := up_H o p1 hb na u hu
  have h2 := up_H o p2 hc na v hv
  rw [eA] at h1
  have uv := one_B (cntH (k := 1) a2) h1 h2
  subst uv
  rw [eB] at hu
  rw [eC] at hv
  obtain ⟨x, hx, m⟩ := Hs_true hu
  obtain ⟨y, hy, m'⟩ := Hs_true hv
  rw [hx] at hy
  cases hy
  exact sib_path o (p3 _ (List.mem_of_getElem? hx)) (.inr ma) hb hc bc m m'
end
end FT
namespace FT
open PySem L2 TL ClX
/-! ### the witness -/
def bigW (ts : List (Str × Str)) : Bool := decide (2 < (kids ts "").length)
def abvs (ts : List (Str × Str)) : List Str := (ts.map Prod.fst).filter fun x => decide (1 < (kids ts x).length)
def abvW (ts : List (Str × Str)) : Str := (abvs ts).headD ""
def nmW (ts : List (Str × Str)) : List Str := if bigW ts = true then (kids ts "").take 3 else abvW ts :: (kids ts (abvW ts)).take 2
def bsW (ts : List (Str × Str)) (x : Str) : Int := if bigW ts = true then 0 else if x ∈ pathOf ts (abvW ts) then 2 else 0
def rwW (ts : List (Str × Str)) (n : Int) : List (List Int) := if bigW ts = true then [[1, n - 1, 0], [0, n - 1, 1], [1, n - 2, 1]] else [[1, 1, 0], [1, 0, 1], [2, 1, 1]]
def putW (f : Str → Int) : List Str → List Int → Str → Int
  | a :: l, v :: m => putW (fun x => if x = a then v else f x) l m
  | _, _ => f
def wW (ts : List (Str × Str)) (n : Int) (i : Nat) : Str → Int := putW (bsW ts) (nmW ts) ((rwW ts n).getD i [])
theorem putW3 {f : Str → Int} {a b c : Str} {r s t : Int} (ab : a ≠ b) (ac : a ≠ c) (bc : b ≠ c) : putW f [a, b, c] [r, s, t] a = r ∧ putW f [a, b, c] [r, s, t] b = s ∧ putW f [a, b, c] [r, s, t] c = t := by
  refine ⟨?_, ?_, ?_⟩
  · show (if a = c then t else if a = b then s else if a = a then r else f a) = r
    rw [if_neg ac, if_neg ab, if_pos rfl]
  · show (if b = c then t else if b = b then s else if b = a then r else f b) = s
    rw [if_neg bc, if_pos rfl]
  · show (if c = c then t else if c = b then s else if c = a then r else f c) = t
    rw [if_pos rfl]
theorem szZ_nil (ts : List (Str × Str)) (x : Str) : szZ ts [] x = 0 := rfl
theorem szZ_cons (ts : List (Str × Str)) (z : Str) (l : List Str) (x : Str) : szZ ts (z :: l) x = (if x ∈ pathOf ts z then 1 else 0) + szZ ts l x := by
  unfold szZ
  rw [List.filter_cons]
  by_cases h : x ∈ pathOf ts z
  · rw [decide_eq_true h, if_pos rfl, if_pos h, List.length_cons]
    omega
  · rw [decide_eq_false h, if_neg (by decide), if_neg h]
    omega
theorem szZ_rep (ts : List (Str × Str)) (z x : Str) : ∀ k : Nat, szZ ts (List.replicate k z) x = if x ∈ pathOf ts z then (k : Int) else 0
  | 0 => by rw [show List.replicate 0 z = [] from rfl, szZ_nil]; split <;> rfl
  | k + 1 => by
    rw [List.replicate_succ, szZ_cons, szZ_rep ts z x k]
    split <;> omega
theorem three_of {l : List Str} (h : 2 < l.length) : ∃ a b c m, l = a :: b :: c :: m := by
  match l, h with
  | a :: b :: c :: m, _ => exact ⟨a, b, c, m, rfl⟩
  | [], h => exact absurd h (by decide)
  | [_], h => exact absurd h (by show ¬ 2 < 1; decide)
  | [_, _], h => exact absurd h (by show ¬ 2 < 2; decide)
theorem two_of {l : List Str} (h : 1 < l.length) : ∃ a b m, l = a :: b :: m := by
  match l, h with
  | a :: b :: m, _ => exact ⟨a, b, m, rfl⟩
  | [], h => exact absurd h (by decide)
  | [_], h => exact absurd h (by show ¬ 1 < 1; decide)
section
variable {ts : List (Str × Str)}
/-- what the names of a witness are -/
theorem nm_big (o : TreeOk ts) (h : bigW ts = true) : ∃ a b c, nmW ts = [a, b, c] ∧ a ∈ kids ts "" ∧ b ∈ kids ts "" ∧ c ∈ kids ts "" ∧ a ≠ b ∧ a ≠ c ∧ b ≠ c := by
  obtain ⟨a, b, c, m, e⟩ := three_of (of_decide_eq_true h)
  have nd := kids_nd o ""
  rw [e] at nd
  simp only [List.nodup_cons, List.mem_cons, not_or] at nd
  refine ⟨a, b, c, by unfold nmW; rw [if_pos h, e] <;> rfl, by rw [e]; simp, by rw [e]; simp, by rw [e]; simp, nd.1.1, nd.1.2.1, nd.2.1.1⟩
theorem abv_some (h : bigW ts = false) (nt : twoC ts = false) : ∃ a m, abvs ts = a :: m ∧ abvW ts = a ∧ a ∈ ts.map Prod.fst ∧ 1 < (kids ts a).length := by
  have le : (kids ts "").length ≤ 2 := by have := of_decide_eq_false h; omega
  unfold twoC at nt
  rw [decide_eq_true le, Bool.true_and] at nt
  have : ∃ x ∈ ts.map Prod.fst, ¬ (kids ts x).length ≤ 1 := by
    by_cases z : ∃ x ∈ ts.map Prod.fst, ¬ (kids ts x).length ≤ 1
    · exact z
    · have := (List.all_eq_true (l := ts.map Prod.fst) (p := fun n => decide ((kids ts n).length ≤ 1))).mpr fun x hx => decide_eq_true (Classical.byContradiction fun q => z ⟨x, hx, q⟩)
      rw [this] at nt
      cases nt
  obtain ⟨x, mx, hx⟩ := this
  have ne : x ∈ abvs ts := List.mem_filter.mpr ⟨mx, decide_eq_true (by omega)⟩
  cases e : abvs ts with
  | nil => rw [e] at ne; cases ne
  | cons a m =>
    have ma : a ∈ abvs ts := by rw [e]; exact List.mem_cons_self
    obtain ⟨h1, h2⟩ := List.mem_filter.mp ma
    exact ⟨a, m, rfl, by unfold abvW; rw [e] <;> rfl, h1, of_decide_eq_true h2⟩
theorem nm_fork (o : TreeOk ts) (h : bigW ts = false) (nt : twoC ts = false) : ∃ a b c, abvW ts = a ∧ nmW ts = [a, b, c] ∧ a ∈ ts.map Prod.fst ∧ b ∈ kids ts a ∧ c ∈ kids ts a ∧ a ≠ b ∧ a ≠ c ∧ b ≠ c := by
  obtain ⟨a, m, _, ea, ma, two⟩ := abv_some h nt
  obtain ⟨b, c, m', e⟩ := two_of two
  have nd := kids_nd o a
  rw [e] at nd
  simp only [List.nodup_cons, List.mem_cons, not_or] at nd
  have kb : b ∈ kids ts a := by rw [e]; simp
  have kc : c ∈ kids ts a := by rw [e]; simp
  have ne : ∀ {k : Str}, k ∈ kids ts a → a ≠ k := fun hk z => by
    obtain ⟨rk, r⟩ := o.up
    obtain ⟨q, eq, alt, _⟩ := o.step r ma
    have p := (kid_par o).mp hk
    rw [← z, eq] at p
    cases p
    rcases alt with e' | ⟨_, lt⟩
    · exact o.root (e' ▸ ma)
    · exact Nat.lt_irrefl _ lt
  exact ⟨a, b, c, ea, by unfold nmW; rw [if_neg (by rw [h]; decide), ea, e] <;> rfl, ma, kb, kc, ne kb, ne kc, nd.1.1⟩
theorem top_p (o : TreeOk ts) {a : Str} (h : a ∈ kids ts "") : pathOf ts a = [a] := by
  have p := (kid_par o).mp h
  rw [path_step o (par_flag p) p, path_root] <;> rfl
theorem feaCongr {n : Int} {s s' : Str → Int} (o : TreeOk ts) (f : Fea ts n s) (e : ∀ a ∈ ts.map Prod.fst, s' a = s a) : Fea ts n s' := by
  refine ⟨fun a ha => by rw [e a ha]; exact f.nn a ha, fun p hp => ?_⟩
  have q := f.res p hp
  unfold resid at q ⊢
  have k1 : (kids ts p).map s' = (kids ts p).map s := List.map_congr_left fun k hk => e k (par_flag ((kid_par o).mp hk))
  rw [k1]
  by_cases z : p = ""
  · rw [if_pos z] at q ⊢
    exact q
  · rw [if_neg z] at q ⊢
    rw [e p ((List.mem_cons.mp hp).resolve_left z)]
    exact q
/-- the sizes are feasible -/
theorem wit_fea (o : TreeOk ts) (nt : twoC ts = false) {n : Int} (n2 : 2 ≤ n) : ∀ i, i < 3 → Fea ts n (wW ts n i) := by
  have mk : ∀ {zs : List Str} {s : Str → Int}, (zs.length : Int) = n → (∀ z ∈ zs, Pl ts z) → (∀ x ∈ ts.map Prod.fst, s x = szZ ts zs x) → Fea ts n s := fun l pl e => feaCongr o (by rw [← l]; exact fea_szZ o pl) e
  cases h : bigW ts with
  | true =>
    obtain ⟨a, b, c, en, ha, hb, hc, ab, ac, bc⟩ := nm_big o h
    have er : rwW ts n = [[1, n - 1, 0], [0, n - 1, 1], [1, n - 2, 1]] := by unfold rwW; rw [if_pos h]
    have fl : ∀ {k : Str}, k ∈ kids ts "" → Pl ts k := fun hk => .inr (par_flag ((kid_par o).mp hk))
    have pa := top_p o ha
    have pb := top_p o hb
    have pc := top_p o hc
    have bs : ∀ x, bsW ts x = 0 := fun x => by unfold bsW; rw [if_pos h]
    have sh : ∀ (r s t : Int) (x : Str), putW (bsW ts) [a, b, c] [r, s, t] x = (if x = a then r else 0) + (if x = b then s else 0) + (if x = c then t else 0) := fun r s t x => by
      show (if x = c then t else if x = b then s else if x = a then r else bsW ts x) = _
      rw [bs]
      by_cases h1 : x = a
      · have h2 : ¬ x = b := fun e => ab (h1.symm.trans e)
        have h3 : ¬ x = c := fun e => ac (h1.symm.trans e)
        simp only [if_neg h3, if_neg h2, if_pos h1]; omega
      · by_cases h2 : x = b
        · have h3 : ¬ x = c := fun e => bc (h2.symm.trans e)
          simp only [if_neg h3, if_pos h2, if_neg h1]; omega
        · by_cases h3 : x = c
          · simp only [if_pos h3, if_neg h1, if_neg h2]; omega
          · simp only [if_neg h3, if_neg h2, if_neg h1]; omega
    intro i hi
    unfold wW
    rw [en, er]
    obtain ⟨k, rfl⟩ : ∃ k : Nat, n = k + 2 := ⟨(n - 2).toNat, by omega⟩
    match i, hi with
    | 0, _ =>
      refine mk (zs := a :: List.replicate (k + 1) b) (by rw [List.length_cons, List.length_replicate]; omega) (fun z hz => ?_) fun x hx => ?_
      · rcases List.mem_cons.mp hz with e | e
        · rw [e]; exact fl ha
        · rw [(List.mem_replicate.mp e).2]; exact fl hb
      · rw [szZ_cons, szZ_rep, pa, pb]
        refine (sh _ _ _ x).trans ?_
        simp only [List.mem_singleton]
        split <;> split <;> split <;> omega
    | 1, _ =>
      refine mk (zs := c :: List.replicate (k + 1) b) (by rw [List.length_cons, List.length_replicate]; omega) (fun z hz => ?_) fun x hx => ?_
      · rcases List.mem_cons.mp hz with e | e
        · rw [e]; exact fl hc
        · rw [(List.mem_replicate.mp e).2]; exact fl hb
      · rw [szZ_cons, szZ_rep, pc, pb]
        refine (sh _ _ _ x).trans ?_
        simp only [List.mem_singleton]
        split <;> split <;> split <;> omega
    | 2, _ =>
      refine mk (zs := a :: c :: List.replicate k b) (by rw [List.length_cons, List.length_cons, List.length_replicate]; omega) (fun z hz => ?_) fun x hx => ?_
      · rcases List.mem_cons.mp hz with e | e
        · rw [e]; exact fl ha
        · rcases List.mem_cons.mp e with e | e
          · rw [e]; exact fl hc
          · rw [(List.mem_replicate.mp e).2]; exact fl hb
      · rw [szZ_cons, szZ_cons, szZ_rep, pa, pc, pb]
        refine (sh _ _ _ x).trans ?_
        simp only [List.mem_singleton]
        split <;> split <;> split <;> omega
  | false =>
    obtain ⟨a, b, c, ea, en, ma, hb, hc, ab, ac, bc⟩ := nm_fork o h nt
    have er : rwW ts n = [[1, 1, 0], [1, 0, 1], [2, 1, 1]] := by unfold rwW; rw [if_neg (by rw [h]; decide)]
    obtain ⟨rk, r⟩ := o.up
    obtain ⟨p, ep, alt, _⟩ := o.step r ma
    have pp : Pl ts p := par_pl o ep
    have st := path_step o ma ep
    have pb := (kid_par o).mp hb
    have pc := (kid_par o).mp hc
    have sb := path_step o (par_flag pb) pb
    have sc := path_step o (par_flag pc) pc
    have bs : ∀ x, bsW ts x = if x ∈ pathOf ts a then 2 else 0 := fun x => by unfold bsW; rw [if_neg (by rw [h]; decide), ea]
    have nap : a ∉ pathOf ts p := fun z => by
      have := path_ltW o r pp z (fun e => by
        rcases alt with w | ⟨_, w⟩
        · exact o.root (by rw [← w, ← e]; exact ma)
        · rw [e] at w; exact Nat.lt_irrefl _ w)
      rcases alt with w | ⟨_, w⟩
      · rw [w, path_root] at z; cases z
      · omega
    have nk : ∀ {k : Str}, k ∈ kids ts a → k ∉ pathOf ts a := fun {k} hk z => by
      have ne : k ≠ a := fun e => by
        have := (kid_par o).mp hk
        rw [e] at this
        exact par_once o this this
      have lt := path_ltW o r (.inr ma) z ne
      obtain ⟨q, eq, alt', _⟩ := o.step r (par_flag ((kid_par o).mp hk))
      rw [(kid_par o).mp hk] at eq
      cases eq
      rcases alt' with w | ⟨_, w⟩
      · exact o.root (w ▸ ma)
      · omega
    have sh : ∀ (r s t : Int) (x : Str), putW (bsW ts) [a, b, c] [r, s, t] x = if x = c then t else if x = b then s else if x = a then r else if x ∈ pathOf ts a then 2 else 0 := fun r s t x => by rw [← bs]; rfl
    have low : ∀ x, (x ∈ pathOf ts a ↔ x ∈ pathOf ts p ∨ x = a) := fun x => by rw [st, List.mem_append, List.mem_singleton]
    have lb : ∀ x, (x ∈ pathOf ts b ↔ x ∈ pathOf ts a ∨ x = b) := fun x => by rw [sb, List.mem_append, List.mem_singleton]
    have lc : ∀ x, (x ∈ pathOf ts c ↔ x ∈ pathOf ts a ∨ x = c) := fun x => by rw [sc, List.mem_append, List.mem_singleton]
    have nr : ∀ x, ¬ x ∈ pathOf ts "" := fun x z => by rw [path_root] at z; cases z
    intro i hi
    unfold wW
    rw [en, er]
    obtain ⟨k, rfl⟩ : ∃ k : Nat, n = k + 2 := ⟨(n - 2).toNat, by omega⟩
    have plz : ∀ {y z : Str}, Pl ts y → Pl ts z → ∀ w ∈ y :: z :: List.replicate k "", Pl ts w := fun h1 h2 w hw => by
      rcases List.mem_cons.mp hw with e | e
      · rw [e]; exact h1
      · rcases List.mem_cons.mp e with e | e
        · rw [e]; exact h2
        · rw [(List.mem_replicate.mp e).2]; exact .inl rfl
    have lz : ∀ (y z : Str), (((y :: z :: List.replicate k "").length : Nat) : Int) = (k : Int) + 2 := fun y z => by rw [List.length_cons, List.length_cons, List.length_replicate]; omega
    have fb : Pl ts b := .inr (par_flag pb)
    have fc : Pl ts c := .inr (par_flag pc)
    have wa := nk hb
    have wc := nk hc
    match i, hi with
    | 0, _ =>
      refine mk (zs := b :: p :: List.replicate k "") (lz _ _) (plz fb pp) fun x hx => (sh _ _ _ x).trans ?_
      rw [szZ_cons, szZ_cons, szZ_rep, if_neg (nr x)]
      by_cases xc : x = c
      · subst xc
        rw [if_pos rfl, if_neg (fun z => by rcases (lb _).mp z with z | z; exact wc z; exact bc z.symm), if_neg (fun z => wc ((low _).mpr (.inl z)))]; rfl
      rw [if_neg xc]
      by_cases xb : x = b
      · subst xb
        rw [if_pos rfl, if_pos ((lb _).mpr (.inr rfl)), if_neg (fun z => wa ((low _).mpr (.inl z)))]; rfl
      rw [if_neg xb]
      by_cases xa : x = a
      · subst xa
        rw [if_pos rfl, if_pos ((lb _).mpr (.inl ((low _).mpr (.inr rfl)))), if_neg nap]; rfl
      rw [if_neg xa]
      by_cases xp : x ∈ pathOf ts p
      · rw [if_pos ((low _).mpr (.inl xp)), if_pos ((lb _).mpr (.inl ((low _).mpr (.inl xp)))), if_pos xp]; rfl
      · rw [if_neg (fun z => ((low _).mp z).elim xp xa), if_neg (fun z => ((lb _).mp z).elim (fun z => ((low _).mp z).elim xp xa) xb), if_neg xp]; rfl
    | 1, _ =>
      refine mk (zs := c :: p :: List.replicate k "") (lz _ _) (plz fc pp) fun x hx => (sh _ _ _ x).trans ?_
      rw [szZ_cons, szZ_cons, szZ_rep, if_neg (nr x)]
      by_cases xc : x = c
      · subst xc
        rw [if_pos rfl, if_pos ((lc _).mpr (.inr rfl)), if_neg (fun z => wc ((low _).mpr (.inl z)))]; rfl
      rw [if_neg xc]
      by_cases xb : x = b
      · subst xb
        rw [if_pos rfl, if_neg (fun z => by rcases (lc _).mp z with z | z; exact wa z; exact bc z), if_neg (fun z => wa ((low _).mpr (.inl z)))]; rfl
      rw [if_neg xb]
      by_cases xa : x = a
      · subst xa
        rw [if_pos rfl, if_pos ((lc _).mpr (.inl ((low _).mpr (.inr rfl)))), if_neg nap]; rfl
      rw [if_neg xa]
      by_cases xp : x ∈ pathOf ts p
      · rw [if_pos ((low _).mpr (.inl xp)), if_pos ((lc _).mpr (.inl ((low _).mpr (.inl xp)))), if_pos xp]; rfl
      · rw [if_neg (fun z => ((low _).mp z).elim xp xa), if_neg (fun z => ((lc _).mp z).elim (fun z => ((low _).mp z).elim xp xa) xc), if_neg xp]; rfl
    | 2, _ =>
      refine mk (zs := b :: c :: List.replicate k "") (lz _ _) (plz fb fc) fun x hx => (sh _ _ _ x).trans ?_
      rw [szZ_cons, szZ_cons, szZ_rep, if_neg (nr x)]
      by_cases xc : x = c
      · subst xc
        rw [if_pos rfl, if_neg (fun z => by rcases (lb _).mp z with z | z; exact wc z; exact bc z.symm), if_pos ((lc _).mpr (.inr rfl))]; rfl
      rw [if_neg xc]
      by_cases xb : x = b
      · subst xb
        rw [if_pos rfl, if_pos ((lb _).mpr (.inr rfl)), if_neg (fun z => by rcases (lc _).mp z with z | z; exact wa z; exact bc z)]; rfl
      rw [if_neg xb]
      by_cases xa : x = a
      · subst xa
        rw [if_pos rfl, if_pos ((lb _).mpr (.inl ((low _).mpr (.inr rfl)))), if_pos ((lc _).mpr (.inl ((low _).mpr (.inr rfl))))]; rfl
      rw [if_neg xa]
      by_cases xp : x ∈ pathOf ts a
      · rw [if_pos xp, if_pos ((lb _).mpr (.inl xp)), if_pos ((lc _).mpr (.inl xp))]; rfl
      · rw [if_neg xp, if_neg (fun z => ((lb _).mp z).elim xp xb), if_neg (fun z => ((lc _).mp z).elim xp xc)]; rfl
/-- no three assignments with these sizes are best changes of each other -/
theorem wit_no (o : TreeOk ts) (nt : twoC ts = false) {n : Nat} {z1 z2 z3 : List Str} (l1 : z1.length = n) (l2 : z2.length = n) (l3 : z3.length = n) (p1 : ∀ z ∈ z1, Pl ts z) (p2 : ∀ z ∈ z2, Pl ts z) (p3 : ∀ z ∈ z3, Pl ts z)
    (s1 : ∀ a ∈ ts.map Prod.fst, szZ ts z1 a = wW ts n 0 a) (s2 : ∀ a ∈ ts.map Prod.fst, szZ ts z2 a = wW ts n 1 a) (s3 : ∀ a ∈ ts.map Prod.fst, szZ ts z3 a = wW ts n 2 a) (w12 : OneWay ts z1 z2) (w13 : OneWay ts z1 z3) (w23 : OneWay ts z2 z3) : False := by
  cases h : bigW ts with
  | true =>
    obtain ⟨a, b, c, en, ha, hb, hc, ab, ac, bc⟩ := nm_big o h
    have er : rwW ts n = [[1, (n : Int) - 1, 0], [0, (n : Int) - 1, 1], [1, (n : Int) - 2, 1]] := by unfold rwW; rw [if_pos h]
    have fl : ∀ {k : Str}, k ∈ kids ts "" → k ∈ ts.map Prod.fst := fun hk => par_flag ((kid_par o).mp hk)
    have e0 : wW ts n 0 = putW (bsW ts) [a, b, c] [1, (n : Int) - 1, 0] := by unfold wW; rw [en, er] <;> rfl
    have e1 : wW ts n 1 = putW (bsW ts) [a, b, c] [0, (n : Int) - 1, 1] := by unfold wW; rw [en, er] <;> rfl
    have e2 : wW ts n 2 = putW (bsW ts) [a, b, c] [1, (n : Int) - 2, 1] := by unfold wW; rw [en, er] <;> rfl
    rw [e0] at s1
    rw [e1] at s2
    rw [e2] at s3
    exact no_three o l1 l2 l3 p1 p2 p3 w12 w13 w23 ha hb hc ab ac bc ((s1 a (fl ha)).trans (putW3 ab ac bc).1) ((s1 b (fl hb)).trans (putW3 ab ac bc).2.1) ((s2 b (fl hb)).trans (putW3 ab ac bc).2.1) ((s2 c (fl hc)).trans (putW3 ab ac bc).2.2) ((s3 a (fl ha)).trans (putW3 ab ac bc).1) ((s3 c (fl hc)).trans (putW3 ab ac bc).2.2)
  | false =>
    obtain ⟨a, b, c, ea, en, ma, hb, hc, ab, ac, bc⟩ := nm_fork o h nt
    have er : rwW ts n = [[1, 1, 0], [1, 0, 1], [2, 1, 1]] := by unfold rwW; rw [if_neg (by rw [h]; decide)]
    have fl : ∀ {k : Str}, k ∈ kids ts a → k ∈ ts.map Prod.fst := fun hk => par_flag ((kid_par o).mp hk)
    have e0 : wW ts n 0 = putW (bsW ts) [a, b, c] [1, 1, 0] := by unfold wW; rw [en, er] <;> rfl
    have e1 : wW ts n 1 = putW (bsW ts) [a, b, c] [1, 0, 1] := by unfold wW; rw [en, er] <;> rfl
    have e2 : wW ts n 2 = putW (bsW ts) [a, b, c] [2, 1, 1] := by unfold wW; rw [en, er] <;> rfl
    rw [e0] at s1
    rw [e1] at s2
    rw [e2] at s3
    exact no_fork o l1 l2 l3 p1 p2 p3 w12 w13 w23 ma hb hc bc ((s1 a ma).trans (putW3 ab ac bc).1) ((s1 b (fl hb)).trans (putW3 ab ac bc).2.1) ((s2 a ma).trans (putW3 ab ac bc).1) ((s2 c (fl hc)).trans (putW3 ab ac bc).2.2) ((s3 b (fl hb)).trans (putW3 ab ac bc).2.1) ((s3 c (fl hc)).trans (putW3 ab ac bc).2.2)
end
end FT


/-! k22, plain: one way, fixed -/
namespace FT
open PySem L2 TL ClX
section
variable {t ts : List (Str × Str)} {n : Int}
end
end FT


/-! Own: zip of two iterators of any kind (a list and a tuple), and dict(zip(a, b)). -/
namespace ZpM
open PySem PySem.Calls PySem.Spec PyProof.Rows PySem.W L2
/-- an iterator at i that reads l; Pr k: it stands at turn k -/
structure Nx (prog : Program) (w : World) (i l : Addr) (xs : Array Value) (Pr : Nat → Heap → Prop) : Prop where
  item : ∀ {A : Around} {E : Value → Shared → Prop} {s : Shared} {k : Nat} {x : Value} {Q : Value → Shared → Prop}, Pr k s.heap → xs[k]? = some x → (∀ hx, Pr (k + 1) hx → Heap.SameBut i s.heap hx → Q x { s with heap := hx }) → wpAny (model prog w) A (Builtin.SmallTypes.nextOf (.ref i)) Q E s
  stop : ∀ {A : Around} {E : Value → Shared → Prop} {s : Shared} {k : Nat} {Q : Value → Shared → Prop}, A.handled = none → Pr k s.heap → xs[k]? = none → (∀ hx e, Heap.ExtBut i s.heap hx → (∃ o, hx.get? e = some o ∧ o.cls = .type "StopIteration") → E (.ref e) { s with heap := hx }) → wpAny (model prog w) A (Builtin.SmallTypes.nextOf (.ref i)) Q E s
  keep : ∀ {k : Nat} {h g : Heap}, Pr k h → (∀ o, h.get? i = some o → g.get? i = some o) → (∀ o, h.get? l = some o → g.get? l = some o) → Pr k g
  there : ∀ {k : Nat} {h : Heap}, Pr k h → (∃ o, h.get? i = some o) ∧ ∃ o, h.get? l = some o
section
variable {prog : Program} {w : World}
theorem nx_list (i l : Addr) (xs : Array Value) (ne : l ≠ i) : Nx prog w i l xs (fun k h => h.IsListIter i l k ∧ h.IsList l xs) :=
  ⟨fun p e q => wpAny_nextOf_list_item p.1 p.2 e fun hx it sb => q hx ⟨it, p.2.at fun o e' => sb.extBut _ _ ne e'⟩ sb,
   fun hh p e q => wpAny_nextOf_list_end hh p.1 p.2 e q,
   fun p k1 k2 => ⟨p.1.at k1, p.2.at k2⟩, fun p => ⟨let ⟨o, e, _⟩ := p.1; ⟨o, e⟩, let ⟨o, e, _⟩ := p.2; ⟨o, e⟩⟩⟩
theorem nx_tup (i l : Addr) (xs : Array Value) (ne : l ≠ i) : Nx prog w i l xs (fun k h => h.IsTupleIter i l k ∧ h.IsTuple l xs) :=
  ⟨fun p e q => RZ.nextOf_tuple_item p.1 p.2 e fun hx it sb => q hx ⟨it, p.2.at fun o e' => sb.extBut _ _ ne e'⟩ sb,
   fun hh p e q => RZ.nextOf_tuple_end hh p.1 p.2 e q,
   fun p k1 k2 => ⟨let ⟨o, e, r⟩ := p.1; ⟨o, k1 o e, r⟩, p.2.at k2⟩, fun p => ⟨let ⟨o, e, _⟩ := p.1; ⟨o, e⟩, let ⟨o, e, _⟩ := p.2; ⟨o, e⟩⟩⟩
variable {A : Around} {E : Value → Shared → Prop} {s : Shared} {zz tI tO ia ib la lb : Addr} {xs ys : Array Value} {P1 P2 : Nat → Heap → Prop} {k : Nat} {x y : Value}
theorem first_item {u v : Value} {Q : Value → Shared → Prop} (N1 : Nx prog w ia la xs P1) (N2 : Nx prog w ib lb ys P2) (D : ZipApart zz tI tO ia ib la lb) (iz : IsZip s.heap zz tI tO .none) (pI : IsPair s.heap tI (.ref ia) (.ref ib)) (pO : IsPair s.heap tO u v)
    (p1 : P1 k s.heap) (p2 : P2 k s.heap) (ex : xs[k]? = some x) (ey : ys[k]? = some y)
    (q : ∀ hx, IsZip hx zz tI tO (rawInt s.heap.objs.size) → P1 (k + 1) hx → P2 (k + 1) hx → IsPair hx s.heap.objs.size x y → hx.objs.size = s.heap.objs.size + 1 → (∀ c o, c ≠ zz → c ≠ tO → c ≠ ia → c ≠ ib → s.heap.get? c = some o → hx.get? c = some o) → Q (.ref s.heap.objs.size) { s with heap := hx }) :
    wpAny (model prog w) A (Builtin.«zip.__next__» ⟨[.ref zz], []⟩) (fun fin s' => ∃ v, fin = .done (.ret v) ∧ Q v s') E s := by
  show wpAny _ _ (field (.ref zz) 2 >>= _) _ _ _
  refine wpAny_bind (wpAny_field iz rfl (x := .bool false) rfl ?_)
  show wpAny _ _ (field (.ref zz) 3 >>= _) _ _ _
  refine wpAny_bind (wpAny_field iz rfl (x := .ref tI) rfl ?_)
  refine wpAny_bind (wpAny_seqItems pI rfl ?_)
  show wpAny _ _ (Builtin.SmallTypes.ownedTupleIsFree (.ref zz) >>= _) _ _ _
  refine wpAny_bind ?_
  unfold Builtin.SmallTypes.ownedTupleIsFree
  refine wpAny_bind (wpAny_field iz rfl (x := .none) rfl (wpAny_pure ?_))
  simp only [if_true]
  refine wpAny_bind (wpAny_rule ?_)
  refine wpAny_bind (wpAny_field iz rfl (x := .ref tO) rfl ?_)
  refine wpAny_bind (wpAny_setField_rec iz (by simp) fun g1 iz1 b1 => ?_)
  replace iz1 : IsZip g1 zz tI tO .ellipsis := iz1
  refine wpAny_bind ?_
  simp only [List.zipIdx_cons, List.zipIdx_nil, List.forIn_cons, List.forIn_nil]
  refine wpAny_bind (wpAny_bind (wpAny_onRaise ?_))
  show wpAny _ _ (Builtin.SmallTypes.nextOf (.ref ia) >>= _) _ _ _
  have p1' : P1 k g1 := N1.keep p1 (fun o e => b1.extBut _ _ D.i1z e) fun o e => b1.extBut _ _ D.l1z e
  have p2' : P2 k g1 := N2.keep p2 (fun o e => b1.extBut _ _ D.i2z e) fun o e => b1.extBut _ _ D.l2z e
  refine wpAny_bind (N1.item p1' ex fun g2 r1 b2 => wpAny_pure ?_)
  have pO2 : IsPair g2 tO u v := b2.extBut _ _ D.TOi1 (b1.extBut _ _ D.TOz pO)
  have p2'' : P2 k g2 := N2.keep p2' (fun o e => b2.extBut _ _ D.i12.symm e) fun o e => b2.extBut _ _ D.l2i1 e
  refine wpAny_bind (wpAny_seqItems pO2 rfl ?_)
  refine wpAny_bind (wpAny_updateSeq_pair pO2 fun g3 pO3 b3 => ?_)
  replace pO3 : IsPair g3 tO x v := pO3
  refine wpAny_bind (wpAny_letGo (wpAny_pure ?_))
  refine wpAny_bind (wpAny_bind (wpAny_onRaise ?_))
  show wpAny _ _ (Builtin.SmallTypes.nextOf (.ref ib) >>= _) _ _ _
  have p23 : P2 k g3 := N2.keep p2'' (fun o e => b3.extBut _ _ D.TOi2.symm e) fun o e => b3.extBut _ _ D.l2TO e
  have p13 : P1 (k + 1) g3 := N1.keep r1 (fun o e => b3.extBut _ _ D.TOi1.symm e) fun o e => b3.extBut _ _ D.l1TO e
  refine wpAny_bind (N2.item p23 ey fun g4 r2 b4 => wpAny_pure ?_)
  have pO4 : IsPair g4 tO x v := b4.extBut _ _ D.TOi2 pO3
  have p14 : P1 (k + 1) g4 := N1.keep p13 (fun o e => b4.extBut _ _ D.i12 e) fun o e => b4.extBut _ _ D.l1i2 e
  refine wpAny_bind (wpAny_seqItems pO4 rfl ?_)
  refine wpAny_bind (wpAny_updateSeq_pair pO4 fun g5 pO5 b5 => ?_)
  replace pO5 : IsPair g5 tO x y := pO5
  refine wpAny_bind (wpAny_letGo (wpAny_pure (wpAny_pure ?_)))
  refine wpAny_bind (wpAny_seqItems pO5 rfl ?_)
  refine wpAny_bind (wpAny_newTuple ?_)
  have sz : g5.objs.size = s.heap.objs.size := by rw [b5.1, b4.1, b3.1, b2.1, b1.1]
  have iz5 : IsZip g5 zz tI tO .ellipsis := b5.extBut _ _ D.TOz.symm (b4.extBut _ _ D.i2z.symm (b3.extBut _ _ D.TOz.symm (b2.extBut _ _ D.i1z.symm iz1)))
  have up5 : ∀ c o, c ≠ zz → c ≠ tO → c ≠ ia → c ≠ ib → s.heap.get? c = some o → g5.get? c = some o := fun c o c1 c2 c3 c4 e =>
    b5.extBut _ _ c2 (b4.extBut _ _ c4 (b3.extBut _ _ c2 (b2.extBut _ _ c3 (b1.extBut _ _ c1 e))))
  have p15 : P1 (k + 1) g5 := N1.keep p14 (fun o e => b5.extBut _ _ D.TOi1.symm e) fun o e => b5.extBut _ _ D.l1TO e
  have p25 : P2 (k + 1) g5 := N2.keep r2 (fun o e => b5.extBut _ _ D.TOi2.symm e) fun o e => b5.extBut _ _ D.l2TO e
  have zlt : zz < g5.objs.size := Heap.lt_size iz5
  show wpAny _ _ (Builtin.SmallTypes.ownedTupleHandOut (.ref zz) (.ref g5.objs.size) >>= _) _ _ _
  refine wpAny_bind ?_
  unfold Builtin.SmallTypes.ownedTupleHandOut
  have iz6 : IsZip (g5.push { cls := .type "tuple", data := .seq #[x, y] }) zz tI tO .ellipsis := Heap.get?_push_of_some _ iz5
  refine wpAny_bind (wpAny_setField_rec iz6 (by simp) fun g7 iz7 b7 => ?_)
  replace iz7 : IsZip g7 zz tI tO (rawInt g5.objs.size) := iz7
  refine wpAny_setField_rec iz7 (by simp) fun g8 iz8 b8 => ?_
  replace iz8 : IsZip g8 zz tI tO (rawInt g5.objs.size) := iz8
  have up8 : ∀ c o, c ≠ zz → g5.get? c = some o → g8.get? c = some o := fun c o c1 e => b8.extBut _ _ c1 (b7.extBut _ _ c1 (Heap.get?_push_of_some _ e))
  have pT : IsPair g8 g5.objs.size x y := b8.extBut _ _ (Nat.ne_of_gt zlt) (b7.extBut _ _ (Nat.ne_of_gt zlt) (Heap.get?_push_size _ rfl))
  have sz8 : g8.objs.size = g5.objs.size + 1 := by rw [b8.1, b7.1, Heap.size_push]
  rw [sz] at iz8 pT sz8
  refine wpAny_pure ⟨_, rfl, ?_⟩
  rw [sz]
  exact q g8 iz8 (N1.keep p15 (fun o e => up8 _ _ D.i1z e) fun o e => up8 _ _ D.l1z e) (N2.keep p25 (fun o e => up8 _ _ D.i2z e) fun o e => up8 _ _ D.l2z e) pT sz8 fun c o c1 c2 c3 c4 e => up8 c o c1 (up5 c o c1 c2 c3 c4 e)
theorem next_item {tT : Addr} {f : Bool} {oT : Obj} {Q : Value → Shared → Prop} (N1 : Nx prog w ia la xs P1) (N2 : Nx prog w ib lb ys P2) (D : ZipApart zz tI tO ia ib la lb) (iz : IsZipHeld s.heap zz tI tO tT f) (hT : s.heap.get? tT = some oT) (pI : IsPair s.heap tI (.ref ia) (.ref ib))
    (p1 : P1 k s.heap) (p2 : P2 k s.heap) (ex : xs[k]? = some x) (ey : ys[k]? = some y)
    (q : ∀ hx, IsZipHeld hx zz tI tO tT true → P1 (k + 1) hx → P2 (k + 1) hx → IsPair hx s.heap.objs.size x y → hx.objs.size = s.heap.objs.size + 1 → (∀ c o, c ≠ zz → c ≠ ia → c ≠ ib → s.heap.get? c = some o → hx.get? c = some o) → Q (.ref s.heap.objs.size) { s with heap := hx }) :
    wpAny (model prog w) A (Builtin.«zip.__next__» ⟨[.ref zz], []⟩) (fun fin s' => ∃ v, fin = .done (.ret v) ∧ Q v s') E s := by
  show wpAny _ _ (field (.ref zz) 2 >>= _) _ _ _
  refine wpAny_bind (wpAny_field iz rfl (x := .bool false) rfl ?_)
  show wpAny _ _ (field (.ref zz) 3 >>= _) _ _ _
  refine wpAny_bind (wpAny_field iz rfl (x := .ref tI) rfl ?_)
  refine wpAny_bind (wpAny_seqItems pI rfl ?_)
  show wpAny _ _ (Builtin.SmallTypes.ownedTupleIsFree (.ref zz) >>= _) _ _ _
  refine wpAny_bind (wpAny_tupleHeld_zip iz hT fun g1 iz1 b1 => ?_)
  simp only [Bool.false_eq_true, if_false]
  refine wpAny_bind ?_
  rw [← Array.forIn_toList]
  simp only [List.forIn_cons, List.forIn_nil]
  refine wpAny_bind (wpAny_bind (wpAny_holding ?_))
  show wpAny _ _ (Builtin.SmallTypes.nextOf (.ref ia) >>= _) _ _ _
  have p1' : P1 k g1 := N1.keep p1 (fun o e => b1.extBut _ _ D.i1z e) fun o e => b1.extBut _ _ D.l1z e
  have p2' : P2 k g1 := N2.keep p2 (fun o e => b1.extBut _ _ D.i2z e) fun o e => b1.extBut _ _ D.l2z e
  refine wpAny_bind (N1.item (s := { s with heap := g1 }) p1' ex fun g2 r1 b2 => wpAny_pure ?_)
  refine wpAny_pure ?_
  have p2'' : P2 k g2 := N2.keep p2' (fun o e => b2.extBut _ _ D.i12.symm e) fun o e => b2.extBut _ _ D.l2i1 e
  refine wpAny_bind (wpAny_bind (wpAny_holding ?_))
  show wpAny _ _ (Builtin.SmallTypes.nextOf (.ref ib) >>= _) _ _ _
  refine wpAny_bind (N2.item (s := { s with heap := g2 }) p2'' ey fun g3 r2 b3 => wpAny_pure ?_)
  refine wpAny_pure (wpAny_pure ?_)
  show wpAny _ _ (newTuple [x, y] >>= _) _ _ _
  refine wpAny_bind (wpAny_newTuple ?_)
  have sz : g3.objs.size = s.heap.objs.size := by rw [b3.1, b2.1, b1.1]
  have iz3 : IsZipHeld g3 zz tI tO tT true := b3.extBut _ _ D.i2z.symm (b2.extBut _ _ D.i1z.symm iz1)
  have up : ∀ c o, c ≠ zz → c ≠ ia → c ≠ ib → s.heap.get? c = some o → g3.get? c = some o := fun c o c1 c2 c3 e => b3.extBut _ _ c3 (b2.extBut _ _ c2 (b1.extBut _ _ c1 e))
  have p13 : P1 (k + 1) g3 := N1.keep r1 (fun o e => b3.extBut _ _ D.i12 e) fun o e => b3.extBut _ _ D.l1i2 e
  refine wpAny_pure ⟨_, rfl, ?_⟩
  show Q (.ref g3.objs.size) _
  have pT : IsPair (g3.push { cls := .type "tuple", data := .seq #[x, y] }) g3.objs.size x y := Heap.get?_push_size _ rfl
  have sz4 : (g3.push { cls := .type "tuple", data := .seq #[x, y] }).objs.size = g3.objs.size + 1 := Heap.size_push ..
  rw [sz] at pT sz4 ⊢
  exact q _ (Heap.get?_push_of_some _ iz3) (N1.keep p13 (fun o e => Heap.get?_push_of_some _ e) fun o e => Heap.get?_push_of_some _ e) (N2.keep r2 (fun o e => Heap.get?_push_of_some _ e) fun o e => Heap.get?_push_of_some _ e) pT sz4 fun c o c1 c2 c3 e => Heap.get?_push_of_some _ (up c o c1 c2 c3 e)
theorem next_stop {tT : Addr} {f : Bool} {oT : Obj} {Q : Fin → Shared → Prop} (hh : A.handled = none) (N1 : Nx prog w ia la xs P1) (D : ZipApart zz tI tO ia ib la lb) (iz : IsZipHeld s.heap zz tI tO tT f) (hT : s.heap.get? tT = some oT) (pI : IsPair s.heap tI (.ref ia) (.ref ib))
    (p1 : P1 k s.heap) (ex : xs[k]? = none)
    (q : ∀ hx e, (∀ c o, c ≠ zz → c ≠ ia → s.heap.get? c = some o → hx.get? c = some o) → (∃ o, hx.get? e = some o ∧ o.cls = .type "StopIteration") → E (.ref e) { s with heap := hx }) :
    wpAny (model prog w) A (Builtin.«zip.__next__» ⟨[.ref zz], []⟩) Q E s := by
  show wpAny _ _ (field (.ref zz) 2 >>= _) _ _ _
  refine wpAny_bind (wpAny_field iz rfl (x := .bool false) rfl ?_)
  show wpAny _ _ (field (.ref zz) 3 >>= _) _ _ _
  refine wpAny_bind (wpAny_field iz rfl (x := .ref tI) rfl ?_)
  refine wpAny_bind (wpAny_seqItems pI rfl ?_)
  show wpAny _ _ (Builtin.SmallTypes.ownedTupleIsFree (.ref zz) >>= _) _ _ _
  refine wpAny_bind (wpAny_tupleHeld_zip iz hT fun g1 iz1 b1 => ?_)
  simp only [Bool.false_eq_true, if_false]
  refine wpAny_bind ?_
  rw [← Array.forIn_toList]
  simp only [List.forIn_cons, List.forIn_nil]
  refine wpAny_bind (wpAny_bind (wpAny_holding ?_))
  show wpAny _ _ (Builtin.SmallTypes.nextOf (.ref ia) >>= _) _ _ _
  have p1' : P1 k g1 := N1.keep p1 (fun o e => b1.extBut _ _ D.i1z e) fun o e => b1.extBut _ _ D.l1z e
  refine wpAny_bind (N1.stop (s := { s with heap := g1 }) hh p1' ex fun g2 e b2 he => ?_)
  exact q g2 e (fun c o c1 c2 z => b2 _ _ c2 (b1.extBut _ _ c1 z)) he
end
/-! ### dict(zip(..)) -/
section
variable {prog : Program} {w : World}
def OkZ (zz tI tO ia ib : Addr) (P1 P2 : Nat → Heap → Prop) (h : Heap) : Prop := IsZip h zz tI tO .none ∧ IsPair h tI (.ref ia) (.ref ib) ∧ (∃ u v, IsPair h tO u v) ∧ P1 0 h ∧ P2 0 h
def StZ (zz tI tO ia ib d : Addr) (P1 P2 : Nat → Heap → Prop) (k : Nat) (h : Heap) : Prop := IsPair h tI (.ref ia) (.ref ib) ∧ P1 k h ∧ P2 k h ∧ ((k = 0 ∧ IsZip h zz tI tO .none ∧ ∃ u v, IsPair h tO u v) ∨ (0 < k ∧ ∃ T f oT, IsZipHeld h zz tI tO T f ∧ h.get? T = some oT ∧ T ≠ zz ∧ T ≠ ia ∧ T ≠ ib ∧ T ≠ d))
theorem srcZ {A : Around} {zz tI tO ia ib la lb d : Addr} {xs ys : Array Value} {P1 P2 : Nat → Heap → Prop} (hh : A.handled = none) (N1 : Nx prog w ia la xs P1) (N2 : Nx prog w ib lb ys P2) (D : ZipApart zz tI tO ia ib la lb) (el : xs.size = ys.size) (pos : 0 < xs.size)
    (dz : d ≠ zz) (dI : d ≠ tI) (dO : d ≠ tO) (d1 : d ≠ ia) (d2 : d ≠ ib) (d3 : d ≠ la) (d4 : d ≠ lb) : PairSrc prog w A zz d [zz, tO, ia, ib] xs.size (fun i k v => xs[i]? = some k ∧ ys[i]? = some v) (StZ zz tI tO ia ib d P1 P2) where
  off := fun m => by
    simp only [List.mem_cons, List.not_mem_nil, or_false] at m
    rcases m with e | e | e | e
    · exact dz e
    · exact dO e
    · exact d1 e
    · exact d2 e
  frame := fun i h g st kp => by
    obtain ⟨pI, p1, p2, alt⟩ := st
    refine ⟨kp _ _ dI.symm pI, N1.keep p1 (fun o e => kp _ _ d1.symm e) (fun o e => kp _ _ d3.symm e), N2.keep p2 (fun o e => kp _ _ d2.symm e) (fun o e => kp _ _ d4.symm e), ?_⟩
    rcases alt with ⟨e0, iz, u, v, pO⟩ | ⟨e0, T, f, oT, iz, hT, n1, n2, n3, n4⟩
    · exact .inl ⟨e0, kp _ _ dz.symm iz, u, v, kp _ _ dO.symm pO⟩
    · exact .inr ⟨e0, T, f, oT, kp _ _ dz.symm iz, kp _ _ n4 hT, n1, n2, n3, n4⟩
  item := fun i s Q E hi st dl q => by
    obtain ⟨pI, p1, p2, alt⟩ := st
    have ex := Array.getElem?_eq_getElem hi
    have ey := Array.getElem?_eq_getElem (show i < ys.size from el ▸ hi)
    have up : ∀ {c : Addr}, (∃ o, s.heap.get? c = some o) → s.heap.objs.size ≠ c := fun ⟨o, e⟩ => Nat.ne_of_gt (Heap.lt_size e)
    have t1 := up (N1.there p1).1
    have t2 := up (N2.there p2).1
    unfold pyNext
    rcases alt with ⟨e0, iz, u, v, pO⟩ | ⟨e0, T, f, oT, iz, hT, n1, n2, n3, n4⟩
    · have ty : s.TypeIs (.ref zz) "zip" := ⟨_, iz, rfl⟩
      refine wpAny_bind (wpAny_attempt (wpAny_callSpecial?_slot (name := Str.ofString "__next__") ty F.slot_zip_next (wpAny_call_entry F.slot_zip_next ty F.entry_zip_next (first_item N1 N2 D iz pI pO p1 p2 ex ey fun hx z' r1 r2 pT sz kp => ?_) (F.args_zip_next_1 _))))
      refine wpAny_pure (q s.heap.objs.size _ _ hx s.toks ⟨ex, ey⟩ (.inl ⟨_, pT, rfl, _, rfl⟩) ⟨kp _ _ D.TIz D.TITO D.TIi1 D.TIi2 pI, r1, r2, .inr ⟨Nat.succ_pos _, s.heap.objs.size, false, _, z', pT, up ⟨_, iz⟩, t1, t2, Nat.ne_of_gt dl⟩⟩ fun c o hc e => ?_)
      exact kp c o (fun x => hc (by simp [x])) (fun x => hc (by simp [x])) (fun x => hc (by simp [x])) (fun x => hc (by simp [x])) e
    · have ty : s.TypeIs (.ref zz) "zip" := ⟨_, iz, rfl⟩
      refine wpAny_bind (wpAny_attempt (wpAny_callSpecial?_slot (name := Str.ofString "__next__") ty F.slot_zip_next (wpAny_call_entry F.slot_zip_next ty F.entry_zip_next (next_item N1 N2 D iz hT pI p1 p2 ex ey fun hx z' r1 r2 pT sz kp => ?_) (F.args_zip_next_1 _))))
      refine wpAny_pure (q s.heap.objs.size _ _ hx s.toks ⟨ex, ey⟩ (.inl ⟨_, pT, rfl, _, rfl⟩) ⟨kp _ _ D.TIz D.TIi1 D.TIi2 pI, r1, r2, .inr ⟨Nat.succ_pos _, T, true, oT, z', kp _ _ n1 n2 n3 hT, n1, n2, n3, n4⟩⟩ fun c o hc e => ?_)
      exact kp c o (fun x => hc (by simp [x])) (fun x => hc (by simp [x])) (fun x => hc (by simp [x])) e
  done := fun s Q E st q => by
    obtain ⟨pI, p1, p2, alt⟩ := st
    rcases alt with ⟨e0, _⟩ | ⟨e0, T, f, oT, iz, hT, n1, n2, n3, n4⟩
    · exact absurd e0 (Nat.ne_of_gt pos)
    · have ty : s.TypeIs (.ref zz) "zip" := ⟨_, iz, rfl⟩
      unfold pyNext
      refine wpAny_bind (wpAny_attempt (wpAny_callSpecial?_slot (name := Str.ofString "__next__") ty F.slot_zip_next (wpAny_call_entry F.slot_zip_next ty F.entry_zip_next (next_stop hh N1 D iz hT pI p1 (by simp) fun hx e kp he => ?_) (F.args_zip_next_1 _))))
      obtain ⟨o, ho, hc⟩ := he
      refine wpAny_bind (wpAny_isInstance (T := "StopIteration") (b := true) ⟨o, ho, hc⟩ isSubtype_stop ?_)
      exact wpAny_pure (q _ s.toks fun c o hc e => kp c o (fun x => hc (by simp [x])) (fun x => hc (by simp [x])) e)
theorem argZ {zz tI tO ia ib la lb : Addr} {xs ys : Array Value} {P1 P2 : Nat → Heap → Prop} (N1 : Nx prog w ia la xs P1) (N2 : Nx prog w ib lb ys P2) (D : ZipApart zz tI tO ia ib la lb) (el : xs.size = ys.size) (pos : 0 < xs.size) :
    PairArg prog w "zip" zz [zz, tI, tO, ia, ib, la, lb] [zz, tO, ia, ib] xs.size (fun i k v => xs[i]? = some k ∧ ys[i]? = some v) (OkZ zz tI tO ia ib P1 P2) where
  type := fun s ok => ⟨_, ok.1, rfl⟩
  notDict := by decide
  keep := fun h g ok kp => by
    obtain ⟨iz, pI, ⟨u, v, pO⟩, p1, p2⟩ := ok
    exact ⟨kp _ _ iz, kp _ _ pI, ⟨u, v, kp _ _ pO⟩, N1.keep p1 (fun o e => kp _ _ e) (fun o e => kp _ _ e), N2.keep p2 (fun o e => kp _ _ e) (fun o e => kp _ _ e)⟩
  there := fun h ok b m => by
    obtain ⟨iz, pI, ⟨u, v, pO⟩, p1, p2⟩ := ok
    simp only [List.mem_cons, List.not_mem_nil, or_false] at m
    rcases m with rfl | rfl | rfl | rfl | rfl | rfl | rfl
    · exact ⟨_, iz⟩
    · exact ⟨_, pI⟩
    · exact ⟨_, pO⟩
    · exact (N1.there p1).1
    · exact (N2.there p2).1
    · exact (N1.there p1).2
    · exact (N2.there p2).2
  sub := fun b m => by
    simp only [List.mem_cons, List.not_mem_nil, or_false] at m ⊢
    rcases m with rfl | rfl | rfl | rfl <;> simp
  noKeys := fun A s Q E hA ok q => getAttrOr_miss_zip ok.1 rfl rfl rfl zip_no_keys (by decide +kernel) hA q
  iter := fun A s d Q E hA ok dl nf q => by
    obtain ⟨iz, pI, ⟨u, v, pO⟩, p1, p2⟩ := ok
    simp only [List.mem_cons, List.not_mem_nil, or_false, not_or] at nf
    obtain ⟨dz, dI, dO, d1, d2, d3, d4⟩ := nf
    exact wpAny_pyIter_zip iz (q zz _ _ s.heap s.toks (srcZ hA N1 N2 D el pos dz dI dO d1 d2 d3 d4) ⟨pI, p1, p2, .inl ⟨rfl, iz, u, v, pO⟩⟩ (fun _ _ e => e) fun b m => .inl m)
end
/-! ### zip(a list, a tuple) -/
abbrev mx1 (h : Heap) (la : Addr) : Heap := h.push { cls := .type "list_iterator", data := .fields #[.ref la, .int 0 0] }
abbrev mx2 (h : Heap) (la lb : Addr) : Heap := (mx1 h la).push { cls := .type "tuple_iterator", data := .fields #[.ref lb, .int 0 0] }
abbrev mx3 (h : Heap) (la lb : Addr) : Heap := (mx2 h la lb).push { cls := .type "tuple", data := .seq #[.ref h.objs.size, .ref (mx1 h la).objs.size] }
abbrev mx4 (h : Heap) (la lb : Addr) : Heap := (mx3 h la lb).push { cls := .type "tuple", data := .seq #[.none, .none] }
abbrev mx5 (h : Heap) (la lb : Addr) : Heap := (mx4 h la lb).push { cls := .type "zip", data := .fields #[.none, .bool false, .bool false, .ref (mx2 h la lb).objs.size, .ref (mx3 h la lb).objs.size] }
theorem new_zipM (la lb : Addr) (xs ys : Array Value) :
    Meets (Builtin.«zip.__new__» ⟨[.type "zip", .ref la, .ref lb], []⟩) (fun _ R s => s.heap.IsList la xs ∧ s.heap.IsTuple lb ys ∧ R (.ok (.ret (.ref (mx4 s.heap la lb).objs.size))) { s with heap := mx5 s.heap la lb }) :=
  .of_wp fun prog w A R s ⟨a1, a2, q⟩ => by
    obtain ⟨hp, g, d, tk, os⟩ := s
    have hsub := sub_zip
    have u1 : Heap.IsList (Shared.heap ⟨hp, g, d, tk, os⟩) la xs := a1
    have u2 : Heap.IsTuple (Shared.heap ⟨mx1 hp la, g, d, tk, os⟩) lb ys := Heap.IsTuple.push a2 _
    wp_walk using wpAny_pyIter_list u1, wpAny_pyIter_tuple u2
    exact ⟨_, rfl, q⟩
section
variable {prog : Program} {w : World} {A : Around} {E : Value → Shared → Prop} {s : Shared}
theorem call_zipM {la lb : Addr} {xs ys : Array Value} {Q : Value → Shared → Prop} (a1 : s.heap.IsList la xs) (a2 : s.heap.IsTuple lb ys)
    (q : ∀ hx, IsZip hx (s.heap.objs.size + 4) (s.heap.objs.size + 2) (s.heap.objs.size + 3) .none → IsPair hx (s.heap.objs.size + 2) (.ref s.heap.objs.size) (.ref (s.heap.objs.size + 1)) → IsPair hx (s.heap.objs.size + 3) .none .none →
      hx.IsListIter s.heap.objs.size la 0 → hx.IsTupleIter (s.heap.objs.size + 1) lb 0 → hx.objs.size = s.heap.objs.size + 5 → (∀ c o, s.heap.get? c = some o → hx.get? c = some o) → Q (.ref (s.heap.objs.size + 4)) { s with heap := hx }) :
    wpAny (model prog w) A (call (.type "zip") [.ref la, .ref lb]) Q E s := by
  refine callType_new F.called_zip (by decide) (F.typeCall_zip_2 _ _) (F.newCall_zip_2 _ _) (fun obj => F.args_object_init_3 obj _ _) F.entry_zip_new (new_zipM la lb xs ys) ⟨a1, a2, ?_⟩
  have e1 : (mx1 s.heap la).objs.size = s.heap.objs.size + 1 := Heap.size_push ..
  have e2 : (mx2 s.heap la lb).objs.size = s.heap.objs.size + 2 := by rw [Heap.size_push, e1]
  have e3 : (mx3 s.heap la lb).objs.size = s.heap.objs.size + 3 := by rw [Heap.size_push, e2]
  have e4 : (mx4 s.heap la lb).objs.size = s.heap.objs.size + 4 := by rw [Heap.size_push, e3]
  have e5 : (mx5 s.heap la lb).objs.size = s.heap.objs.size + 5 := by rw [Heap.size_push, e4]
  have up1 : ∀ {h : Heap} {a : Obj} {c : Addr} {o : Obj}, h.get? c = some o → (h.push a).get? c = some o := fun e => Heap.get?_push_of_some _ e
  have k5 : (mx5 s.heap la lb).get? (mx4 s.heap la lb).objs.size = some _ := Heap.get?_push_size _ rfl
  have k4 : (mx5 s.heap la lb).get? (mx3 s.heap la lb).objs.size = some _ := up1 (Heap.get?_push_size _ rfl)
  have k3 : (mx5 s.heap la lb).get? (mx2 s.heap la lb).objs.size = some _ := up1 (up1 (Heap.get?_push_size _ rfl))
  have k2 : (mx5 s.heap la lb).get? (mx1 s.heap la).objs.size = some _ := up1 (up1 (up1 (Heap.get?_push_size _ rfl)))
  have k1 : (mx5 s.heap la lb).get? s.heap.objs.size = some _ := up1 (up1 (up1 (up1 (Heap.get?_push_size _ rfl))))
  show _ ∧ _
  rw [e2, e3, e4] at k5
  rw [e1, e2] at k3
  rw [e3] at k4
  rw [e1] at k2
  rw [e4]
  exact ⟨⟨_, k5, rfl⟩, q _ k5 k3 k4 ⟨_, k1, rfl, rfl⟩ ⟨_, k2, rfl, rfl⟩ e5 fun c o e => up1 (up1 (up1 (up1 (up1 e))))⟩
end
def tDictZip (K : PySem.W.Frag) (ta : TA) : TE := fun σ H Q => ta σ H fun vs H1 => ∃ (a b : Addr) (ks : List Key) (ys : List V), vs = [.ref a, .ref b] ∧ SqL K H1 a (ks.map kV) ∧ SqT K H1 b ys ∧ ks.length = ys.length ∧ 0 < ks.length ∧
  ∀ p, H1 p = none → Q (.ref p) (upd H1 p (.dK (mergeK [] (ks.zip ys))))
section
variable {X : Cx}
theorem pair_back {α β : Type} {G : α → β → Prop} : ∀ {l : List α} {m : List β}, Paired G l m → ∀ {i : Nat} {b : β}, m[i]? = some b → ∃ a, l[i]? = some a ∧ G a b
  | _, _, .nil, _, _, e => by cases e
  | _, _, .cons g r, 0, _, e => ⟨_, rfl, by cases e; exact g⟩
  | _, _, .cons g r, i + 1, b, e => by
    rw [List.getElem?_cons_succ] at e
    obtain ⟨a, ea, ga⟩ := pair_back r e
    exact ⟨a, by rw [List.getElem?_cons_succ]; exact ea, ga⟩
theorem kv_zip : ∀ {ks : List Key} {ys : List V} {us : List Value}, Vals ys us → KV (ks.zip ys) (ks.zip us)
  | [], _, _, _ => .nil
  | _ :: _, _, _, .nil => .nil
  | _ :: ks, _, _, .cons r rr => .cons ⟨rfl, r⟩ (kv_zip (ks := ks) rr)
/-- dict(zip(a list, a tuple)) -/
theorem pe_dictZip {e1 e2 : Expr} {ta : TA} {p p2 pos pos2 : Pos} (hc : X.calm = true) (ha : PA X [e1, e2] ta) (hg : Gl X "dict") (hm : X.mg "dict" = none) (hg2 : Gl X "zip") (hm2 : X.mg "zip" = none)
    (hv : bootBuiltins "dict" = some (.type "dict") := by decide +kernel) (hs : starEach [.Call (.Name "zip" p2) [e1, e2] [] pos2] X.env = (false, eval (.Call (.Name "zip" p2) [e1, e2] [] pos2) X.env) :: starEach [] X.env := by rfl)
    (hs2 : starEach [e1, e2] X.env = (false, eval e1 X.env) :: starEach [e2] X.env := by rfl) (hpl : (backTo pos2 (starEach [e2] X.env)).any (·.1) = false := by rfl) :
    PE X (.Call (.Name "dict" p) [.Call (.Name "zip" p2) [e1, e2] [] pos2] [] pos) (tDictZip X.K ta) := by
  refine ⟨fun pins s σ H Q I hq => ?_⟩
  refine wpAny_Call_Name_kw (ld_blt I hg hm hv ?_)
  refine PyProof.Rows.callWith_type1 ?_ hs rfl
  rw [hs]
  show wpAny _ _ (spliced ((false, eval (.Call (.Name "zip" p2) [e1, e2] [] pos2) X.env) :: backTo pos (starEach [] X.env))) _ _ s
  refine Calls.spliced_cons ?_
  refine wpAny_Call_Name_kw (ld_blt I hg2 hm2 PyProof.Rows.boot_zip ?_)
  refine PyProof.Rows.callWith_type1 (thn (ha.run pos2 pins s σ H _ I hq) fun us s1 ⟨vs, H1, I1, r1, q1⟩ => ?_) hs2 hpl
  obtain ⟨a, b, ks, ys, ex, hqx, hqy, el, pos, q⟩ := q1
  subst ex
  cases r1 with
  | cons r rr =>
    cases rr with
    | cons r' rr =>
      cases rr
      cases r
      cases r'
      obtain ⟨its, rv, p1, fx⟩ := I1.list hqx
      obtain ⟨its2, rv2, p2, fy⟩ := I1.tuple hqy
      have ll1 := rv.length
      have ll2 := rv2.length
      rw [List.length_map] at ll1
      obtain ⟨o2, ho2, _⟩ := id p2
      have la : a < s1.heap.objs.size := p1.lt
      have lb : b < s1.heap.objs.size := Heap.lt_size ho2
      have up : ∀ {c : Addr} (n : Nat), c < s1.heap.objs.size → c ≠ s1.heap.objs.size + n := fun n h => Nat.ne_of_lt (Nat.lt_of_lt_of_le h (Nat.le_add_right _ _))
      refine call_zipM p1.isList (show s1.heap.IsTuple b its2.toArray from p2) fun hx hz hTI hTO h1 h2 hsz hk => ?_
      refine Calls.spliced_nil ?_
      have A0 := PySem.W.ktu_apart s1.heap.objs.size a b la lb
      refine PySem.call_dict_pairs (s := { s1 with heap := hx }) (knd := mixKind X.prog X.w) (kvs := ks.zip its2) (argZ (nx_list s1.heap.objs.size a its.toArray (up 0 la)) (nx_tup (s1.heap.objs.size + 1) b its2.toArray (up 1 lb)) A0 (by rw [List.size_toArray, List.size_toArray]; omega) (by rw [List.size_toArray]; omega))
        (I1.ok.hd hc) ⟨hz, hTI, ⟨_, _, hTO⟩, ⟨h1, p1.isList.at fun o e => hk _ _ e⟩, ⟨h2, Heap.IsTuple.at (show s1.heap.IsTuple b its2.toArray from p2) fun o e => hk _ _ e⟩⟩ ?_ (by rw [List.size_toArray]; omega) fun h'' tk hd' hk' => ?_
      · refine ⟨by rw [List.length_zip, List.size_toArray]; omega, fun i key v ⟨e1, e2⟩ => ?_⟩
        have e1 : its[i]? = some key := by simpa using e1
        have e2 : its2[i]? = some v := by simpa using e2
        obtain ⟨kx, hkx, isk⟩ := pair_back (paired_keys (prog := X.prog) (w := X.w) rv) e1
        exact ⟨kx, List.getElem?_zip_eq_some.mpr ⟨hkx, e2⟩, isk⟩
      · have kp : ∀ c o, s1.heap.get? c = some o → h''.get? c = some o := fun c o e => by
          have lt := Heap.lt_size e
          refine hk' c o (fun m => ?_) (hk c o e)
          simp only [List.mem_cons, List.not_mem_nil, or_false] at m
          rcases m with z | z | z | z
          · exact up 4 lt z
          · exact up 3 lt z
          · exact up 0 lt z
          · exact up 1 lt z
        have big : s1.heap.objs.size ≤ hx.objs.size := by rw [hsz]; exact Nat.le_add_right _ _
        have nm : (hx.objs.size == sysModules) = false := beq_eq_false_iff_ne.mpr (Nat.ne_of_gt (Nat.lt_of_lt_of_le I1.big big))
        have few : (mergeK [] (ks.zip ys)).length ≤ sizeLine := by
          refine Nat.le_trans (length_mergeK _ []) ?_
          rw [List.length_nil, Nat.zero_add, List.length_zip]
          omega
        exact ⟨.ref hx.objs.size, upd H1 hx.objs.size (.dK (mergeK [] (ks.zip ys))), I1.laid (t' := tk) kp big (show ObjOk X.prog X.w _ _ _ (.dK (mergeK [] (ks.zip ys))) from ⟨few, nm, merged [] (ks.zip its2), KV.merge (kv_zip rv2) .nil, hd'⟩), rfl, q _ (I1.hok.fresh big)⟩
end
end ZpM


/-! Own: {**a, **b} of two dicts -/
namespace DsT
open PySem PySem.Spec PyProof.Rows L2
section
variable {prog : Program} {w : World} {K : Type} [DecidableEq K] {knd : KeyKind prog w K} {A : Around} {E : Value → Shared → Prop} {s : Shared}
theorem put_pairs {d : Addr} {kvs : List (K × Value)} {x : K} {key v : Value} {Q : Unit → Shared → Prop} (hx : knd.is x key = true) (hm : s.heap.DictOf knd d kvs) (few : kvs.length ≤ sizeLine)
    (q : ∀ g, g.DictOf knd d (stored kvs x v) → Heap.SameBut d s.heap g → Q () { s with heap := g }) : wpAny (model prog w) A (dictPut d (knd.hash x) key v) Q E s := by
  obtain ⟨ob, en, pt, go, cd, dd, kn, pr, nn⟩ := hm
  have room : en.size ≤ sizeLine := by
    have l1 := pr.length
    have l2 : en.toList.length = en.size := by simp
    omega
  unfold dictPut
  refine wpAny_bind (wpAny_dictFind_of hx go dd kn ?_)
  have same : (en.findIdx? fun e => knd.is x e.key) = kvs.findIdx? fun kv => decide (kv.1 = x) := by
    rw [← pr.findIdx x]
    obtain ⟨l⟩ := en
    simp
  cases at_ : en.findIdx? fun e => knd.is x e.key with
  | some i =>
    have al : (en.toList.findIdx? fun e => knd.is x e.key) = some i := by
      rw [← at_]
      obtain ⟨l⟩ := en
      simp
    have hit := any_of_findIdx_some (same ▸ at_)
    refine wpAny_updateDict go dd (q _ ⟨_, _, pt, Heap.get?_update_self _ go (Obj.isFreed_of_dict (Obj.data_mapDict dd _)), cd.mapDict _, Obj.data_mapDict dd _, kn.modify _ _, ?_, ?_⟩ (Heap.SameBut.update ..))
    · have z := pr.modify nn al v
      rw [stored, if_pos hit]
      obtain ⟨l⟩ := en
      simpa using z
    · rw [stored, if_pos hit, keys_map_store]
      exact nn
  | none =>
    have off : x ∉ kvs.map (·.1) := not_mem_of_findIdx_none (same ▸ at_)
    have miss : ¬ (kvs.any fun kv => decide (kv.1 = x)) = true := fun z => by
      obtain ⟨kv, mk, e⟩ := List.any_eq_true.mp z
      exact off (List.mem_map.mpr ⟨kv, mk, of_decide_eq_true e⟩)
    refine wpAny_updateDictKeys (hz := room) go dd (q _ ⟨_, _, pt + 1, Heap.get?_update_self _ go (Obj.isFreed_of_dict (Obj.data_mapDictKeys dd _)), cd.mapDictKeys _, Obj.data_mapDictKeys dd _, kn.push hx _, ?_, ?_⟩ (Heap.SameBut.update ..))
    · have z := pr.append hx (knd.hash x) v
      rw [stored, if_neg miss]
      obtain ⟨l⟩ := en
      simpa using z
    · rw [stored, if_neg miss, List.map_append, List.nodup_append]
      refine ⟨nn, by simp, fun a ma b mb => ?_⟩
      simp only [List.map_cons, List.map_nil, List.mem_singleton] at mb
      subst mb
      exact fun e => off (e ▸ ma)
theorem merge_map {d o : Addr} {kvs more : List (K × Value)} {Q : Unit → Shared → Prop} (ne : d ≠ o) (so : (o == sysModules) = false) (hd : s.heap.DictOf knd d kvs) (ho : s.heap.DictOf knd o more) (few : kvs.length + more.length ≤ sizeLine)
    (q : ∀ g, g.DictOf knd d (merged kvs more) → g.DictOf knd o more → Heap.SameBut d s.heap g → Q () { s with heap := g }) : wpAny (model prog w) A (mergeMapping d (.ref o) false) Q E s := by
  obtain ⟨od, ed, pd, god, cd, dd, kd, pdd, nd⟩ := id hd
  obtain ⟨oo, eo, po, goo, co, doo, ko, poo, no⟩ := id ho
  have lm : more.length = eo.size := by rw [← poo.length]; simp
  unfold mergeMapping
  refine wpAny_bind (wpAny_isInstance ho.typeIs isSubtype_dict_dict ?_)
  simp only [if_true]
  refine wpAny_bind (wpAny_specialOf ho.typeIs F.slot_dict_iter.lookup ?_)
  refine wpAny_bind (wpAny_pure ?_)
  simp only [beq_self_eq_true, so, Bool.false_eq_true, if_false]
  have rest : ∀ {Z : Unit → Shared → Prop}, (∀ g, g.DictOf knd d (merged kvs more) → g.DictOf knd o more → Heap.SameBut d s.heap g → Z () { s with heap := g }) → wpAny (model prog w) A (do
      let es ← dictEntries o
      let size : Nat := es.size
      let epoch ← dictEpoch o
      forIn (List.range size) PUnit.unit fun i (_ : PUnit) => (do
          let es' ← dictEntries o
          match es'[i]? with
            | some e => do
              holding [e.key, e.val] (dictPut d e.hash e.key e.val)
              let ep ← dictEpoch o
              if (ep != epoch) = true then do
                  (unsupported "dict.changed-during-merge" : Sem PUnit)
                  pure (ForInStep.yield PUnit.unit)
                else pure (ForInStep.yield PUnit.unit)
            | x => do
              (unsupported "dict.changed-during-merge" : Sem PUnit)
              pure (ForInStep.yield PUnit.unit) : Sem (ForInStep PUnit))
      pure ()) Z E s := by
    intro Z z
    refine wpAny_bind (wpAny_dictEntries goo doo ?_)
    refine wpAny_bind (wpAny_dictEpoch goo doo ?_)
    refine wpAny_bind ?_
    rw [List.range_eq_range']
    refine wpAny_forIn_list _ (fun left _ s' => ∃ g i, s' = { s with heap := g } ∧ left = List.range' i (eo.size - i) ∧ i ≤ eo.size ∧ g.DictOf knd d (merged kvs (more.take i)) ∧ g.get? o = some oo ∧ Heap.SameBut d s.heap g) _ ?_ ?_ _ _ ⟨s.heap, 0, rfl, by simp, Nat.zero_le _, by simpa [merged] using hd, goo, Heap.SameBut.refl _ _⟩
    · rintro j left b s' ⟨g, i, rfl, hl, hi, dg, og, sg⟩
      have lt : i < eo.size := Nat.lt_of_not_le fun le => by
        rw [Nat.sub_eq_zero_of_le le] at hl
        simp at hl
      obtain ⟨rfl, hl2⟩ : j = i ∧ left = List.range' (i + 1) (eo.size - (i + 1)) := by
        rw [show eo.size - i = (eo.size - (i + 1)) + 1 by omega, List.range'_succ] at hl
        injection hl with h1 h2
        exact ⟨h1, h2⟩
      refine wpAny_bind (wpAny_dictEntries og doo ?_)
      rw [Array.getElem?_eq_getElem lt]
      obtain ⟨⟨x, v⟩, hkv⟩ : ∃ kv, more[j]? = some kv := ⟨more[j]'(by rw [lm]; exact lt), List.getElem?_eq_getElem _⟩
      obtain ⟨key, val⟩ := poo.get? (e := eo[j]) (by simp [lt]) hkv
      obtain ⟨x', key', hash⟩ := ko eo[j] (Array.getElem_mem lt)
      obtain rfl : x' = x := knd.inj _ _ _ key' key
      show wpAny _ _ (holding [eo[j].key, eo[j].val] (dictPut d eo[j].hash eo[j].key eo[j].val) >>= _) _ _ _
      rw [hash, val]
      have room : (merged kvs (more.take j)).length ≤ sizeLine := by
        have e1 := merged_length_le kvs (more.take j)
        have e2 : (more.take j).length ≤ more.length := by rw [List.length_take]; omega
        omega
      refine wpAny_bind (wpAny_holding (put_pairs key dg room fun g' dg' sg' => ?_))
      have og' : g'.get? o = some oo := (sg'.2 o (Ne.symm ne)).trans og
      refine wpAny_bind (wpAny_dictEpoch og' doo ?_)
      rw [if_neg (by simp)]
      exact wpAny_pure ⟨g', j + 1, rfl, hl2, lt, by rw [merged_take_succ kvs more j (x', v) hkv]; exact dg', og', sg.trans sg'⟩
    · rintro b s' ⟨g, i, rfl, hl, hi, dg, og, sg⟩
      have hin : i = eo.size := Nat.le_antisymm hi (Nat.le_of_not_lt fun lt => by
        rw [show eo.size - i = (eo.size - (i + 1)) + 1 by omega, List.range'_succ] at hl
        exact nomatch hl)
      refine wpAny_pure (z g ?_ ⟨oo, eo, po, og, co, doo, ko, poo, no⟩ sg)
      rw [hin, ← lm, List.take_length] at dg
      exact dg
  refine wpAny_bind (wpAny_dictEntries god dd ?_)
  split
  · refine wpAny_bind (wpAny_dictEntries goo doo ?_)
    refine wpAny_bind ?_
    rw [← Array.forIn_toList]
    refine wpAny_forIn_list _ (fun left _ s' => s' = s ∧ ∀ e ∈ left, carriedByValue e.key = true) _ ?_ ?_ _ _ ⟨rfl, fun e he => ?_⟩
    · rintro ⟨hh, kk, vv⟩ left b s' ⟨rfl, al⟩
      have c0 := al _ List.mem_cons_self
      have cl : ∀ e ∈ left, carriedByValue e.key = true := fun e he => al e (List.mem_cons_of_mem _ he)
      cases kk with
      | ref a => cases c0
      | _ => exact wpAny_pure ⟨rfl, cl⟩
    · rintro b s' ⟨rfl, _⟩
      exact rest q
    · obtain ⟨x, kx, _⟩ := ko e (Array.mem_toList_iff.mp he)
      exact knd.byValue _ _ kx
  · exact rest q
end
def tDstar (ta tb : TE) : TE := fun σ H Q => ∀ D, H D = none → ta σ (upd H D (.dK [])) fun x H1 => ∃ (p : Addr) (kp : List (Key × V)), x = .ref p ∧ Rd H1 p (.dK kp) ∧ p ≠ D ∧ H1 D = some (.dK []) ∧ kp.length ≤ sizeLine ∧
  tb σ (upd H1 D (.dK (mergeK [] kp))) fun y H2 => ∃ (r : Addr) (kr kd : List (Key × V)), y = .ref r ∧ Rd H2 r (.dK kr) ∧ r ≠ D ∧ H2 D = some (.dK kd) ∧ kd.length + kr.length ≤ sizeLine ∧ Q (.ref D) (upd H2 D (.dK (mergeK kd kr)))
section
variable {X : Cx}
theorem merge_in {pins : List (Addr × Obj)} {σ : L2.St} {H : Hp} {s : Shared} {E : Value → Shared → Prop} {d o : Addr} {kd ko : List (Key × V)} {Q : Unit → Shared → Prop} (I : Inv X pins σ H s) (hd : H d = some (.dK kd)) (ho : Rd H o (.dK ko)) (ne : d ≠ o) (few : kd.length + ko.length ≤ sizeLine)
    (q : ∀ s', Inv X pins σ (upd H d (.dK (mergeK kd ko))) s' → Q () s') : wpAny (model X.prog X.w) X.A (mergeMapping d (.ref o) false) Q E s := by
  obtain ⟨zd, sd, xs, rel, dd⟩ := dk_of I.hok hd
  obtain ⟨zo, so, ys, relo, doo⟩ := dk_rd I.hok ho
  have l1 := rel.length
  have l2 := relo.length
  have lm := length_mergeK ko kd
  refine merge_map (knd := mixKind X.prog X.w) ne so dd doo (by omega) fun g dg _ same => ?_
  have there : ∃ q, g.get? d = some q := let ⟨q, _, _, hq, _⟩ := dg; ⟨q, hq⟩
  exact q _ (d_write (t' := s.toks) I (by rw [hd]; exact True.intro) same there (dk_new (by omega) sd (KV.merge relo rel) dg))
/-- {**a, **b} -/
theorem pe_dstar {a b : Expr} {ta tb : TE} {pos : Pos} (ha : PE X a ta) (hb : PE X b tb) : PE X (.Dict [none, none] [a, b] pos) (tDstar ta tb) := by
  refine ⟨fun pins s σ H Q I h => ?_⟩
  rw [arm_eval_Dict]
  refine wpAny_bind (wpAny_standAt ?_)
  show wpAny _ _ (dictDisplay [(none, (do let x ← eval a X.env; standAt pos; pure x)), (none, (do let x ← eval b X.env; standAt pos; pure x))]) _ _ s
  unfold dictDisplay
  simp only [List.forIn_cons, List.forIn_nil, List.isEmpty_nil, if_true]
  refine wpAny_bind (wpAny_bind (wpAny_bind (wpAny_pure ?_)))
  refine wpAny_bind (wpAny_alloc ?_)
  have nD : H s.heap.objs.size = none := I.hok.fresh (Nat.le_refl _)
  have I0 : Inv X pins σ (upd H s.heap.objs.size (.dK [])) { s with heap := s.heap.push { cls := .type "dict", data := .dict #[] } } :=
    I.laid (t' := s.toks) (fun b o e => Heap.get?_push_of_some _ e) (Nat.le_refl _) (dk_empty s.heap I.big)
  refine wpAny_bind (wpAny_holding (wpAny_bind (thn (ha.run pins _ σ _ _ I0 (h _ nD)) fun v s1 ⟨x, H1, I1, r1, q1⟩ => ?_)))
  obtain ⟨p, kp, rfl, hp, np, hD, fp, q1⟩ := q1
  cases r1
  refine wpAny_bind (wpAny_standAt (wpAny_pure ?_))
  refine wpAny_bind (wpAny_onRaise (wpAny_tryCatch (wpAny_onRaise (wpAny_holding (merge_in I1 hD hp np.symm (by rw [List.length_nil, Nat.zero_add]; exact fp) fun s2 I2 => ?_)))))
  refine wpAny_pure ?_
  refine wpAny_bind (wpAny_bind (wpAny_pure ?_))
  refine wpAny_bind (wpAny_pure ?_)
  refine wpAny_bind (wpAny_holding (wpAny_bind (thn (hb.run pins s2 σ _ _ I2 q1) fun v s3 ⟨y, H3, I3, r3, q3⟩ => ?_)))
  obtain ⟨r, kr, kd, rfl, hr, nr, hD3, fr, q3⟩ := q3
  cases r3
  refine wpAny_bind (wpAny_standAt (wpAny_pure ?_))
  refine wpAny_bind (wpAny_onRaise (wpAny_tryCatch (wpAny_onRaise (wpAny_holding (merge_in I3 hD3 hr nr.symm fr fun s4 I4 => ?_)))))
  refine wpAny_pure ?_
  refine wpAny_pure ?_
  refine wpAny_bind (wpAny_pure ?_)
  exact wpAny_pure ⟨.ref s.heap.objs.size, _, I4, rfl, q3⟩
end
end DsT


/-! d.update(o) of a dict -/
namespace UpD
open PySem PySem.Spec PyProof.Rows L2
def rUpd : V → List V → Hp → VK → Prop := fun x vs H Q => ∃ (d o : Addr) (kd ko : List (Key × V)), x = .ref d ∧ vs = [.ref o] ∧ H d = some (.dK kd) ∧ Rd H o (.dK ko) ∧ d ≠ o ∧ kd.length + ko.length ≤ sizeLine ∧ Q .non (upd H d (.dK (mergeK kd ko)))
theorem mtd_update {X : Cx} : MtR X "dict.update" rUpd := by
  intro pins s σ H x vs v us Q I rx rv h
  obtain ⟨d, o, kd, ko, rfl, rfl, hd, ho, ne, fit, q⟩ := h
  cases rx
  rw [Vals.ref1 rv]
  obtain ⟨zd, sd, xs, rel, dd⟩ := dk_of I.hok hd
  obtain ⟨zo, so, ys, relo, doo⟩ := dk_rd I.hok ho
  have l1 := rel.length
  have l2 := relo.length
  have lm := length_mergeK ko kd
  refine call_meetsIn PySem.F.slot_dict_update dd.typeIs PySem.F.entry_dict_update (PySem.F.args_dict_update_2 _ _) (meets_dict_update (mixKind X.prog X.w) d o ne so) ⟨xs, ys, dd, doo, by omega, fun h' dd' _ same => ?_⟩
  have there : ∃ q, h'.get? d = some q := let ⟨q, _, _, hq, _⟩ := dd'; ⟨q, hq⟩
  exact ⟨.non, _, d_write (t' := s.toks) I (by rw [hd]; exact True.intro) same there (dk_new (by omega) sd (KV.merge relo rel) dd'), rfl, q⟩
end UpD


/-! witness -/
namespace FT
open PySem L2 TL ClX LiI
/-- a witness: a list of three dicts of sizes, all new -/
structure WitAt (ts : List (Str × Str)) (n : Int) (R q0 q1 q2 : Addr) (H H' : Hp) : Prop where
  hR : H' R = some (.lst [.ref q0, .ref q1, .ref q2])
  h0 : H' q0 = some (.dK (tblI (ts.map Prod.fst) (wW ts n 0)))
  h1 : H' q1 = some (.dK (tblI (ts.map Prod.fst) (wW ts n 1)))
  h2 : H' q2 = some (.dK (tblI (ts.map Prod.fst) (wW ts n 2)))
  nR : H R = none
  n0 : H q0 = none
  n1 : H q1 = none
  n2 : H q2 = none
def spWit (K : PySem.W.Frag) (CF CU : Addr) : Sp := fun vs H Q E => ∃ (x : Addr) (ts : List (Str × Str)) (v : V), vs = [.ref x, v] ∧ FAt CF H x ts ∧ TreeOk ts ∧ IsDat K H v ∧
  if usersOk v (10 ^ 30) = true then (if memC ts v = true then ∀ H', Same H H' → Q .non H' else ∃ n, v = .int n ∧ ∀ R q0 q1 q2 H', Same H H' → WitAt ts n R q0 q1 q2 H H' → Q (.ref R) H') else Out H E (.e0 CU)
theorem pss_imp22 {X : Cx} {ss : List Stmt} {t t' : TS} (h : PSs X ss t) (m : ∀ D σ H, t' D σ H → t D σ H) : PSs X ss t' := ⟨fun pins s σ H D I q => h.run pins s σ H D I (m _ _ _ q)⟩
theorem merge_put {L : List Str} : ∀ {names : List Str} {row : List Int} {f : Str → Int}, (∀ a ∈ names, a ∈ L) → names.length = row.length → mergeK (tblI L f) ((names.map Sum.inr).zip (row.map V.int)) = tblI L (putW f names row)
  | [], [], f, _, _ => by
    show tblI L f = tblI L (putW f [] [])
    unfold putW
    rfl
  | a :: names, r :: row, f, h, e => by
    show mergeK (putK (tblI L f) (Sum.inr a) (.int r)) ((names.map Sum.inr).zip (row.map V.int)) = _
    rw [tblI_put (h a List.mem_cons_self), merge_put (fun b hb => h b (List.mem_cons_of_mem _ hb)) (Nat.succ.inj e)]
    rfl
theorem zip_kv {names : List Str} {row : List Int} : ((names.map Sum.inr : List Key).zip (row.map V.int)) = kvT (names.zip (row.map V.int)) := by
  unfold kvT
  induction names generalizing row with
  | nil => rfl
  | cons a l ih =>
    cases row with
    | nil => rfl
    | cons r row =>
      show (_ :: _) = _
      rw [List.map_cons, List.zip_cons_cons, List.map_cons, ← ih] <;> rfl
theorem zip_fst {α β : Type} : ∀ (l : List α) (m : List β), ((l.zip m).map Prod.fst).Sublist l
  | [], _ => List.Sublist.slnil
  | _ :: _, [] => List.nil_sublist _
  | a :: l, b :: m => (zip_fst l m).cons₂ a
theorem merge_zip {names : List Str} {row : List Int} (nd : names.Nodup) : mergeK [] ((names.map Sum.inr : List Key).zip (row.map V.int)) = (names.map Sum.inr).zip (row.map V.int) := by
  rw [zip_kv]
  exact merge_nd (nd.sublist (zip_fst _ _))
theorem merge_tblW {l : List Str} {g : Str → Int} (nd : l.Nodup) : mergeK [] (tblI l g) = tblI l g := merge_nd (by rw [tblI_fst]; exact nd)
theorem take_fresh {L : List Str} {a : Str} {i : Nat} (nd : L.Nodup) (ha : L[i]? = some a) : a ∉ L.take i := fun hm => by
  obtain ⟨j, hj⟩ := List.mem_iff_getElem?.mp hm
  have jl := (List.getElem?_eq_some_iff.mp hj).1
  rw [List.length_take] at jl
  rw [List.getElem?_take, if_pos (by omega)] at hj
  have := (List.getElem?_inj (by omega) nd).mp (hj.trans ha.symm)
  omega
theorem merge_allW {L : List Str} {f : Str → Int} {c : Int} : ∀ {M : List Str}, (∀ a ∈ M, a ∈ L) → mergeK (tblI L f) (tblI M fun _ => c) = tblI L fun x => if x ∈ M then c else f x := by
  intro M
  induction M generalizing f with
  | nil => intro _; exact (tblI_congr fun a _ => (if_neg (by simp)).symm)
  | cons a M ih =>
    intro h
    show mergeK (putK (tblI L f) (Sum.inr a) (.int c)) (tblI M fun _ => c) = _
    rw [tblI_put (h a List.mem_cons_self), ih fun b hb => h b (List.mem_cons_of_mem _ hb)]
    refine tblI_congr fun x _ => ?_
    by_cases e : x ∈ M
    · rw [if_pos e, if_pos (List.mem_cons_of_mem _ e)]
    · rw [if_neg e]
      by_cases e2 : x = a
      · rw [if_pos e2, if_pos (by rw [e2]; exact List.mem_cons_self)]
      · rw [if_neg e2, if_neg fun z => (List.mem_cons.mp z).elim e2 e]
theorem path_ndW {ts : List (Str × Str)} (o : TreeOk ts) {a : Str} (h : Pl ts a) : (pathOf ts a).Nodup := path_nd o h
theorem mem_no {ts : List (Str × Str)} {n : Int} (uo : usersOk (.int n) (10 ^ 30) = true) (em : memC ts (.int n) = false) : 2 ≤ n ∧ twoC ts = false := by
  have z : (decide (1 ≤ n) && decide (n ≤ 10 ^ 30)) = true := uo
  have h1 := of_decide_eq_true (Bool.and_eq_true_iff.mp z).1
  unfold memC at em
  obtain ⟨e1, e2⟩ := Bool.or_eq_false_iff.mp em
  have ne : n ≠ 1 := fun e => of_decide_eq_false e1 (by rw [e])
  exact ⟨by omega, e2⟩
abbrev NWi : List Str := ["forest", "users", "tops", "base", "names", "rows", "above", "name", "row"]
def nOf : V → Int
  | .int n => n
  | _ => 0
def RowAt (H : Hp) (p : Addr) (r : List Int) : Prop := H p = some (.tup (r.map V.int)) ∧ r.length = 3
def tWit (L : List Str) (ts : List (Str × Str)) (n : Int) : TS := fun D σ H => ∃ (u0 u1 u2 u6 u7 u8 : Option V) (B M W p0 p1 p2 : Addr), σ = [u0, u1, u2, some (.ref B), some (.ref M), some (.ref W), u6, u7, u8] ∧ L.Nodup ∧ L.length ≤ 12 ∧ (∀ a ∈ nmW ts, a ∈ L) ∧ (nmW ts).Nodup ∧ (nmW ts).length = 3 ∧
  H B = some (.dK (tblI L (bsW ts))) ∧ H M = some (.lst ((nmW ts).map V.str)) ∧ H W = some (.lst [.ref p0, .ref p1, .ref p2]) ∧ RowAt H p0 ((rwW ts n).getD 0 []) ∧ RowAt H p1 ((rwW ts n).getD 1 []) ∧ RowAt H p2 ((rwW ts n).getD 2 []) ∧
  ∀ (R : Addr) (ds : List Addr) (H' : Hp), Same H H' → H R = none → H' R = some (.lst (ds.map V.ref)) → Paired (fun d (i : Nat) => H d = none ∧ H' d = some (.dK (tblI L (wW ts n i)))) ds [0, 1, 2] → D.rt (.ref R) H'
theorem pair_with {α β : Type} {F : α → β → Prop} {G : α → Prop} : ∀ {l : List α} {m : List β}, Paired F l m → (∀ a ∈ l, G a) → Paired (fun a b => F a b ∧ G a) l m
  | _, _, .nil, _ => .nil
  | _, _, .cons h r, g => .cons ⟨h, g _ List.mem_cons_self⟩ (pair_with r fun a ha => g a (List.mem_cons_of_mem _ ha))
section
variable {P : Program} {w : World} {K : PySem.W.Frag} {mg : Str → Option Value} {base : Heap}
theorem scWi : FnScope NWi ["forest", "users"] (defScope s_witness) := ⟨rfl, rfl, rfl, by decide +kernel, rfl, by decide +kernel, by decide +kernel⟩
theorem ok_wit {f fM fC fP CF CU p1 g1 : Addr} {mc : Value} {fd fdM fdC fdP fd1 : FuncData} (F : Fun K "witness" "witness" s_witness f fd) (T : Nm mg) (O : FoC K CF) (Z : Fc K mg CF mc) (ME : Dn P w K mg base (L2.CX P w) 4 "is_memoryless" ["forest", "users"] (spMem K CF CU) fM fdM)
    (DC : Mt P w K mg base CX0 2 CF "children" ["self", "place"] (spKids CF) fC fdC) (DP : Dn P w K mg base CX0 1 "path_in" ["above", "place"] spPathIn fP fdP) (L1 : Pr1 P w K mg base CF "flags" (spFFlags CF) p1 g1 fd1) : FnOk P w K mg base (L2.CX P w) 5 f fd ["forest", "users"] (spWit K CF CU) := by
  obtain ⟨ur, cr⟩ := Z.root
  refine F.okX scWi (fun vs H Q E h => ?_) (fun cdv A outer s H vs Q E hr h => ?_)
  · obtain ⟨x, ts, v, rfl, _⟩ := h
    rfl
  · obtain ⟨x, ts, v, rfl, fa, o, dv, k⟩ := h
    have hu := hu_of hr
    have nd := scWi.nd
    have hr1 : Room 1 _ := hr.mono (by decide)
    have hr2 : Room 2 _ := hr.mono (by decide)
    have hr4 : Room 4 _ := hr.mono (by decide)
    have big : 2000 ≤ sizeLine := by decide
    have few := o.few
    have i3 : ∀ {X : Cx} {a b c : Expr} {ta tb tc : TE} {ps : Pos}, True := trivial
    refine ⟨_, pss_cons (ps_if (pt_val (pe_call ME.ok hr4 rfl ME.mgn ME.kp ME.bn .nil (passes_call (takes_of rfl rfl rfl rfl) (fun _ _ _ _ h => h)) (pa_cons (pv 0) (pa_cons (pv 1) pa_nil)))) (pss_one (ps_ret pe_non)) pss_nil)
      (pss_cons (ps_set (i := 2) nd rfl (.inl rfl) (pe_meth (pv 0) O.cl DC.mt DC.fn hr2 DC.bn .nil pass0 (pa_cons (pe_cval (pe_glob (v := .ref CF) (by rfl) Z.gF rfl)) pa_nil)))
      (pss_cons (ps_set (i := 3) nd rfl (.inr rfl) (pe_dc (own := [("name", 7)]) (g := gName 7) (tt := tYes) (tk := tVar 7) rfl nd (pi_list (pe_prop (pv 0) O.cl L1.pr L1.fn hr2 L1.bn .nil pass0 (by rfl))) (blkOk_by (N := NWi) (sc := defScope s_witness) (by decide +kernel)) (fun _ _ _ _ _ => pg_name (i := 7) nd rfl (Or.inl rfl)) (fun _ _ _ _ _ => pts_nil) (fun _ _ _ _ _ => pv 7) (fun _ _ _ _ _ => pe_int)))
      (pss_cons (ps_if (pt_cmpR op_gt (pe_callB call_len_seq (by rfl) T.len PySem.boot_len (pa_cons (pv 2) pa_nil)) pe_int (nomark _))
        (pss_one (ps_asg (pe_tup (pa_cons (pe_slice sl_list (pv 2) po_none (po_some pe_int)) (pa_cons (pe_lst (pa_cons (pe_tup (pa_cons pe_int (pa_cons (pe_op op_sub (pv 1) pe_int) (pa_cons pe_int pa_nil)))) (pa_cons (pe_tup (pa_cons pe_int (pa_cons (pe_op op_sub (pv 1) pe_int) (pa_cons pe_int pa_nil)))) (pa_cons (pe_tup (pa_cons pe_int (pa_cons (pe_op op_sub (pv 1) pe_int) (pa_cons pe_int pa_nil)))) pa_nil)))) pa_nil)))
          (pg_tup rfl (pgs_cons (pg_name (i := 4) nd rfl (.inr rfl)) (pgs_cons (pg_name (i := 5) nd rfl (.inl rfl)) pgs_nil)))))
        (pss_cons (ps_set (i := 6) nd rfl (.inl rfl) (pe_ix ix_list (pe_lc (own := [("name", 7)]) (g := gName 7) (tt := tTest (tOp (rI0 fun i j => .bl (decide (i > j))) (tCB (fun xs H Q => ∃ p ys, xs = [.ref p] ∧ (SqL K H p ys ∨ SqT K H p ys) ∧ Q (.int ys.length) H) (tCons (tMeth CF "children" (spKids CF) [] E0 (tVar 0) (tCons (tVar 7) tNil)) tNil)) (tC (.int 1)))) (te := tVar 7) rfl nd (pi_list (pe_prop (pv 0) O.cl L1.pr L1.fn hr2 L1.bn .nil pass0 (by rfl))) (blkOk_by (N := NWi) (sc := defScope s_witness) (by decide +kernel)) (fun _ _ _ _ _ => pg_name (i := 7) nd rfl (Or.inl rfl))
            (fun _ _ _ _ _ => pts_one (pt_cmpR op_gt (pe_callB call_len_seq (by rfl) T.len PySem.boot_len (pa_cons (pe_meth (pv 0) O.cl DC.mt DC.fn hr2 DC.bn .nil pass0 (pa_cons (pv 7) pa_nil)) pa_nil)) pe_int (nomark _))) (fun _ _ _ _ _ => pv 7)) pe_int (fun _ _ => rfl)))
        (pss_cons (ps_expr (pe_bm PySem.F.plainAttrs_dict PySem.F.slot_dict_update PySem.F.type_dict_update UpD.mtd_update (pv 3) (pa_cons (pe_dc (own := [("name", 7)]) (g := gName 7) (tt := tYes) (tk := tVar 7) rfl nd (pi_tup (pe_call DP.ok hr1 rfl DP.mgn DP.kp DP.bn .nil pass0 (pa_cons (pe_fld (pv 0) rfl) (pa_cons (pv 6) pa_nil)))) (blkOk_by (N := NWi) (sc := defScope s_witness) (by decide +kernel)) (fun _ _ _ _ _ => pg_name (i := 7) nd rfl (Or.inl rfl)) (fun _ _ _ _ _ => pts_nil) (fun _ _ _ _ _ => pv 7) (fun _ _ _ _ _ => pe_int)) pa_nil)))
        (pss_one (ps_asg (pe_tup (pa_cons (pe_op op_cat (pe_lst (pa_cons (pv 6) pa_nil)) (pe_slice sl_list (pe_meth (pv 0) O.cl DC.mt DC.fn hr2 DC.bn .nil pass0 (pa_cons (pv 6) pa_nil)) po_none (po_some pe_int))) (pa_cons (pe_lst (pa_cons (pe_tup (pa_cons pe_int (pa_cons pe_int (pa_cons pe_int pa_nil)))) (pa_cons (pe_tup (pa_cons pe_int (pa_cons pe_int (pa_cons pe_int pa_nil)))) (pa_cons (pe_tup (pa_cons pe_int (pa_cons pe_int (pa_cons pe_int pa_nil)))) pa_nil)))) pa_nil)))
          (pg_tup rfl (pgs_cons (pg_name (i := 4) nd rfl (.inr rfl)) (pgs_cons (pg_name (i := 5) nd rfl (.inl rfl)) pgs_nil))))))))
      (pss_imp22 (t' := tWit (ts.map Prod.fst) ts (nOf v)) (pss_one (ps_ret (pe_lc (own := [("row", 8)]) (g := gName 8) (tt := tYes) (te := DsT.tDstar (tVar 3) (ZpM.tDictZip K (tCons (tVar 4) (tCons (tVar 8) tNil)))) rfl nd (pi_list (pv 5)) (blkOk_by (N := NWi) (sc := defScope s_witness) (by decide +kernel)) (fun _ _ _ _ _ => pg_name (i := 8) nd rfl (Or.inl rfl)) (fun _ _ _ _ _ => pts_nil)
          (fun _ _ _ _ _ => DsT.pe_dstar (pv 3) (ZpM.pe_dictZip rfl (pa_cons (pv 4) (pa_cons (pv 8) pa_nil)) (by rfl) T.dct (by rfl) T.zip))))) ?_)))), ?_⟩
    · intro D0 σ H1 q
      generalize nOf v = n at q
      generalize ts.map Prod.fst = L at q
      obtain ⟨u0, u1, u2, u6, u7, u8, B, M, W, p0, p1, p2, eσ, ndL, f12, sub, ndn, l3, hB, hM, hW, r0, r1, r2, kk⟩ := q
      subst eσ
      refine ⟨_, rfl, W, rfl, ⟨_, SqL.of hW⟩, fun R nR => ?_⟩
      refine lc_it walk_list (fun j H' => Same H1 H' ∧ ∃ ds : List Addr, H' R = some (.lst (ds.map V.ref)) ∧ Paired (fun d (i : Nat) => H1 d = none ∧ H' d = some (.dK (tblI L (wW ts n i)))) ds (([0, 1, 2] : List Nat).take j) ∧ ∀ d ∈ ds, d ≠ R) ⟨same_new nR, [], upd_same, .nil, fun d h => (by cases h)⟩ (fun j H' _ z => SqL.of (z.1 _ _ hW)) ?_ ?_
      · intro j y Ha Hb hj ⟨q1, ds, q2, pr, hn⟩ ⟨eb, ex⟩
        subst eb
        have j3 : j < 3 := hj
        obtain ⟨pj, rfl, rj⟩ : ∃ pj, y = .ref pj ∧ RowAt H1 pj ((rwW ts n).getD j []) := by
          match j, j3, ex with
          | 0, _, ex => exact ⟨p0, (Option.some.inj ex).symm, r0⟩
          | 1, _, ex => exact ⟨p1, (Option.some.inj ex).symm, r1⟩
          | 2, _, ex => exact ⟨p2, (Option.some.inj ex).symm, r2⟩
        obtain ⟨hpj, lj⟩ := rj
        refine ⟨rfl, ?_⟩
        refine fun D nD => ?_
        have sD := same_new (o := .dK ([] : List (Key × V))) nD
        have BD : B ≠ D := ne_of_none (q1 _ _ hB) nD
        refine ⟨_, rfl, B, _, rfl, .inl (sD _ _ (q1 _ _ hB)), BD, upd_same, by rw [tblI_len]; omega, ?_⟩
        rw [merge_tblW ndL]
        have s2 : Same Hb (upd (upd Hb D (.dK [])) D (.dK (tblI L (bsW ts)))) := sD.put nD
        obtain ⟨H2, e2⟩ : ∃ X, X = upd (upd Hb D (.dK [])) D (.dK (tblI L (bsW ts))) := ⟨_, rfl⟩
        have hD2 : H2 D = some (.dK (tblI L (bsW ts))) := by rw [e2, upd_same]
        rw [← e2] at s2 ⊢
        clear e2
        refine ⟨_, rfl, _, rfl, M, pj, (nmW ts).map Sum.inr, ((rwW ts n).getD j []).map V.int, rfl, ?_, SqT.of (s2 _ _ (q1 _ _ hpj)), by rw [List.length_map, List.length_map, l3, lj], by rw [List.length_map, l3]; decide, fun Z nZ => ?_⟩
        · rw [List.map_map]
          exact SqL.of (s2 _ _ (q1 _ _ hM))
        have DZ : D ≠ Z := ne_of_none hD2 nZ
        have s3 := same_new (o := .dK (mergeK [] (((nmW ts).map Sum.inr : List Key).zip (((rwW ts n).getD j []).map V.int)))) nZ
        have lz : (((nmW ts).map Sum.inr : List Key).zip (((rwW ts n).getD j []).map V.int)).length ≤ 3 := by
          rw [List.length_zip, List.length_map, l3]
          exact Nat.min_le_left _ _
        refine ⟨Z, _, _, rfl, .inl upd_same, DZ.symm, s3 _ _ hD2, ?_, ?_⟩
        · rw [merge_zip ndn, tblI_len]
          omega
        rw [merge_zip ndn] at s3 ⊢
        rw [merge_put sub (by rw [l3, lj])]
        obtain ⟨H3, e3⟩ : ∃ X, X = upd H2 Z (.dK (((nmW ts).map Sum.inr : List Key).zip (((rwW ts n).getD j []).map V.int))) := ⟨_, rfl⟩
        rw [← e3] at s3 ⊢
        have s03 := s2.trans s3
        have sF : Same Hb (upd H3 D (.dK (tblI L (putW (bsW ts) (nmW ts) ((rwW ts n).getD j []))))) := s03.put nD
        have RD : R ≠ D := ne_of_none q2 nD
        refine ⟨ds.map V.ref, sF _ _ q2, ?_, (q1.trans sF).put nR, ds ++ [D], by rw [upd_same, List.map_append] <;> rfl, ?_, fun d hd => ?_⟩
        · have ll := pair_lenZ pr
          rw [List.length_take] at ll
          rw [List.length_map, ll]
          have : ([0, 1, 2] : List Nat).length = 3 := rfl
          omega
        · have ej : (([0, 1, 2] : List Nat).take (j + 1)) = ([0, 1, 2] : List Nat).take j ++ [j] := take_more (by
            match j, j3 with
            | 0, _ => rfl
            | 1, _ => rfl
            | 2, _ => rfl)
          rw [ej]
          refine pair_appW (pair_impW (fun d i hd => ?_) (pair_with pr hn)) (.cons ⟨q1.free nD, ?_⟩ .nil)
          · exact ⟨hd.1.1, by rw [upd_ne hd.2]; exact sF _ _ hd.1.2⟩
          · rw [upd_ne RD.symm, upd_same] <;> rfl
        · rcases List.mem_append.mp hd with h | h
          · exact hn d h
          · rw [List.mem_singleton.mp h]
            exact RD.symm
      · intro H3 ⟨s3, ds, hR, pr, _⟩
        exact kk R ds H3 s3 nR hR pr
    · refine ⟨_, rfl, _, rfl, x, ts, v, rfl, fa, o, dv, ?_⟩
      by_cases uo : usersOk v (10 ^ 30) = true
      rotate_left
      · rw [if_neg uo] at k ⊢
        exact k
      rw [if_pos uo] at k ⊢
      intro H1 s1
      refine ⟨_, rfl, ?_⟩
      cases em : memC ts v with
      | true =>
        rw [if_pos em] at k
        exact iteT (k H1 s1)
      | false =>
        rw [if_neg (by rw [em]; decide)] at k
        obtain ⟨n, rfl, k⟩ := k
        refine iteF ?_
        obtain ⟨n2, nt⟩ := mem_no uo em
        obtain ⟨dx, dq, hx, hd⟩ := id fa
        have fin : ∀ {u0 u1 u2 u6 u7 u8 : Option V} {B M W p0 p1 p2 : Addr} {Hz : Hp} {D0 : Ends}, (∀ R H', D0.rt (.ref R) H' = Q (.ref R) H') → Same H Hz → (∀ a ∈ nmW ts, a ∈ ts.map Prod.fst) → (nmW ts).Nodup → (nmW ts).length = 3 → Hz B = some (.dK (tblI (ts.map Prod.fst) (bsW ts))) → Hz M = some (.lst ((nmW ts).map V.str)) → Hz W = some (.lst [.ref p0, .ref p1, .ref p2]) → RowAt Hz p0 ((rwW ts n).getD 0 []) → RowAt Hz p1 ((rwW ts n).getD 1 []) → RowAt Hz p2 ((rwW ts n).getD 2 []) →
            tWit (ts.map Prod.fst) ts (nOf (.int n)) D0 [u0, u1, u2, some (.ref B), some (.ref M), some (.ref W), u6, u7, u8] Hz := fun eD sz h1 h2 h3 h4 h5 h6 h7 h8 h9 =>
          ⟨_, _, _, _, _, _, _, _, _, _, _, _, rfl, o.nd, by rw [List.length_map]; exact few, h1, h2, h3, h4, h5, h6, h7, h8, h9, fun R ds H' s' nR hR pr => by
            rw [eD]
            match ds, pr with
            | [q0, q1, q2], .cons a0 (.cons a1 (.cons a2 .nil)) => exact k R q0 q1 q2 H' (sz.trans s') ⟨hR, a0.2, a1.2, a2.2, sz.free nR, sz.free a0.1, sz.free a1.1, sz.free a2.1⟩⟩
        -- the top flags
        refine ⟨_, rfl, x, dx, _, rfl, s1 _ _ hx, rfl, CF, mc, _, ur, rfl, Z.rd, cr, x, ts, "", rfl, fa.mono s1, o, .inl rfl, fun pt H2 s2 npt hpt => ?_⟩
        have s02 := s1.trans s2
        -- nobody has a flag
        refine ⟨_, rfl, x, dx, _, rfl, s02 _ _ hx, x, ts, rfl, fa.mono s02, fun pf nf => ⟨pf, rfl, ⟨_, SqL.of upd_same⟩, fun B nB => ?_⟩⟩
        obtain ⟨H3, e3⟩ : ∃ X, X = upd H2 pf (.lst ((ts.map Prod.fst).map V.str)) := ⟨_, rfl⟩
        have s3 : Same H2 H3 := e3 ▸ same_new nf
        have a3 : H3 pf = some (.lst ((ts.map Prod.fst).map V.str)) := by rw [e3]; exact upd_same
        rw [← e3] at nB ⊢
        refine dc_it walk_list (fun i H' => Same H3 H' ∧ H' B = some (.dK (tblI ((ts.map Prod.fst).take i) fun _ => 0))) ⟨same_new nB, upd_same⟩ (fun i H' _ z => SqL.of (z.1 _ _ a3)) ?_ ?_
        · intro i y Ha Hb hi ⟨q1, q2⟩ ⟨eb, ex⟩
          subst eb
          obtain ⟨b, hb, rfl⟩ := map_of ex
          refine ⟨rfl, ?_⟩
          refine ⟨_, rfl, _, Sum.inr b, rfl, q2, ?_, q1.put nB, ?_⟩
          · rw [tblI_len, List.length_take, List.length_map]
            omega
          · rw [upd_same, tblI_snoc (take_fresh o.nd hb) rfl, take_more hb]
        intro H4 ⟨q1, q2⟩
        rw [List.length_map, List.take_length] at q2
        have s04 := (s02.trans s3).trans q1
        have hpt4 := q1 _ _ (s3 _ _ hpt)
        refine ⟨_, rfl, pt, _, rfl, .inl (SqL.of hpt4), _, _, rfl, rfl, _, rfl, ?_⟩
        rw [List.length_map]
        refine ite2 (fun yes => ?_) (fun no => ?_)
        · have hb : bigW ts = true := by
            unfold bigW
            exact decide_eq_true (by have := of_decide_eq_true yes; omega)
          obtain ⟨a, b, c, en, ha, hb', hc, ab, ac, bc⟩ := nm_big o hb
          have fl : ∀ {z : Str}, z ∈ kids ts "" → z ∈ ts.map Prod.fst := fun h => par_flag ((kid_par o).mp h)
          have er : rwW ts n = [[1, n - 1, 0], [0, n - 1, 1], [1, n - 2, 1]] := by unfold rwW; rw [if_pos hb]
          have ec : cutV ((kids ts "").map V.str) none (some 3) = (nmW ts).map V.str := by
            rw [show (3 : Int) = ((3 : Nat) : Int) from rfl, cut_take (by rw [List.length_map]; have := of_decide_eq_true yes; omega), ← List.map_take]
            unfold nmW
            rw [if_pos hb]
          refine ⟨_, rfl, _, rfl, pt, _, rfl, SqL.of hpt4, fun M nM => ?_⟩
          rw [ec]
          refine ⟨_, rfl, _, _, rfl, rfl, by show 3 ≤ sizeLine; omega, fun t1 n1 => ⟨_, rfl, _, _, rfl, rfl, by show 3 ≤ sizeLine; omega, fun t2 n2' => ⟨_, rfl, _, _, rfl, rfl, by show 3 ≤ sizeLine; omega, fun t3 n3 => ⟨by show 3 ≤ sizeLine; omega, fun W nW => ⟨by show 2 ≤ sizeLine; omega, fun tp ntp => ⟨tp, _, rfl, .inl (.inl upd_same), rfl, _, _, rfl, _, _, rfl, rfl, ?_⟩⟩⟩⟩⟩⟩
          have c1 := same_new (o := .lst ((nmW ts).map V.str)) nM
          have c2 := same_new (o := .tup [.int 1, .int (n - 1), .int 0]) n1
          have c3 := same_new (o := .tup [.int 0, .int (n - 1), .int 1]) n2'
          have c4 := same_new (o := .tup [.int 1, .int (n - 2), .int 1]) n3
          have c5 := same_new (o := .lst [.ref t1, .ref t2, .ref t3]) nW
          have c6 := same_new (o := .tup [.ref M, .ref W]) ntp
          refine fin (p0 := t1) (p1 := t2) (p2 := t3) (fun _ _ => rfl) (s04.trans (c1.trans (c2.trans (c3.trans (c4.trans (c5.trans c6)))))) ?_ ?_ ?_ ?_ ?_ ?_ ?_ ?_ ?_
          · rw [en]
            intro z hz
            simp only [List.mem_cons, List.not_mem_nil, or_false] at hz
            rcases hz with rfl | rfl | rfl
            · exact fl ha
            · exact fl hb'
            · exact fl hc
          · rw [en]
            simp [ab, ac, bc]
          · rw [en] <;> rfl
          · rw [show bsW ts = fun _ => 0 from funext fun x => by unfold bsW; rw [if_pos hb]]
            exact c6 _ _ (c5 _ _ (c4 _ _ (c3 _ _ (c2 _ _ (c1 _ _ q2)))))
          · exact c6 _ _ (c5 _ _ (c4 _ _ (c3 _ _ (c2 _ _ upd_same))))
          · exact c6 _ _ upd_same
          · rw [er]
            exact ⟨c6 _ _ (c5 _ _ (c4 _ _ (c3 _ _ upd_same))), rfl⟩
          · rw [er]
            exact ⟨c6 _ _ (c5 _ _ (c4 _ _ upd_same)), rfl⟩
          · rw [er]
            exact ⟨c6 _ _ (c5 _ _ upd_same), rfl⟩
        · have hb : bigW ts = false := by
            unfold bigW
            exact decide_eq_false fun z => no (decide_eq_true (by omega))
          obtain ⟨a, m, ea, eabv, ma, two⟩ := abv_some hb nt
          obtain ⟨a', b, c, ea', en, _, hb', hc, ab, ac, bc⟩ := nm_fork o hb nt
          have eaa : a' = a := by rw [← ea', eabv]
          subst eaa
          have er : rwW ts n = [[1, 1, 0], [1, 0, 1], [2, 1, 1]] := by unfold rwW; rw [if_neg (by rw [hb]; decide)]
          have fl : ∀ {z : Str}, z ∈ kids ts a' → z ∈ ts.map Prod.fst := fun h => par_flag ((kid_par o).mp h)
          -- the first flag with two children
          refine ⟨_, rfl, x, dx, _, rfl, s04 _ _ hx, x, ts, rfl, fa.mono s04, fun pg ng => ⟨pg, rfl, ⟨_, SqL.of upd_same⟩, fun D nD => ?_⟩⟩
          obtain ⟨H5, e5⟩ : ∃ X, X = upd H4 pg (.lst ((ts.map Prod.fst).map V.str)) := ⟨_, rfl⟩
          have s5 : Same H4 H5 := e5 ▸ same_new ng
          have a5 : H5 pg = some (.lst ((ts.map Prod.fst).map V.str)) := by rw [e5]; exact upd_same
          rw [← e5] at nD ⊢
          have s05 := s04.trans s5
          refine lc_it walk_list (fun i H' => Same H5 H' ∧ H' D = some (.lst ((((ts.map Prod.fst).take i).filter fun x => decide (1 < (kids ts x).length)).map V.str))) ⟨same_new nD, upd_same⟩ (fun i H' _ z => SqL.of (z.1 _ _ a5)) ?_ ?_
          · intro i y Ha Hb hi ⟨z1, z2⟩ ⟨eb, ex⟩
            subst eb
            obtain ⟨f, hf, rfl⟩ := map_of ex
            have s0 := s05.trans z1
            have lf : ((((ts.map Prod.fst).take i).filter fun x => decide (1 < (kids ts x).length))).length ≤ 12 := by
              have := List.length_filter_le (fun x => decide (1 < (kids ts x).length)) ((ts.map Prod.fst).take i)
              rw [List.length_take, List.length_map] at this
              omega
            refine ⟨rfl, ?_⟩
            refine ⟨_, rfl, x, dx, _, rfl, s0 _ _ hx, rfl, _, rfl, x, ts, f, rfl, fa.mono s0, o, .inr (List.mem_of_getElem? hf), fun pu Hu su npu hpu => ⟨pu, _, rfl, .inl (SqL.of hpu), _, _, rfl, rfl, _, rfl, ?_⟩⟩
            rw [List.length_map, take_more hf, List.filter_append]
            have z3 := z1.trans su
            refine ite2 (fun yes => ?_) (fun no => ?_)
            · refine ⟨_, rfl, _, su _ _ z2, by rw [List.length_map]; omega, z3.put nD, ?_⟩
              rw [upd_same, List.filter_cons, if_pos (decide_eq_true (by have := of_decide_eq_true yes; omega)), List.map_append] <;> rfl
            · refine ⟨z3, ?_⟩
              rw [List.filter_cons, if_neg (fun z => no (decide_eq_true (by have := of_decide_eq_true z; omega))), List.filter_nil, List.append_nil]
              exact su _ _ z2
          intro H6 ⟨z1, z2⟩
          rw [List.length_map, List.take_length] at z2
          have eabs : ((ts.map Prod.fst).filter fun x => decide (1 < (kids ts x).length)) = a' :: m := ea
          rw [eabs] at z2
          have s06 := s05.trans z1
          refine ⟨D, _, 0, .str a', rfl, rfl, SqL.of z2, atI_nat (j := 0) rfl, ?_⟩
          have hB6 := z1 _ _ (s5 _ _ q2)
          -- two for its path
          refine ⟨_, rfl, .inr (.inr (.inl ⟨rfl, .inl ⟨_, hB6⟩⟩)), _, rfl, x, CF, dx, _, .ref dq, rfl, s06 _ _ hx, O.cl, O.nA, rfl, _, rfl, dq, ts, a', rfl, .inl (s06 _ _ hd), o, .inr ma, fun pp H7 s7 npp hpp => ⟨pp, rfl, ⟨_, .inl (.inl hpp)⟩, fun G nG => ?_⟩⟩
          have ndp := path_ndW o (.inr ma)
          refine dc_it walk_tup (fun i H' => Same H7 H' ∧ H' G = some (.dK (tblI ((pathOf ts a').take i) fun _ => 2))) ⟨same_new nG, upd_same⟩ (fun i H' _ z => .inl (.inl (z.1 _ _ hpp))) ?_ ?_
          · intro i y Ha Hb hi ⟨y1, y2⟩ ⟨eb, ex⟩
            subst eb
            obtain ⟨f, hf, rfl⟩ := map_of ex
            have lp := path_len ts a'
            refine ⟨rfl, ?_⟩
            refine ⟨_, rfl, _, Sum.inr f, rfl, y2, ?_, y1.put nG, ?_⟩
            · rw [tblI_len, List.length_take]
              omega
            · rw [upd_same, tblI_snoc (take_fresh ndp hf) rfl, take_more hf]
          intro H8 ⟨y1, y2⟩
          rw [List.length_map, List.take_length] at y2
          have s68 := s7.trans y1
          have s08 := s06.trans s68
          have hB8 := s68 _ _ hB6
          have BG : B ≠ G := ne_of_none (s7 _ _ hB6) nG
          have lp := path_len ts a'
          refine ⟨B, G, _, _, rfl, rfl, hB8, .inl y2, BG, by rw [tblI_len, tblI_len, List.length_map]; omega, ?_⟩
          rw [merge_allW (path_all o (.inr ma))]
          have ebs : (fun x => if x ∈ pathOf ts a' then (2 : Int) else 0) = bsW ts := funext fun x => by unfold bsW; rw [ea', hb] <;> rfl
          rw [ebs]
          have nB0 : H B = none := (s02.trans s3).free nB
          have s09 : Same H (upd H8 B (.dK (tblI (ts.map Prod.fst) (bsW ts)))) := s08.put nB0
          obtain ⟨H9, e9⟩ : ∃ X, X = upd H8 B (.dK (tblI (ts.map Prod.fst) (bsW ts))) := ⟨_, rfl⟩
          have hB9 : H9 B = some (.dK (tblI (ts.map Prod.fst) (bsW ts))) := by rw [e9, upd_same]
          rw [← e9] at s09 ⊢
          clear e9
          -- the names
          refine ⟨_, rfl, by show 1 ≤ sizeLine; omega, fun t0 n0 => ?_⟩
          have c0 := same_new (o := .lst [.str a']) n0
          have s0c := s09.trans c0
          refine ⟨_, rfl, x, dx, _, rfl, s0c _ _ hx, rfl, _, rfl, x, ts, a', rfl, fa.mono s0c, o, .inr ma, fun pk HA sA npk hpk => ?_⟩
          have ec : cutV ((kids ts a').map V.str) none (some 2) = ((kids ts a').take 2).map V.str := by
            rw [show (2 : Int) = ((2 : Nat) : Int) from rfl, cut_take (by rw [List.length_map]; omega), ← List.map_take]
          refine ⟨_, rfl, pk, _, rfl, SqL.of hpk, fun pc npc => ?_⟩
          rw [ec]
          have cB := same_new (o := .lst (((kids ts a').take 2).map V.str)) npc
          refine ⟨t0, pc, _, _, rfl, rfl, cB _ _ (sA _ _ upd_same), upd_same, by rw [List.length_map, List.length_take]; show 1 + _ ≤ _; omega, fun M nM => ?_⟩
          have enm : ([V.str a'] ++ ((kids ts a').take 2).map V.str) = (nmW ts).map V.str := by
            unfold nmW
            rw [if_neg (by rw [hb]; decide), ea'] <;> rfl
          rw [enm]
          refine ⟨by show 3 ≤ sizeLine; omega, fun t1 n1 => ⟨by show 3 ≤ sizeLine; omega, fun t2 n2' => ⟨by show 3 ≤ sizeLine; omega, fun t3 n3 => ⟨by show 3 ≤ sizeLine; omega, fun W nW => ⟨by show 2 ≤ sizeLine; omega, fun tp ntp => ⟨tp, _, rfl, .inl (.inl upd_same), rfl, _, _, rfl, _, _, rfl, rfl, ?_⟩⟩⟩⟩⟩⟩
          have c1 := same_new (o := .lst ((nmW ts).map V.str)) nM
          have c2 := same_new (o := .tup [.int 1, .int 1, .int 0]) n1
          have c3 := same_new (o := .tup [.int 1, .int 0, .int 1]) n2'
          have c4 := same_new (o := .tup [.int 2, .int 1, .int 1]) n3
          have c5 := same_new (o := .lst [.ref t1, .ref t2, .ref t3]) nW
          have c6 := same_new (o := .tup [.ref M, .ref W]) ntp
          refine fin (p0 := t1) (p1 := t2) (p2 := t3) (fun _ _ => rfl) (s0c.trans (sA.trans (cB.trans (c1.trans (c2.trans (c3.trans (c4.trans (c5.trans c6)))))))) ?_ ?_ ?_ ?_ ?_ ?_ ?_ ?_ ?_
          · rw [en]
            intro z hz
            simp only [List.mem_cons, List.not_mem_nil, or_false] at hz
            rcases hz with rfl | rfl | rfl
            · exact ma
            · exact fl hb'
            · exact fl hc
          · rw [en]
            simp [ab, ac, bc]
          · rw [en] <;> rfl
          · exact c6 _ _ (c5 _ _ (c4 _ _ (c3 _ _ (c2 _ _ (c1 _ _ (cB _ _ (sA _ _ (c0 _ _ hB9))))))))
          · exact c6 _ _ (c5 _ _ (c4 _ _ (c3 _ _ (c2 _ _ upd_same))))
          · exact c6 _ _ upd_same
          · rw [er]
            exact ⟨c6 _ _ (c5 _ _ (c4 _ _ (c3 _ _ upd_same))), rfl⟩
          · rw [er]
            exact ⟨c6 _ _ (c5 _ _ (c4 _ _ upd_same)), rfl⟩
          · rw [er]
            exact ⟨c6 _ _ (c5 _ _ upd_same), rfl⟩
end
end FT


/-! lists of texts as data, for == and !=. -/
namespace FT
open PySem L2 TL
theorem dps_strs {K : PySem.W.Frag} {H : Hp} : ∀ ts : List Str, DpAll K H (ts.map V.str) (ts.map PyData.str)
  | [] => .nil
  | t :: ts => .cons (.str t) (dps_strs ts)
theorem strs_lay : ∀ {ts : List Str}, (∀ t ∈ ts, PyData.strOk t = true) → PyData.canLayAll0 (ts.map PyData.str) = true ∧ PyData.depthAll (ts.map PyData.str) ≤ 0
  | [], _ => ⟨rfl, Nat.le_refl _⟩
  | t :: ts, h => by
    obtain ⟨h1, h2⟩ := strs_lay (ts := ts) fun b hb => h b (List.mem_cons_of_mem _ hb)
    constructor
    · show (PyData.strOk t && PyData.canLayAll0 (ts.map PyData.str)) = true
      rw [h t (List.mem_cons_self ..), h1] <;> rfl
    · show max 0 (PyData.depthAll (ts.map PyData.str)) ≤ 0
      omega
theorem strs_shaped {ts : List Str} (h : ∀ t ∈ ts, PyData.strOk t = true) : SeqAt.shaped (.list (ts.map PyData.str)) = true := by
  obtain ⟨h1, h2⟩ := strs_lay h
  unfold SeqAt.shaped
  have c : (PyData.list (ts.map PyData.str)).canLay0 = true := h1
  rw [c]
  have d : (PyData.list (ts.map PyData.str)).depth ≤ 64 := by
    show PyData.depthAll (ts.map PyData.str) + 1 ≤ 64
    omega
  rw [decide_eq_true d] <;> rfl
end FT


/-! Own: repr of a dict whose values are data without dicts. -/
namespace L2
open PySem PySem.Spec PyProof.Rows
def kD : Key → PyData
  | .inl i => .int i
  | .inr x => .str x
/-- an entry: the key, the value, the value as data -/
abbrev EntD := Key × V × PyData
abbrev dcD (es : List EntD) : PyData := .dict (es.map fun e => (kD e.1, e.2.2))
def rReprD (K : PySem.W.Frag) : List V → Hp → VK → Prop := fun xs H Q => ∃ (a : Addr) (es : List EntD), xs = [.ref a] ∧ H a = some (.dK (es.map fun e => (e.1, e.2.1))) ∧ (∀ e ∈ es, Dp K H e.2.1 e.2.2 ∧ e.2.2.hasDict = false) ∧
  (dcD es).showable = true ∧ (dcD es).depth ≤ 60 ∧ (dcD es).shown.length ≤ sizeLine ∧ Q (.str (dcD es).shown) H
section
variable {X : Cx} {pins : List (Addr × Obj)} {σ : St} {H : Hp} {s : Shared}
end
end L2


/-! the text of a dict of sizes -/
namespace FT
open PySem L2 TL ClX LiI
def szEn (l : List Str) (s : Str → Int) : List EntD := l.map fun p => (Sum.inr p, V.int (s p), .int (s p))
def szKv (l : List Str) (s : Str → Int) : List (PyData × PyData) := l.map fun p => (PyData.str p, .int (s p))
theorem szEn_D (l : List Str) (s : Str → Int) : dcD (szEn l s) = .dict (szKv l s) := by
  unfold dcD szEn szKv
  rw [List.map_map] <;> rfl
theorem szEn_kv (l : List Str) (s : Str → Int) : ((szEn l s).map fun e => (e.1, e.2.1)) = tblI l s := by
  unfold szEn tblI kvT
  rw [List.map_map, List.map_map] <;> rfl
theorem int_shortI : ∀ k : Fin 61, (PyData.shown (.int ((k.1 : Nat) : Int))).length ≤ 8 := by decide +kernel
theorem int_showI : ∀ k : Fin 61, PyData.showable (.int ((k.1 : Nat) : Int)) = true := by decide +kernel
theorem int_smallI {u : Int} (h0 : 0 ≤ u) (h1 : u ≤ 60) : (PyData.shown (.int u)).length ≤ 8 ∧ PyData.showable (.int u) = true := by
  have h := int_shortI ⟨u.toNat, by omega⟩
  have g := int_showI ⟨u.toNat, by omega⟩
  rw [show ((u.toNat : Nat) : Int) = u by omega] at h g
  exact ⟨h, g⟩
theorem str_leafI {z : Str} (h : PyData.strOk z = true) : PyData.leavesShort 8 (.str z) = true := by
  unfold PyData.leavesShort
  rw [List.all_eq_true]
  unfold PyData.strOk at h
  intro c hc
  have h := Array.all_eq_true_iff_forall_mem.mp h c (Array.mem_toList_iff.mp hc)
  have h := of_decide_eq_true h
  exact decide_eq_true (by omega)
theorem szKv_show : ∀ {l : List Str} {s : Str → Int}, (∀ p ∈ l, PyData.strOk p = true ∧ p.length ≤ 8 ∧ 0 ≤ s p ∧ s p ≤ 60) → PyData.showableKv (szKv l s) = true ∧ PyData.leavesShortKv 8 (szKv l s) = true ∧ PyData.depthKv (szKv l s) ≤ 1 ∧ PyData.bulkKv (szKv l s) ≤ 70 * l.length
  | [], _, _ => ⟨rfl, rfl, Nat.zero_le _, Nat.zero_le _⟩
  | p :: l, s, h => by
    obtain ⟨h1, h2, h3, h4⟩ := szKv_show (l := l) (s := s) fun v hv => h v (List.mem_cons_of_mem _ hv)
    obtain ⟨p1, p2, p3, p4⟩ := h p (List.mem_cons_self ..)
    obtain ⟨q1, q2⟩ := int_smallI p3 p4
    refine ⟨?_, ?_, ?_, ?_⟩
    · show (true && PyData.showable (.int (s p)) && PyData.showableKv (szKv l s)) = true
      rw [q2, h1] <;> rfl
    · show (PyData.leavesShort 8 (.str p) && decide ((PyData.shown (.int (s p))).length ≤ 8) && PyData.leavesShortKv 8 (szKv l s)) = true
      rw [str_leafI p1, decide_eq_true q1, h2] <;> rfl
    · show max (max 0 0) (PyData.depthKv (szKv l s)) ≤ 1
      omega
    · show p.cps.size + 0 + 2 + PyData.bulkKv (szKv l s) ≤ 70 * (p :: l).length
      rw [List.length_cons]
      have : p.cps.size = p.length := rfl
      omega
theorem sz_repr {K : PySem.W.Frag} {H : Hp} {q : Addr} {ks : List Str} {s : Str → Int} {t : List (Str × Str)} (o : TreeOk t) (p : ks.Perm (t.map Prod.fst)) (b : ∀ a ∈ ks, 0 ≤ s a ∧ s a ≤ 60) (h : H q = some (.dK (tblI ks s))) :
    H q = some (.dK ((szEn ks s).map fun e => (e.1, e.2.1))) ∧ (∀ e ∈ szEn ks s, Dp K H e.2.1 e.2.2 ∧ e.2.2.hasDict = false) ∧ (dcD (szEn ks s)).showable = true ∧ (dcD (szEn ks s)).depth ≤ 60 ∧ (dcD (szEn ks s)).shown.length ≤ sizeLine := by
  have few := o.few
  have lk := p.length_eq
  rw [List.length_map] at lk
  obtain ⟨z1, z2, z3, z4⟩ := szKv_show (l := ks) (s := s) fun a ha => ⟨strOk_name (o.nm a (p.mem_iff.mp ha)), (o.nm a (p.mem_iff.mp ha)).len.2, b a ha⟩
  refine ⟨by rw [szEn_kv]; exact h, fun e he => ?_, ?_⟩
  · obtain ⟨a, ha, rfl⟩ := List.mem_map.mp he
    exact ⟨.int _, rfl⟩
  · rw [szEn_D]
    refine ⟨z1, by show PyData.depthKv (szKv ks s) + 1 ≤ 60; omega, PyData.shown_fits_bulk (B := 8) (by decide) (by decide) z2 ?_⟩
    show PyData.bulkKv (szKv ks s) ≤ 2 ^ 20
    omega
end FT


/-! family B (laws k17 to k28, k55): the drawing state as a dict; begin. -/
namespace FT
open PySem L2 TL ClX
/-- the drawing state: at d the dict, its lists at l (large) and i (items) -/
def stB (l i : Addr) (lf tn : Int) : List (Key × V) := [(Sum.inr "large", .ref l), (Sum.inr "items", .ref i), (Sum.inr "left", .int lf), (Sum.inr "turn", .int tn)]
/-- b: a bound on the turns that were taken -/
def DrawB (H : Hp) (d l i : Addr) (b : Int) : Prop := ∃ (lf tn : Int) (lg it : List Int), H d = some (.dK (stB l i lf tn)) ∧ H l = some (.lst (lg.map V.int)) ∧ H i = some (.lst (it.map V.int)) ∧ l ≠ i ∧ (∀ z ∈ lg, 0 ≤ z) ∧ (∀ z ∈ it, 0 ≤ z) ∧ lg.length ≤ 63 ∧ it.length ≤ 63 ∧ 0 ≤ lf ∧ 0 ≤ tn ∧ tn ≤ b
/-- all that was tracked, but d and l, is as it was -/
def KeepB (d l : Addr) (H H' : Hp) : Prop := ∀ b o, b ≠ d → b ≠ l → H b = some o → H' b = some o
def spBeginB (K : PySem.W.Frag) : Sp := fun vs H Q _ => ∃ (a : Addr) (ns : List Int), vs = [.ref a] ∧ SqL K H a (ns.map V.int) ∧ ns.length ≤ 63 ∧
  ∀ (H' : Hp) (d l i : Addr), Same H H' → H d = none → H l = none → H i = none → DrawB H' d l i 0 → Q (.ref d) H'
theorem DrawB.more {H : Hp} {d l i : Addr} {b b' : Int} (x : DrawB H d l i b) (h : b ≤ b') : DrawB H d l i b' := by
  obtain ⟨lf, tn, lg, it, a1, a2, a3, a4, a5, a6, a7, a8, a9, a10, a11⟩ := x
  exact ⟨lf, tn, lg, it, a1, a2, a3, a4, a5, a6, a7, a8, a9, a10, by omega⟩
theorem DrawB.mono {H H' : Hp} {d l i : Addr} {b : Int} (s : Same H H') (x : DrawB H d l i b) : DrawB H' d l i b := by
  obtain ⟨lf, tn, lg, it, a1, a2, a3, r⟩ := x
  exact ⟨lf, tn, lg, it, s _ _ a1, s _ _ a2, s _ _ a3, r⟩
theorem DrawB.apart {H : Hp} {d l i p : Addr} {b : Int} (x : DrawB H d l i b) (n : H p = none) : p ≠ d ∧ p ≠ l ∧ p ≠ i := by
  obtain ⟨lf, tn, lg, it, a1, a2, a3, r⟩ := x
  exact ⟨(ne_of_none a1 n).symm, (ne_of_none a2 n).symm, (ne_of_none a3 n).symm⟩
def magsB (ms : List Int) : List Int := ms.map fun i => if i < 0 then -i else i
theorem magsB_nn (ms : List Int) : ∀ z ∈ magsB ms, 0 ≤ z := fun z h => by
  obtain ⟨i, _, rfl⟩ := List.mem_map.mp h
  split <;> omega
section
variable {P : Program} {w : World} {K : PySem.W.Frag} {mg : Str → Option Value} {base : Heap}
abbrev NBb : List Str := ["_law_script", "_law_items", "_law_item"]
theorem scBb : FnScope NBb ["_law_script"] (defScope s__law_begin) := ⟨rfl, rfl, rfl, by decide +kernel, rfl, by decide +kernel, by decide +kernel⟩
theorem ok_beginB {f : Addr} {fd : FuncData} (F : Fun K "_law_begin" "_law_begin" s__law_begin f fd) (T : Nm mg) : FnOk P w K mg base CX0 1 f fd ["_law_script"] (spBeginB K) := by
  refine F.ok scBb (fun vs H Q E h => ?_) (fun cdv A outer s H vs Q E hr h => ?_)
  · obtain ⟨a, ns, rfl, _⟩ := h
    rfl
  · obtain ⟨a, ns, rfl, hS, hlen, k⟩ := h
    have nd := scBb.nd
    have big : 1000 ≤ sizeLine := by decide
    refine ⟨_, pss_cons (ps_setLc (i := 1) (own := [("_law_item", 2)]) (g := gName 2) (tt := tYes) rfl nd rfl rfl (sw_true rfl rfl rfl (by decide +kernel)) (pi_list (pe_slice sl_list (pv 0) po_none (po_some pe_int)))
        (blkOk_by (N := NBb) (sc := defScope s__law_begin) (by decide +kernel)) (fun _ _ _ _ _ => pg_name (i := 2) nd rfl (Or.inl rfl)) (fun _ _ _ _ _ => pts_nil) (fun _ _ _ _ _ => pe_callB call_abs (by rfl) T.abs (by decide +kernel) (pa_cons (pv 2) pa_nil)))
      (pss_one (ps_ret (pe_disp (pps_cons pe_str (pe_lc (own := [("_law_item", 2)]) (g := gName 2) (tt := tTest (tOp (rI0 fun i j => .bl (decide (i ≥ j))) (tVar 2) (tOp (rI CPow fun i j => .int (i ^ j.toNat)) (tC (.int 10)) (tC (.int 18))))) (te := tVar 2) rfl nd (pi_list (pv 1))
        (blkOk_by (N := NBb) (sc := defScope s__law_begin) (by decide +kernel)) (fun _ _ _ _ _ => pg_name (i := 2) nd rfl (Or.inl rfl)) (fun _ _ _ _ _ => pts_one (pt_cmpR op_ge (pv 2) (pe_op op_pow pe_int pe_int) (nomark _))) (fun _ _ _ _ _ => pv 2))
        (pps_cons pe_str (pv 1) (pps_cons pe_str pe_int (pps_cons pe_str pe_int pps_nil)))) (by rfl) (by rfl) (fun z => by cases z) (by decide)))), ?_⟩
    obtain ⟨ms, em, lm⟩ := cut_ints ns none (some 63)
    refine ⟨_, rfl, _, rfl, a, _, rfl, hS, fun p np => ?_⟩
    rw [em]
    have s1 : Same H (upd H p (.lst (ms.map V.int))) := same_new np
    refine ⟨p, rfl, ⟨_, SqL.of upd_same⟩, fun D nD => lc_list (xs := ms.map V.int) (fun i H' => Same (upd H p (.lst (ms.map V.int))) H' ∧ H' D = some (.lst ((magsB (ms.take i)).map V.int))) ⟨same_new nD, by rw [upd_same, List.take_zero] <;> rfl⟩ (fun i H' _ q => Same.sql q.1 (SqL.of upd_same)) ?_ ?_⟩
    · intro i x H' hx ⟨q1, q2⟩
      obtain ⟨z, hz, rfl⟩ := map_of hx
      refine ⟨rfl, ?_⟩
      refine ⟨_, rfl, z, rfl, _, q2, ?_, Same.put q1 nD, ?_⟩
      · rw [List.length_map]
        unfold magsB
        rw [List.length_map, List.length_take]
        omega
      · rw [upd_same, take_more hz]
        unfold magsB
        rw [List.map_append, List.map_append] <;> rfl
    intro H2 ⟨q1, q2⟩
    rw [List.length_map, List.take_length] at q2
    have s2 : Same H H2 := s1.trans q1
    have nD0 : H D = none := s1.free nD
    obtain ⟨it, eit⟩ : ∃ it, it = magsB ms := ⟨_, rfl⟩
    rw [← eit] at q2
    have lit : it.length ≤ 63 := by
      rw [eit]
      unfold magsB
      rw [List.length_map]
      omega
    refine fun dq ndq => ?_
    have sd := same_new (o := .dK []) ndq
    refine ⟨_, rfl, D, rfl, ⟨_, SqL.of (sd _ _ q2)⟩, fun D2 nD2 => lc_list (xs := it.map V.int) (fun i H' => Same (upd H2 dq (.dK [])) H' ∧ H' D2 = some (.lst (((it.take i).filter fun z => decide (z ≥ 10 ^ 18)).map V.int))) ⟨same_new nD2, by rw [upd_same] <;> rfl⟩ (fun i H' _ q => Same.sql q.1 (SqL.of (sd _ _ q2))) ?_ ?_⟩
    · intro i x H' hx ⟨z1, z2⟩
      obtain ⟨z, hz, rfl⟩ := map_of hx
      refine ⟨rfl, ?_⟩
      refine ⟨_, rfl, _, _, rfl, rfl, ⟨by decide, by decide, by decide⟩, _, _, rfl, rfl, _, rfl, ?_⟩
      have lf : ((it.take i).filter fun z => decide (z ≥ 10 ^ 18)).length ≤ 63 := by
        have := List.length_filter_le (fun z : Int => decide (z ≥ 10 ^ 18)) (it.take i)
        rw [List.length_take] at this
        omega
      refine ite2 (fun yes => ?_) (fun no => ?_)
      · have yes : decide (z ≥ 10 ^ 18) = true := yes
        refine ⟨_, rfl, _, z2, by rw [List.length_map]; omega, Same.put z1 nD2, ?_⟩
        rw [upd_same, take_more hz, List.filter_append, List.filter_cons, if_pos yes, List.filter_nil, List.map_append] <;> rfl
      · have no : ¬ decide (z ≥ 10 ^ 18) = true := no
        refine ⟨z1, ?_⟩
        rw [z2, take_more hz, List.filter_append, List.filter_cons, if_neg no, List.filter_nil, List.append_nil]
    intro H3 ⟨z1, z2⟩
    rw [List.length_map, List.take_length] at z2
    have hdq : H3 dq = some (.dK []) := z1 _ _ upd_same
    have nD2' : H2 D2 = none := sd.free nD2
    refine ⟨_, rfl, hdq, stB D2 D 0 0, rfl, by show 4 ≤ 15; omega, ?_⟩
    have Dd : D ≠ dq := ne_of_none q2 ndq
    have D2d : D2 ≠ dq := (ne_of_none upd_same nD2).symm
    have DD2 : D2 ≠ D := (ne_of_none (sd _ _ q2) nD2).symm
    have s3 : Same H (upd H3 dq (.dK (stB D2 D 0 0))) := fun b u e => by
      have e2 := s2 b u e
      have nb : b ≠ dq := ne_of_none e2 ndq
      rw [upd_ne nb]
      exact z1 _ _ (by rw [upd_ne nb]; exact e2)
    refine k _ dq D2 D s3 (s2.free ndq) (s2.free nD2') nD0 ⟨0, 0, (it.filter fun z => decide (z ≥ 10 ^ 18)), it, upd_same, by rw [upd_ne D2d]; exact z2, by rw [upd_ne Dd]; exact z1 _ _ (sd _ _ q2), DD2, fun z hz => ?_, fun z hz => ?_, ?_, lit, by omega, by omega, by omega⟩
    · rw [eit] at hz
      exact magsB_nn ms z (List.mem_filter.mp hz).1
    · rw [eit] at hz
      exact magsB_nn ms z hz
    · have := List.length_filter_le (fun z : Int => decide (z ≥ 10 ^ 18)) it
      omega
end
end FT


/-! lists of numbers as data -/
namespace FT
open PySem L2 TL ClX LiI
theorem dp_ints {K : PySem.W.Frag} {H : Hp} : ∀ ns : List Int, DpAll K H (ns.map V.int) (ns.map PyData.int)
  | [] => .nil
  | n :: ns => .cons (.int n) (dp_ints ns)
theorem lay_ints : ∀ ns : List Int, PyData.canLayAll0 (ns.map PyData.int) = true ∧ PyData.depthAll (ns.map PyData.int) ≤ 0
  | [] => ⟨rfl, Nat.le_refl _⟩
  | n :: ns => by
    obtain ⟨h1, h2⟩ := lay_ints ns
    constructor
    · show (true && PyData.canLayAll0 (ns.map PyData.int)) = true
      rw [h1] <;> rfl
    · show max 0 (PyData.depthAll (ns.map PyData.int)) ≤ 0
      omega
theorem ints_shaped (ns : List Int) : (PyData.list (ns.map PyData.int)).canLay0 = true ∧ SeqAt.shaped (.list (ns.map PyData.int)) = true := by
  obtain ⟨h1, h2⟩ := lay_ints ns
  have c : (PyData.list (ns.map PyData.int)).canLay0 = true := h1
  refine ⟨c, ?_⟩
  unfold SeqAt.shaped
  rw [c]
  have d : (PyData.list (ns.map PyData.int)).depth ≤ 64 := by
    show PyData.depthAll (ns.map PyData.int) + 1 ≤ 64
    omega
  rw [decide_eq_true d] <;> rfl
end FT


/-! family B: mixed, take, pick -/
namespace FT
open PySem L2 TL ClX LiI
theorem stB_get {H : Hp} {d l i : Addr} {lf tn : Int} (h : H d = some (.dK (stB l i lf tn))) : DGet H d (.str "large") (some (.ref l)) ∧ DGet H d (.str "items") (some (.ref i)) ∧ DGet H d (.str "left") (some (.int lf)) ∧ DGet H d (.str "turn") (some (.int tn)) := by
  refine ⟨?_, ?_, ?_, ?_⟩
  · exact .inl ⟨_, Sum.inr "large", .inl h, rfl, rfl⟩
  · exact .inl ⟨_, Sum.inr "items", .inl h, rfl, rfl⟩
  · exact .inl ⟨_, Sum.inr "left", .inl h, rfl, rfl⟩
  · exact .inl ⟨_, Sum.inr "turn", .inl h, rfl, rfl⟩
theorem stB_left (l i : Addr) (lf tn z : Int) : putK (stB l i lf tn) (Sum.inr "left") (.int z) = stB l i z tn := rfl
theorem stB_turn (l i : Addr) (lf tn z : Int) : putK (stB l i lf tn) (Sum.inr "turn") (.int z) = stB l i lf z := rfl
theorem DrawB.ne {H : Hp} {d l i : Addr} {b : Int} (x : DrawB H d l i b) : l ≠ d ∧ i ≠ d ∧ l ≠ i := by
  obtain ⟨lf, tn, lg, it, a1, a2, a3, a4, _⟩ := x
  exact ⟨ne_of a2 a1 (by intro z; cases z), ne_of a3 a1 (by intro z; cases z), a4⟩
theorem DrawB.ex {H : Hp} {d l i : Addr} {b : Int} (x : DrawB H d l i b) : ∀ y ∈ [d, l], ∃ u, H y = some u := fun y hy => by
  obtain ⟨lf, tn, lg, it, a1, a2, a3, a4, _⟩ := x
  simp only [List.mem_cons, List.not_mem_nil, or_false] at hy
  rcases hy with rfl | rfl
  · exact ⟨_, a1⟩
  · exact ⟨_, a2⟩
/-- a store elsewhere -/
theorem DrawB.off {H : Hp} {d l i p : Addr} {b : Int} {o : HO} (x : DrawB H d l i b) (n1 : p ≠ d) (n2 : p ≠ l) (n3 : p ≠ i) : DrawB (upd H p o) d l i b := by
  obtain ⟨lf, tn, lg, it, a1, a2, a3, r⟩ := x
  exact ⟨lf, tn, lg, it, by rw [upd_ne n1.symm]; exact a1, by rw [upd_ne n2.symm]; exact a2, by rw [upd_ne n3.symm]; exact a3, r⟩
theorem kx_put {d l p : Addr} {H H' : Hp} {o : HO} (k : KeepX [d, l] H H') (n : H p = none) : KeepX [d, l] H (upd H' p o) := fun b u nb e => by
  rw [upd_ne (ne_of_none e n)]
  exact k b u nb e
def spMixedB : Sp := fun vs H Q _ => ∃ (d l i : Addr) (b : Int), vs = [.ref d] ∧ DrawB H d l i b ∧ b ≤ 10 ^ 12 ∧ ∀ (n : Int) (H' : Hp), 0 ≤ n → DrawB H' d l i (b + 1) → KeepX [d, l] H H' → Q (.int n) H'
def spTakeB : Sp := fun vs H Q _ => ∃ (d l i : Addr) (b n : Int), vs = [.ref d, .int n] ∧ DrawB H d l i b ∧ b ≤ 10 ^ 12 ∧ 0 < n ∧ n.natAbs < 2 ^ 200 ∧ ∀ (k : Int) (H' : Hp), 0 ≤ k → k < n → DrawB H' d l i (b + 1) → KeepX [d, l] H H' → Q (.int k) H'
def spPickB : Sp := fun vs H Q _ => ∃ (d l i a : Addr) (b : Int) (xs : List V), vs = [.ref d, .ref a] ∧ DrawB H d l i b ∧ b ≤ 10 ^ 12 ∧ H a = some (.lst xs) ∧ a ≠ l ∧ xs ≠ [] ∧ xs.length ≤ 1000 ∧ ∀ (x : V) (H' : Hp), x ∈ xs → DrawB H' d l i (b + 1) → KeepX [d, l] H H' → Q x H'
section
variable {P : Program} {w : World} {K : PySem.W.Frag} {mg : Str → Option Value} {base : Heap}
abbrev NMx : List Str := ["_law_draw", "_law_number", "_law_prime", "_law_part", "_law_item"]
theorem scMx : FnScope NMx ["_law_draw"] (defScope s__law_mixed) := ⟨rfl, rfl, rfl, by decide +kernel, rfl, by decide +kernel, by decide +kernel⟩
theorem ok_mixedB {f : Addr} {fd : FuncData} (F : Fun K "_law_mixed" "_law_mixed" s__law_mixed f fd) : FnOk P w K mg base CX0 1 f fd ["_law_draw"] spMixedB := by
  refine F.ok scMx (fun vs H Q E h => ?_) (fun cdv A outer s H vs Q E hr h => ?_)
  · obtain ⟨d, l, i, b, rfl, _⟩ := h
    rfl
  · obtain ⟨d, l, i, b, rfl, hD, bb, k⟩ := h
    have hu := hu_of hr
    have nd := scMx.nd
    have big : 1000 ≤ sizeLine := by decide
    refine ⟨_, pss_cons (ps_dput hu (pv 0) pe_str (pe_op op_add (pe_dget hu (pv 0) pe_str (fun _ _ => rfl)) pe_int) rfl)
      (pss_cons (ps_set (i := 1) nd rfl (.inl rfl) pe_int)
      (pss_cons (ps_for PassesOwn.never rfl (pi_list (pe_lst (pa_cons pe_int (pa_cons pe_int (pa_cons pe_int (pa_cons pe_int pa_nil)))))) (pg_name (i := 2) nd rfl (.inl rfl))
        (pss_cons (ps_set (i := 3) nd rfl (.inl rfl) (pe_op op_add (pe_op op_mul pe_int (pe_dget hu (pv 0) pe_str (fun _ _ => rfl))) (pe_op op_fdiv (pv 2) pe_int)))
        (pss_cons (ps_for PassesOwn.never rfl (pi_list (pe_dget hu (pv 0) pe_str (fun _ _ => rfl))) (pg_name (i := 4) nd rfl (.inl rfl))
          (pss_one (ps_set (i := 3) nd rfl (.inl rfl) (pe_op op_mod (pe_op op_add (pe_op op_mul (pv 3) pe_int) (pv 4)) (pv 2)))))
        (pss_one (ps_set (i := 1) nd rfl (.inl rfl) (pe_op op_add (pe_op op_mul (pv 1) pe_int) (pe_op op_mod (pe_op op_pow (pv 3) pe_int) (pv 2))))))))
      (pss_one (ps_ret (pv 1))))), ?_⟩
    have hdne := hD.ne
    obtain ⟨lf, tn, lg, it, a1, a2, a3, a4, lg0, it0, lgl, itl, lf0, tn0, tnb⟩ := hD
    obtain ⟨_, _, _, gt⟩ := stB_get a1
    refine ⟨_, rfl, d, _, rfl, gt, _, _, rfl, rfl, _, rfl, d, _, rfl, DPut.k (k := Sum.inr "turn") a1 (by show 4 < sizeLine; omega), ?_⟩
    rw [stB_turn]
    obtain ⟨H1, e1⟩ : ∃ X, X = upd H d (.dK (stB l i lf (tn + 1))) := ⟨_, rfl⟩
    have hd1 : H1 d = some (.dK (stB l i lf (tn + 1))) := by rw [e1]; exact upd_same
    have hl1 : H1 l = some (.lst (lg.map V.int)) := by rw [e1, upd_ne hdne.1]; exact a2
    have hi1 : H1 i = some (.lst (it.map V.int)) := by rw [e1, upd_ne hdne.2.1]; exact a3
    have k1 : KeepX [d, l] H H1 := fun b u nb e => by
      rw [e1, upd_ne fun z => nb (by rw [z]; exact List.mem_cons_self ..)]
      exact e
    obtain ⟨_, gi, _, gt1⟩ := stB_get hd1
    rw [← e1]
    refine ⟨by show 4 ≤ sizeLine; omega, fun pl npl => ⟨pl, rfl, ⟨_, SqL.of upd_same⟩, ?_⟩⟩
    obtain ⟨H2, e2⟩ : ∃ X, X = upd H1 pl (.lst [V.int 2147483629, V.int 2147483587, V.int 2147483579, V.int 2147483563]) := ⟨_, rfl⟩
    have s12 : Same H1 H2 := e2 ▸ same_new npl
    have hpl : H2 pl = some (.lst (([2147483629, 2147483587, 2147483579, 2147483563] : List Int).map V.int)) := by rw [e2]; exact upd_same
    rw [← e2]
    have prb : ∀ p ∈ ([2147483629, 2147483587, 2147483579, 2147483563] : List Int), 2147483563 ≤ p ∧ p ≤ 2147483629 := by decide
    refine for_it walk_list (fun j σ' H' => (∃ (n : Int) (u2 u3 u4 : Option V), σ' = [some (.ref d), some (.int n), u2, u3, u4] ∧ 0 ≤ n) ∧ H' = H2) ⟨⟨0, _, _, _, rfl, Int.le_refl _⟩, rfl⟩ (fun j σ' H' _ z => by rw [z.2]; exact SqL.of hpl) ?_ ?_
    · intro j y σ' Hz Ha hj ⟨⟨n, u2, u3, u4, eσ, n0⟩, eH⟩ ⟨eb, ey⟩
      subst eσ
      subst eb
      obtain ⟨p, hp, rfl⟩ := map_of ey
      obtain ⟨p0, p1⟩ := prb p (List.mem_of_getElem? hp)
      have gt2 : DGet Ha d (.str "turn") (some (.int (tn + 1))) := (stB_get (by rw [eH]; exact s12 _ _ hd1)).2.2.2
      have gi2 : DGet Ha d (.str "items") (some (.ref i)) := (stB_get (by rw [eH]; exact s12 _ _ hd1)).2.1
      have hi2 : Ha i = some (.lst (it.map V.int)) := by rw [eH]; exact s12 _ _ hi1
      have q0 : 0 ≤ p / 13 := Int.ediv_nonneg (by omega) (by decide)
      have q1 : p / 13 ≤ 2147483629 := by omega
      refine ⟨_, rfl, d, _, rfl, gt2, _, _, rfl, rfl, .inl ⟨by decide, by decide⟩, _, rfl, _, _, rfl, rfl, ⟨by decide, by decide⟩, _, _, rfl, rfl, ?_⟩
      obtain ⟨m0, em0⟩ : ∃ m0, m0 = 92821 * (tn + 1) + p / 13 := ⟨_, rfl⟩
      have b0 : 0 ≤ m0 ∧ m0 < 2 ^ 62 := by
        have : (10 : Int) ^ 12 = 1000000000000 := by decide
        have : (2 : Int) ^ 62 = 4611686018427387904 := by decide
        omega
      show gName 3 (V.int (92821 * (tn + 1) + p / 13)) _ _ _
      rw [← em0]
      refine ⟨_, rfl, d, _, rfl, gi2, i, rfl, ⟨_, SqL.of hi2⟩, ?_⟩
      refine for_it walk_list (fun j σ' H' => (∃ (m : Int) (u4 : Option V), σ' = [some (.ref d), some (.int n), some (.int p), some (.int m), u4] ∧ 0 ≤ m ∧ m < 2 ^ 62) ∧ H' = Ha) ⟨⟨m0, _, rfl, b0.1, b0.2⟩, rfl⟩ (fun j σ' H' _ z => by rw [z.2]; exact SqL.of hi2) ?_ ?_
      · intro j2 y2 σ2 Hz Hc hj2 ⟨⟨m, u4', eσ2, ma, mb⟩, eH2⟩ ⟨eb2, ey2⟩
        subst eσ2
        subst eb2
        obtain ⟨c, hc, rfl⟩ := map_of ey2
        refine ⟨_, rfl, _, _, rfl, rfl, .inr ⟨by decide, by decide⟩, _, rfl, _, _, rfl, rfl, _, rfl, _, _, rfl, rfl, (by show (0 : Int) < p; omega), ⟨⟨_, _, rfl, Int.emod_nonneg _ (by omega), ?_⟩, eH2⟩⟩
        have := Int.emod_lt_of_pos (m * 48271 + c) (show 0 < p by omega)
        have e62 : (2 : Int) ^ 62 = 4611686018427387904 := by decide
        omega
      · intro σ2 Hc ⟨⟨m, u4', eσ2, ma, mb⟩, eH2⟩
        subst eσ2
        subst eH2
        refine ⟨_, rfl, _, _, rfl, rfl, .inr ⟨by decide, by decide⟩, _, rfl, _, _, rfl, rfl, ⟨by decide, by decide, ?_⟩, _, rfl, _, _, rfl, rfl, (by show (0 : Int) < p; omega), _, _, rfl, rfl, ⟨⟨_, _, _, _, rfl, ?_⟩, eH⟩⟩
        · have e62 : (2 : Int) ^ 62 = 4611686018427387904 := by decide
          have e64 : (2 : Nat) ^ 64 = 18446744073709551616 := by decide
          omega
        · have := Int.emod_nonneg (m ^ Int.toNat 5) (show p ≠ 0 by omega)
          have : 0 ≤ n * 2147483647 := by omega
          show 0 ≤ n * 2147483647 + m ^ Int.toNat 5 % p
          omega
    · intro σ' H' ⟨⟨n, u2, u3, u4, eσ, n0⟩, eH⟩
      subst eσ
      subst eH
      refine ⟨_, rfl, k n H' n0 ⟨lf, tn + 1, lg, it, s12 _ _ hd1, s12 _ _ hl1, s12 _ _ hi1, a4, lg0, it0, lgl, itl, lf0, by omega, by omega⟩ (k1.trans (.of_same s12))⟩
abbrev NTk : List Str := ["_law_draw", "_law_size", "_law_digit"]
theorem scTk : FnScope NTk ["_law_draw", "_law_size"] (defScope s__law_take) := ⟨rfl, rfl, rfl, by decide +kernel, rfl, by decide +kernel, by decide +kernel⟩
theorem ok_takeB {f fM : Addr} {fd fdM : FuncData} (F : Fun K "_law_take" "_law_take" s__law_take f fd) (DM : Dn P w K mg base CX0 1 "_law_mixed" ["_law_draw"] spMixedB fM fdM) : FnOk P w K mg base CX0 2 f fd ["_law_draw", "_law_size"] spTakeB := by
  refine F.ok scTk (fun vs H Q E h => ?_) (fun cdv A outer s H vs Q E hr h => ?_)
  · obtain ⟨d, l, i, b, n, rfl, _⟩ := h
    rfl
  · obtain ⟨d, l, i, b, n, rfl, hD, bb, n0, n1, k⟩ := h
    have hu := hu_of hr
    have nd := scTk.nd
    have big : 1000 ≤ sizeLine := by decide
    refine ⟨_, pss_cons (ps_if (pt_cmpR op_eq (pe_dget hu (pv 0) pe_str (fun _ _ => rfl)) pe_int (nomark _))
        (pss_one (ps_dput hu (pv 0) pe_str (pe_ifExp (pt_cmpR (op_neD hr.units) (pe_dget hu (pv 0) pe_str (fun _ _ => rfl)) (pe_lst pa_nil) (nomark _)) (pe_bm PySem.F.plainAttrs_list PySem.F.slot_list_pop PySem.F.type_list_pop mt_popAt (pe_dget hu (pv 0) pe_str (fun _ _ => rfl)) (pa_cons pe_int pa_nil)) (pe_call DM.ok hr rfl DM.mgn DM.kp DM.bn .nil pass0 (pa_cons (pv 0) pa_nil))) rfl)) pss_nil)
      (pss_cons (ps_set (i := 2) nd rfl (.inl rfl) (pe_op op_mod (pe_dget hu (pv 0) pe_str (fun _ _ => rfl)) (pv 1)))
      (pss_cons (ps_dput hu (pv 0) pe_str (pe_op op_fdivW (pe_dget hu (pv 0) pe_str (fun _ _ => rfl)) (pv 1)) rfl)
      (pss_one (ps_ret (pv 2))))), ?_⟩
    have hD0 := hD
    have hdne := hD.ne
    obtain ⟨lf, tn, lg, it, a1, a2, a3, a4, lg0, it0, lgl, itl, lf0, tn0, tnb⟩ := hD
    -- from the left part on
    have rest : ∀ (H1 : Hp), DrawB H1 d l i (b + 1) → KeepX [d, l] H H1 → (tSeq (tAsg (tOp (rI (fun _ j => 0 < j) fun i j => .int (i % j)) (tDGet (tVar 0) (tC (.str "left"))) (tVar 1)) (gName 2)) (tSeq (sDPut (tVar 0) (tC (.str "left")) (tOp (rI CDivW fun i j => .int (i / j)) (tDGet (tVar 0) (tC (.str "left"))) (tVar 1))) (tRet (tVar 2)))) { nx := fun _ H' => Q .non H', rt := Q } [some (.ref d), some (.int n), none] H1 := by
      intro H1 hD1 k1
      obtain ⟨lf, tn, lg, it, a1, a2, a3, a4, lg0, it0, lgl, itl, lf0, tn0, tnb⟩ := hD1
      have gl := (stB_get a1).2.2.1
      refine ⟨_, rfl, d, _, rfl, gl, _, rfl, _, _, rfl, rfl, n0, ?_⟩
      refine ⟨_, rfl, d, _, rfl, gl, _, rfl, _, _, rfl, rfl, wide_div n0 n1 (by decide) (by decide), _, rfl, d, _, rfl, DPut.k (k := Sum.inr "left") a1 (by show 4 < sizeLine; omega), ?_⟩
      rw [stB_left]
      refine ⟨_, rfl, k (lf % n) _ (Int.emod_nonneg _ (by omega)) (Int.emod_lt_of_pos _ n0) ⟨lf / n, tn, lg, it, upd_same, by rw [upd_ne hdne.1]; exact a2, by rw [upd_ne hdne.2.1]; exact a3, a4, lg0, it0, lgl, itl, Int.ediv_nonneg lf0 (by omega), tn0, tnb⟩ fun b u nb e => ?_⟩
      rw [upd_ne fun z => nb (by rw [z]; exact List.mem_cons_self ..)]
      exact k1 b u nb e
    have g := stB_get a1
    refine ⟨_, rfl, d, _, rfl, g.2.2.1, rfl, _, rfl, ?_⟩
    refine ite2 (fun _ => ?_) (fun _ => rest H (hD0.more (by omega)) fun _ _ _ e => e)
    refine ⟨_, rfl, d, _, rfl, g.1, by show 0 ≤ sizeLine; omega, fun e ne => ⟨_, _, .lst (SqL.of (by rw [upd_ne (ne_of_none a2 ne)]; exact a2)) (dp_ints lg), .lst (SqL.of upd_same) .nil, (ints_shaped lg).2, rfl, ?_⟩⟩
    obtain ⟨H2, e2⟩ : ∃ X, X = upd H e (.lst []) := ⟨_, rfl⟩
    have s2 : Same H H2 := e2 ▸ same_new ne
    have kx2 : KeepX [d, l] H H2 := .of_same s2
    have g2 := stB_get (s2 _ _ a1)
    rw [← e2]
    refine ⟨_, rfl, ite2 (fun t => ?_) (fun t => ?_)⟩
    · cases lg with
      | nil => cases t
      | cons z lg =>
        obtain ⟨sx, _, _, _⟩ := ixN_seq (ixN_nat (n := ((z :: lg).map V.int).length) (j := 0) (by rw [List.length_map, List.length_cons]; omega))
        refine ⟨_, rfl, d, _, rfl, g2.1, .inl ⟨rfl, _, SqL.of (s2 _ _ a2)⟩, l, _, 0, 0, _, rfl, rfl, s2 _ _ a2, by decide, by decide, sx, rfl, ?_⟩
        have hd3 : (upd H2 l (.lst (((z :: lg).map V.int).eraseIdx 0))) d = some (.dK (stB l i lf tn)) := by rw [upd_ne hdne.1.symm]; exact s2 _ _ a1
        refine ⟨_, rfl, d, _, rfl, DPut.k (k := Sum.inr "left") hd3 (by show 4 < sizeLine; omega), ?_⟩
        rw [stB_left]
        refine rest _ ⟨z, tn, lg, it, upd_same, by rw [upd_ne hdne.1, upd_same] <;> rfl, by rw [upd_ne hdne.2.1, upd_ne a4.symm]; exact s2 _ _ a3, a4, fun y hy => lg0 y (List.mem_cons_of_mem _ hy), it0, by rw [List.length_cons] at lgl; omega, itl, lg0 z (List.mem_cons_self ..), tn0, by omega⟩ fun b u nb e => ?_
        rw [upd_ne fun w => nb (by rw [w]; exact List.mem_cons_self ..), upd_ne fun w => nb (by rw [w]; simp)]
        exact s2 _ _ e
    · refine ⟨_, rfl, d, l, i, b, rfl, hD0.mono s2, bb, fun n' H3 n0' hD3 k3 => ?_⟩
      have hD3' := hD3
      obtain ⟨lf', tn', lg', it', c1, c2, c3, c4, c5, c6, c7, c8, c9, c10, c11⟩ := hD3
      refine ⟨_, rfl, d, _, rfl, DPut.k (k := Sum.inr "left") c1 (by show 4 < sizeLine; omega), ?_⟩
      rw [stB_left]
      refine rest _ ⟨n', tn', lg', it', upd_same, by rw [upd_ne hdne.1]; exact c2, by rw [upd_ne hdne.2.1]; exact c3, c4, c5, c6, c7, c8, n0', c10, c11⟩ fun b u nb e => ?_
      rw [upd_ne fun w => nb (by rw [w]; exact List.mem_cons_self ..)]
      exact k3 b u nb (s2 _ _ e)
abbrev NPk : List Str := ["_law_draw", "_law_some"]
theorem scPk : FnScope NPk ["_law_draw", "_law_some"] (defScope s__law_pick) := ⟨rfl, rfl, rfl, by decide +kernel, rfl, by decide +kernel, by decide +kernel⟩
theorem ok_pickB {f fT : Addr} {fd fdT : FuncData} (F : Fun K "_law_pick" "_law_pick" s__law_pick f fd) (T : Nm mg) (DT : Dn P w K mg base CX0 2 "_law_take" ["_law_draw", "_law_size"] spTakeB fT fdT) : FnOk P w K mg base CX0 3 f fd ["_law_draw", "_law_some"] spPickB := by
  refine F.ok scPk (fun vs H Q E h => ?_) (fun cdv A outer s H vs Q E hr h => ?_)
  · obtain ⟨d, l, i, a, b, xs, rfl, _⟩ := h
    rfl
  · obtain ⟨d, l, i, a, b, xs, rfl, hD, bb, ha, al, ne, few, k⟩ := h
    refine ⟨_, pss_one (ps_ret (pe_ix ix_list (pv 1) (pe_call DT.ok hr rfl DT.mgn DT.kp DT.bn .nil pass0 (pa_cons (pv 0) (pa_cons (pe_callB call_len_seq (by rfl) T.len PySem.boot_len (pa_cons (pv 1) pa_nil)) pa_nil))) (fun _ _ => rfl))), ?_⟩
    have ad : a ≠ d := by
      obtain ⟨lf, tn, lg, it, a1, _⟩ := hD
      exact ne_of ha a1 (by intro z; cases z)
    have l0 := List.length_pos_iff.mpr ne
    refine ⟨_, rfl, _, rfl, _, rfl, a, _, rfl, .inl (SqL.of ha), d, l, i, b, _, rfl, hD, bb, by omega, ?_, fun j H' j0 j1 hD' kx => ?_⟩
    · rw [Int.natAbs_natCast]
      exact Nat.lt_of_le_of_lt few (by decide)
    · have hj : j.toNat < xs.length := by omega
      have e : xs[j.toNat]? = some xs[j.toNat] := List.getElem?_eq_getElem hj
      have e2 := atI_nat e
      rw [show ((j.toNat : Nat) : Int) = j by omega] at e2
      exact ⟨a, xs, j, _, rfl, rfl, SqL.of (kx a _ (by simp [ad, al]) ha), e2, k _ H' (List.getElem_mem hj) hD' kx⟩
end
end FT


/-! family B: the drawn forest -/
namespace FT
open PySem L2 TL ClX LiI
/-- parents stand ahead of their children -/
def Ahead (t : List (Str × Str)) : Prop := ∀ (i : Nat) (p : Str × Str), t[i]? = some p → p.2 = "" ∨ p.2 ∈ (t.map Prod.fst).take i
def poolB : List Str := ["a", "b", "c", "ab", "new", "old", "pay", "root", "none", "x", "zzzzzzzz", "mid", "aa"]
theorem poolB_ok : (∀ z ∈ poolB, NameL z) ∧ poolB.Nodup := by decide +kernel
theorem DrawB.own {H : Hp} {d l i p : Addr} {b : Int} {u : HO} (x : DrawB H d l i b) (n : H p = none) : p ≠ d ∧ p ≠ l ∧ p ≠ i := x.apart n
theorem kx_at {d l p : Addr} {H H' : Hp} {u : HO} (k : KeepX [d, l] H H') (e : H p = some u) (n1 : p ≠ d) (n2 : p ≠ l) : H' p = some u := k p u (by simp [n1, n2]) e
theorem KeepX.trans' {Ex : List Addr} {H H1 H2 : Hp} (a : KeepX Ex H H1) (b : KeepX Ex H1 H2) : KeepX Ex H H2 := fun x u n e => b x u n (a x u n e)
theorem rep_strs (n : Nat) (a : Str) : (List.replicate n [V.str a]).flatten = (List.replicate n a).map V.str := by
  rw [List.map_replicate]
  induction n with
  | zero => rfl
  | succ n ih => rw [List.replicate_succ, List.flatten_cons, ih, List.replicate_succ] <;> rfl
theorem prs_kV (t : List (Str × Str)) : (prs t).map (fun kv => kV kv.1) = (t.map Prod.fst).map V.str := by
  unfold prs kvT
  rw [List.map_map, List.map_map, List.map_map] <;> rfl
def spForB : Sp := fun vs H Q _ => ∃ (d l i : Addr) (b mo : Int), vs = [.ref d, .int mo] ∧ 1 ≤ mo ∧ mo ≤ 12 ∧ DrawB H d l i b ∧ b + 100 ≤ 10 ^ 12 ∧
  ∀ (q : Addr) (t : List (Str × Str)) (H' : Hp), TreeOk t → Ahead t → H q = none → H' q = some (.dK (prs t)) → DrawB H' d l i (b + 100) → KeepX [d, l] H H' → Q (.ref q) H'
section
variable {P : Program} {w : World} {K : PySem.W.Frag} {mg : Str → Option Value} {base : Heap}
abbrev NFo : List Str := ["_law_draw", "_law_most", "_law_pool", "_law_parents", "_law_k", "_law_name"]
theorem scFo : FnScope NFo ["_law_draw", "_law_most"] (defScope s__law_forest) := ⟨rfl, rfl, rfl, by decide +kernel, rfl, by decide +kernel, by decide +kernel⟩
theorem ok_forestB {f fT fP : Addr} {fd fdT fdP : FuncData} (F : Fun K "_law_forest" "_law_forest" s__law_forest f fd) (T : Nm mg) (DT : Dn P w K mg base CX0 2 "_law_take" ["_law_draw", "_law_size"] spTakeB fT fdT) (DP : Dn P w K mg base CX0 3 "_law_pick" ["_law_draw", "_law_some"] spPickB fP fdP) : FnOk P w K mg base CX0 4 f fd ["_law_draw", "_law_most"] spForB := by
  refine F.ok scFo (fun vs H Q E h => ?_) (fun cdv A outer s H vs Q E hr h => ?_)
  · obtain ⟨d, l, i, b, mo, rfl, _⟩ := h
    rfl
  · obtain ⟨d, l, i, b, mo, rfl, mo1, mo12, hD, bb, k⟩ := h
    have hu := hu_of hr
    have hr2 : Room 2 _ := hr.mono (by decide)
    have nd := scFo.nd
    have big : 1000 ≤ sizeLine := by decide
    refine ⟨_, pss_cons (ps_set (i := 2) nd rfl (.inl rfl) (pe_lst (pa_cons pe_str (pa_cons pe_str (pa_cons pe_str (pa_cons pe_str (pa_cons pe_str (pa_cons pe_str (pa_cons pe_str (pa_cons pe_str (pa_cons pe_str (pa_cons pe_str (pa_cons pe_str (pa_cons pe_str (pa_cons pe_str pa_nil)))))))))))))))
      (pss_cons (ps_set (i := 3) nd rfl (.inl rfl) pe_dnewK)
      (pss_cons (ps_for PassesOwn.never rfl (pi_range1 (by rfl) T.rng (pa_cons (pe_op op_add pe_int (pe_call DT.ok hr2 rfl DT.mgn DT.kp DT.bn .nil pass0 (pa_cons (pv 0) (pa_cons (pv 1) pa_nil)))) pa_nil)) (pg_name (i := 4) nd rfl (.inl rfl))
        (pss_cons (ps_set (i := 5) nd rfl (.inl rfl) (pe_bm PySem.F.plainAttrs_list PySem.F.slot_list_pop PySem.F.type_list_pop mt_popAt (pv 2) (pa_cons (pe_call DT.ok hr2 rfl DT.mgn DT.kp DT.bn .nil pass0 (pa_cons (pv 0) (pa_cons (pe_callB call_len_seq (by rfl) T.len PySem.boot_len (pa_cons (pv 2) pa_nil)) pa_nil))) pa_nil)))
        (pss_one (ps_dput hu (pv 3) (pv 5) (pe_call DP.ok hr rfl DP.mgn DP.kp DP.bn .nil pass0 (pa_cons (pv 0) (pa_cons (pe_op op_cat (pe_op op_rep (pe_lst (pa_cons pe_str pa_nil)) (pe_call DP.ok hr rfl DP.mgn DP.kp DP.bn .nil pass0 (pa_cons (pv 0) (pa_cons (pe_lst (pa_cons pe_int (pa_cons pe_int (pa_cons pe_int pa_nil)))) pa_nil))))
            (pe_callTy (call_listD rfl) (by rfl) T.lst (by decide +kernel) (pa_cons (pv 3) pa_nil))) pa_nil))) rfl))))
      (pss_one (ps_ret (pv 3))))), ?_⟩
    refine ⟨by show 13 ≤ sizeLine; omega, fun p np => ?_⟩
    have s1 := same_new (o := .lst (poolB.map V.str)) np
    have pd := hD.apart np
    refine fun q nq => ?_
    show tSeq _ _ _ [some (.ref d), some (.int mo), some (.ref p), some (.ref q), none, none] (upd (upd H p (.lst (poolB.map V.str))) q (.dK []))
    have s2 : Same H (upd (upd H p (.lst (poolB.map V.str))) q (.dK [])) := s1.trans (same_new nq)
    have q0 : H q = none := s1.free nq
    have qd := hD.apart q0
    have qp : p ≠ q := ne_of_none upd_same nq
    obtain ⟨H1, e1⟩ : ∃ X, X = upd (upd H p (.lst (poolB.map V.str))) q (.dK []) := ⟨_, rfl⟩
    have hp1 : H1 p = some (.lst (poolB.map V.str)) := by rw [e1, upd_ne qp, upd_same]
    have hq1 : H1 q = some (.dK []) := by rw [e1, upd_same]
    rw [← e1] at s2 ⊢
    refine ⟨_, rfl, _, rfl, d, l, i, b, mo, rfl, hD.mono s2, by omega, by omega, by omega, fun c H2 c0 c1 hD2 k2 => ?_⟩
    refine ⟨_, _, rfl, rfl, 1 + c, rfl, by omega, by omega, ?_⟩
    have lc : (1 + c).toNat ≤ 12 := by omega
    have lc1 : 1 ≤ (1 + c).toNat := by omega
    refine for_it walk_range (fun j σ' H' => (∃ u4 u5, σ' = [some (.ref d), some (.int mo), some (.ref p), some (.ref q), u4, u5]) ∧ DrawB H' d l i (b + 1 + 3 * (j : Int)) ∧ KeepX [d, l] H H' ∧
      ∃ (pool : List Str) (t : List (Str × Str)), H' p = some (.lst (pool.map V.str)) ∧ pool.length + j = 13 ∧ pool.Nodup ∧ (∀ z ∈ pool, NameL z) ∧ H' q = some (.dK (prs t)) ∧ t.length = j ∧ (t.map Prod.fst).Nodup ∧ (∀ z ∈ t.map Prod.fst, NameL z ∧ z ∉ pool) ∧ Ahead t)
      ⟨⟨_, _, rfl⟩, hD2.more (by omega), (KeepX.of_same s2).trans' k2, poolB, [], kx_at k2 hp1 pd.1 pd.2.1, rfl, poolB_ok.2, poolB_ok.1, kx_at k2 hq1 qd.1 qd.2.1, rfl, List.nodup_nil, fun z h => (by cases h), fun i p h => (by simp at h)⟩ (fun _ _ _ _ _ => trivial) ?_ ?_
    · intro j y σ' Hz Ha hj ⟨⟨u4, u5, eσ⟩, da, ka, pool, t, hp, pl, pnd, pok, hq, tl, tnd, tok, ah⟩ ⟨eb, ey⟩
      subst eσ
      subst eb
      subst ey
      refine ⟨_, rfl, .inl ⟨rfl, _, SqL.of hp⟩, _, rfl, _, rfl, p, _, rfl, .inl (SqL.of hp), d, l, i, _, _, rfl, da, by omega, ?_, ?_, fun z H3 z0 z1 hD3 k3 => ?_⟩
      · rw [List.length_map]
        omega
      · rw [List.length_map, Int.natAbs_natCast]
        exact Nat.lt_of_le_of_lt (show pool.length ≤ 1000 by omega) (by decide)
      · rw [List.length_map] at z1
        have zj : z.toNat < pool.length := by omega
        obtain ⟨sx, _, _, _⟩ := ixN_seq (ixN_nat (n := (pool.map V.str).length) (j := z.toNat) (by rw [List.length_map]; exact zj))
        rw [show ((z.toNat : Nat) : Int) = z by omega] at sx
        have pn := pd
        have hp3 := kx_at k3 hp pd.1 pd.2.1
        have hq3 := kx_at k3 hq qd.1 qd.2.1
        have em : (pool.map V.str)[z.toNat]? = some (V.str pool[z.toNat]) := by rw [List.getElem?_map, List.getElem?_eq_getElem zj] <;> rfl
        obtain ⟨f, ef⟩ : ∃ f, f = pool[z.toNat] := ⟨_, rfl⟩
        rw [← ef] at em
        have pm := erase_perm pool z.toNat zj
        rw [← ef] at pm
        obtain ⟨fn, nd2⟩ := List.nodup_cons.mp (pm.nodup_iff.mpr pnd)
        have fp : f ∈ pool := pm.mem_iff.mp (List.mem_cons_self ..)
        have sub : ∀ z' ∈ pool.eraseIdx z.toNat, z' ∈ pool := fun z' h => pm.mem_iff.mp (List.mem_cons_of_mem _ h)
        have le := pm.length_eq
        rw [List.length_cons] at le
        refine ⟨p, _, z, _, _, rfl, rfl, hp3, by omega, by omega, sx, em, ?_⟩
        rw [map_erase]
        obtain ⟨H4, e4⟩ : ∃ X, X = upd H3 p (.lst ((pool.eraseIdx z.toNat).map V.str)) := ⟨_, rfl⟩
        have np0 : H p = none := np
        have hD4 : DrawB H4 d l i (b + 1 + 3 * (j : Int) + 1) := by rw [e4]; exact hD3.off pd.1 pd.2.1 pd.2.2
        have k4 : KeepX [d, l] H H4 := by rw [e4]; exact kx_put (ka.trans' k3) np0
        have hp4 : H4 p = some (.lst ((pool.eraseIdx z.toNat).map V.str)) := by rw [e4, upd_same]
        have hq4 : H4 q = some (.dK (prs t)) := by rw [e4, upd_ne qp.symm]; exact hq3
        rw [← e4]
        have fresh : f ∉ t.map Prod.fst := fun h => (tok f h).2 fp
        -- the drawn parent
        refine ⟨_, rfl, by show 1 ≤ sizeLine; omega, fun p1 m1 => ?_⟩
        refine ⟨_, rfl, by show 3 ≤ sizeLine; omega, fun p2 m2 => ?_⟩
        obtain ⟨H5, e5⟩ : ∃ X, X = upd (upd H4 p1 (.lst [.str ""])) p2 (.lst (([1, 1, 4] : List Int).map V.int)) := ⟨_, rfl⟩
        have s5 : Same H4 H5 := e5 ▸ (same_new m1).trans (same_new m2)
        have p1d := hD4.apart m1
        have p2d := (hD4.mono (same_new m1)).apart m2
        have hp1 : H5 p1 = some (.lst [.str ""]) := by rw [e5]; exact same_new m2 _ _ upd_same
        have hp2 : H5 p2 = some (.lst (([1, 1, 4] : List Int).map V.int)) := by rw [e5, upd_same]
        subst e5
        refine ⟨d, l, i, p2, _, _, rfl, hD4.mono s5, by omega, hp2, p2d.2.1, (fun z => by cases z), by decide, fun x H6 xm hD6 k6 => ?_⟩
        obtain ⟨c', hc, rfl⟩ := List.mem_map.mp xm
        have cb : 0 ≤ c' ∧ c' ≤ 4 := by
          have : ∀ c' ∈ ([1, 1, 4] : List Int), 0 ≤ c' ∧ c' ≤ 4 := by decide
          exact this c' hc
        refine ⟨p1, c', _, rfl, rfl, kx_at k6 hp1 p1d.1 p1d.2.1, by omega, by omega, ?_, fun p3 m3 => ?_⟩
        · show 1 * c'.toNat ≤ sizeLine
          omega
        rw [rep_strs]
        have hq6 := kx_at k6 (s5 _ _ hq4) qd.1 qd.2.1
        have n3 := same_new (o := .lst ((List.replicate c'.toNat ("" : Str)).map V.str)) m3
        refine ⟨_, rfl, q, prs t, rfl, .inl (n3 _ _ hq6), fun p4 m4 => ?_⟩
        rw [prs_kV]
        have n4 := same_new (o := .lst ((t.map Prod.fst).map V.str)) m4
        refine ⟨p3, p4, _, _, rfl, rfl, n4 _ _ upd_same, upd_same, ?_, fun p5 m5 => ?_⟩
        · rw [List.length_map, List.length_map, List.length_map, List.length_replicate]
          omega
        rw [← List.map_append]
        obtain ⟨ws, ews⟩ : ∃ ws, ws = List.replicate c'.toNat ("" : Str) ++ t.map Prod.fst := ⟨_, rfl⟩
        rw [← ews]
        have n5 := same_new (o := .lst (ws.map V.str)) m5
        obtain ⟨H7, e7⟩ : ∃ X, X = upd (upd (upd H6 p3 (.lst ((List.replicate c'.toNat ("" : Str)).map V.str))) p4 (.lst ((t.map Prod.fst).map V.str))) p5 (.lst (ws.map V.str)) := ⟨_, rfl⟩
        have s7 : Same H6 H7 := e7 ▸ (n3.trans n4).trans n5
        have p5d := ((hD6.mono n3).mono n4).apart m5
        have hp5 : H7 p5 = some (.lst (ws.map V.str)) := by rw [e7, upd_same]
        rw [← e7]
        refine ⟨d, l, i, p5, _, _, rfl, hD6.mono s7, by omega, hp5, p5d.2.1, ?_, ?_, fun x H8 xm hD8 k8 => ?_⟩
        · intro e
          have e := congrArg List.length e
          rw [ews, List.length_map, List.length_append, List.length_replicate] at e
          have c1 : 1 ≤ c' := by
            have : ∀ c' ∈ ([1, 1, 4] : List Int), 1 ≤ c' := by decide
            exact this c' hc
          have e : c'.toNat + (t.map Prod.fst).length = 0 := e
          omega
        · rw [ews, List.length_map, List.length_append, List.length_replicate, List.length_map]
          omega
        obtain ⟨g, hg, rfl⟩ := List.mem_map.mp xm
        have hq8 := kx_at k8 (s7 _ _ hq6) qd.1 qd.2.1
        refine ⟨_, rfl, _, rfl, q, _, rfl, DPut.k (k := Sum.inr f) hq8 (by rw [prs_len]; omega), ?_⟩
        rw [put_new fresh]
        have gg : g = "" ∨ g ∈ t.map Prod.fst := by
          rw [ews] at hg
          rcases List.mem_append.mp hg with h | h
          · exact .inl (List.eq_of_mem_replicate h)
          · exact .inr h
        have k8' : KeepX [d, l] H H8 := ((k4.trans' (.of_same s5)).trans' k6).trans' ((KeepX.of_same s7).trans' k8)
        have hp8 := kx_at k8 (s7 _ _ (kx_at k6 (s5 _ _ hp4) pd.1 pd.2.1)) pd.1 pd.2.1
        refine ⟨⟨_, _, rfl⟩, (hD8.off qd.1 qd.2.1 qd.2.2).more (by omega), kx_put k8' q0, pool.eraseIdx z.toNat, t ++ [(f, g)], by rw [upd_ne qp]; exact hp8, by omega, nd2, fun z' h => pok z' (sub z' h), upd_same, by rw [List.length_append, tl] <;> rfl, ?_, ?_, ?_⟩
        · rw [List.map_append]
          refine List.nodup_append.mpr ⟨tnd, by show [f].Nodup; simp, fun a ha b hb => ?_⟩
          rw [List.mem_singleton.mp (show b ∈ [f] from hb)]
          exact fun e => fresh (e ▸ ha)
        · intro z' h
          rw [List.map_append] at h
          rcases List.mem_append.mp h with h | h
          · exact ⟨(tok z' h).1, fun m => (tok z' h).2 (sub z' m)⟩
          · rw [List.mem_singleton.mp (show z' ∈ [f] from h)]
            exact ⟨pok f fp, fn⟩
        · intro i p h
          rw [List.map_append]
          by_cases hi : i < t.length
          · rw [List.getElem?_append_left hi] at h
            rw [List.take_append_of_le_length (by rw [List.length_map]; omega)]
            exact ah i p h
          · have hl := (List.getElem?_eq_some_iff.mp h).1
            rw [List.length_append] at hl
            have one : ([(f, g)] : List (Str × Str)).length = 1 := rfl
            have ei : i = t.length := by omega
            subst ei
            rw [List.getElem?_append_right (Nat.le_refl _), Nat.sub_self] at h
            have ep : (f, g) = p := Option.some.inj h
            subst ep
            rw [List.take_append_of_le_length (by rw [List.length_map]; omega), List.take_of_length_le (by rw [List.length_map]; omega)]
            exact gg
    · intro σ' H3 ⟨⟨u4, u5, eσ⟩, da, ka, pool, t, hp, pl, pnd, pok, hq, tl, tnd, tok, ah⟩
      subst eσ
      refine ⟨_, rfl, k q t H3 (tree_of (by omega) (by omega) tnd (fun z h => (tok z h).1) ah) ah q0 hq (da.more (by omega)) ka⟩
end
end FT


/-! family B: sizes that are drawn -/
namespace FT
open PySem L2 TL ClX LiI
def spSizesB : Sp := fun vs H Q _ => ∃ (d l i q : Addr) (b n : Int) (t : List (Str × Str)), vs = [.ref d, .ref q, .int n] ∧ DrawB H d l i b ∧ b + 100 ≤ 10 ^ 12 ∧ H q = some (.dK (prs t)) ∧ TreeOk t ∧ Ahead t ∧ 0 ≤ n ∧ n ≤ 60 ∧
  ∀ (p : Addr) (sz : Str → Int) (H' : Hp), Fea t n sz → H p = none → H' p = some (.dK (tblI (t.map Prod.fst) sz)) → DrawB H' d l i (b + 100) → KeepX [d, l] H H' → Q (.ref p) H'
theorem DrawB.off_prs {H : Hp} {d l i q : Addr} {b : Int} {t : List (Str × Str)} (x : DrawB H d l i b) (hq : H q = some (.dK (prs t))) : q ≠ d ∧ q ≠ l ∧ q ≠ i := by
  obtain ⟨lf, tn, lg, it, a1, a2, a3, _⟩ := x
  refine ⟨ne_of hq a1 fun z => ?_, ne_of hq a2 (by intro z; cases z), ne_of hq a3 (by intro z; cases z)⟩
  have z := congrArg List.head? (HO.dK.inj z)
  cases t with
  | nil => cases z
  | cons y t =>
    have z := congrArg Prod.snd (Option.some.inj z)
    cases z
section
variable {P : Program} {w : World} {K : PySem.W.Frag} {mg : Str → Option Value} {base : Heap}
abbrev NSb : List Str := ["_law_draw", "_law_parents", "_law_folk", "_law_wide", "_law_left", "_law_name", "_law_above", "_law_size"]
end
end FT


/-! plain: pairs in order and turned about -/
namespace FT
open PySem L2 TL ClX LiI
theorem pair_app {α β : Type} {F : α → β → Prop} : ∀ {xs xs' : List α} {ys ys' : List β}, Paired F xs ys → Paired F xs' ys' → Paired F (xs ++ xs') (ys ++ ys')
  | _, _, _, _, .nil, q => q
  | _, _, _, _, .cons h t, q => .cons h (pair_app t q)
theorem pair_rev {α β : Type} {F : α → β → Prop} : ∀ {xs : List α} {ys : List β}, Paired F xs ys → Paired F xs.reverse ys.reverse
  | _, _, .nil => .nil
  | _, _, .cons h t => by
    rw [List.reverse_cons, List.reverse_cons]
    exact pair_app (pair_rev t) (.cons h .nil)
theorem pair_imp {α β : Type} {F G : α → β → Prop} (m : ∀ x y, F x y → G x y) : ∀ {xs : List α} {ys : List β}, Paired F xs ys → Paired G xs ys
  | _, _, .nil => .nil
  | _, _, .cons h t => .cons (m _ _ h) (pair_imp m t)
def spFlip : Sp := fun vs H Q _ => ∃ (q : Addr) (l : List Str) (s : Str → Int), vs = [.ref q] ∧ H q = some (.dK (tblI l s)) ∧ l.Nodup ∧ l.length ≤ 64 ∧ ∀ (p : Addr) (H' : Hp), Same H H' → H p = none → H' p = some (.dK (tblI l.reverse s)) → Q (.ref p) H'
end FT


/-! Own: repr of data with dicts anywhere (lists of dicts, dicts of lists) -/
namespace L2
open PySem PySem.Spec PyProof.Rows
mutual
/-- data, dicts among it -/
inductive DR (K : PySem.W.Frag) (H : Hp) : V → PyData → Prop
  | dat {x : V} {d : PyData} : Dp K H x d → d.hasDict = false → DR K H x d
  | dict {a : Addr} {es : List EntD} : H a = some (.dK (es.map fun e => (e.1, e.2.1))) → DRE K H es → DR K H (.ref a) (dcD es)
  | list {a : Addr} {xs : List V} {ds : List PyData} : SqL K H a xs → DRA K H xs ds → DR K H (.ref a) (.list ds)
  | tup {a : Addr} {xs : List V} {ds : List PyData} : SqT K H a xs → DRA K H xs ds → DR K H (.ref a) (.tuple ds)
inductive DRA (K : PySem.W.Frag) (H : Hp) : List V → List PyData → Prop
  | nil : DRA K H [] []
  | cons {x : V} {d : PyData} {xs : List V} {ds : List PyData} : DR K H x d → DRA K H xs ds → DRA K H (x :: xs) (d :: ds)
inductive DRE (K : PySem.W.Frag) (H : Hp) : List EntD → Prop
  | nil : DRE K H []
  | cons {k : Key} {v : V} {d : PyData} {es : List EntD} : DR K H v d → DRE K H es → DRE K H ((k, v, d) :: es)
end
section
variable {X : Cx} {pins : List (Addr × Obj)} {σ : St} {H : Hp} {s : Shared}
theorem keys_rd : ∀ {es : List EntD} {ds : List DictEntry} {vs : List (Key × Value)}, Pairs (mixKind X.prog X.w) ds vs → KV (es.map fun e => (e.1, e.2.1)) vs → (∃ as, ReadsAll s.heap (ds.map (·.key)) ((es.map fun e => (kD e.1, e.2.2)).map (·.1)) as) ∧ PyData.hasDictAll ((es.map fun e => (kD e.1, e.2.2)).map (·.1)) = false
  | [], ds, vs, p, kv => by
    cases kv
    cases p
    exact ⟨⟨_, .nil⟩, rfl⟩
  | e :: es, ds, vs, p, kv => by
    cases kv with
    | cons hq kv =>
      cases p with
      | cons pk pv p =>
        obtain ⟨⟨as, r1⟩, n1⟩ := keys_rd p kv
        obtain ⟨k, v, d⟩ := e
        obtain ⟨e1, _⟩ := hq
        have e1 : k = _ := e1
        subst e1
        rcases keyIs_shape pk with ⟨i, t, ek, ev⟩ | ⟨x, t, ek, ev⟩
        · refine ⟨?_, ?_⟩
          · rw [List.map_cons, ev]
            exact ⟨_, .cons (by show Reads _ _ (kD _) _; rw [ek]; exact .int i t) r1⟩
          · show (PyData.hasDict (kD _) || PyData.hasDictAll _) = false
            rw [n1, ek] <;> rfl
        · refine ⟨?_, ?_⟩
          · rw [List.map_cons, ev]
            exact ⟨_, .cons (by show Reads _ _ (kD _) _; rw [ek]; exact .str x t) r1⟩
          · show (PyData.hasDict (kD _) || PyData.hasDictAll _) = false
            rw [n1, ek] <;> rfl
mutual
theorem DR.rk (I : Inv X pins σ H s) : ∀ {x : V} {d : PyData}, DR X.K H x d → ∀ {u : Value}, RelV x u → d.showable = true → d.shown.length ≤ sizeLine →
    ∃ as bs, Reads s.heap u d as ∧ ReadAtMost s.heap d.depth bs ∧ ReprK X.prog X.w bs s.heap d.depth u d.shown
  | _, d, .dat h nd, u, r, ok, few => by
    obtain ⟨as, q⟩ := Dp.reads I d _ u h r
    obtain ⟨bs, h1, h2⟩ := ReprK.of_reads (prog := X.prog) (w := X.w) q ok (PyData.noDict_hsm nd) few
    exact ⟨as, bs, q, h1, h2⟩
  | _, _, .dict (a := a) (es := es) ha he, u, r, ok, few => by
    obtain rfl : u = Value.ref a := r
    obtain ⟨_, ns, vs, kv, o, ds, ep, h1, h2, h3, _, h4, _⟩ := (show ObjOk X.prog X.w H s.heap a (.dK (es.map fun e => (e.1, e.2.1))) from I.hok a _ ha)
    have few' : (dictText (PyData.shownKv (es.map fun e => (kD e.1, e.2.2)))).length ≤ sizeLine := by simpa only [PyData.shown] using few
    obtain ⟨ok1, ok2⟩ := PyData.showableKv_split (es.map fun e => (kD e.1, e.2.2)) (by simpa [PyData.showable] using ok)
    obtain ⟨⟨as, r1⟩, n1⟩ := keys_rd (s := s) h4 kv
    obtain ⟨b1, m1, k1⟩ := ReprAllK.of_readsAll (prog := X.prog) (w := X.w) r1 ok1 (fun z => by rw [n1] at z; cases z) fun t ht => let ⟨p, hp, hl⟩ := PyData.shownKv_key_le _ t ht; Nat.le_trans hl (Nat.le_trans (dictText_mem_le hp) few')
    obtain ⟨cs, b2, r2, m2, k2⟩ := DRE.rk I he h4 kv ok2 fun t ht => let ⟨p, hp, hl⟩ := PyData.shownKv_val_le _ t ht; Nat.le_trans hl (Nat.le_trans (dictText_mem_le hp) few')
    have rd : Reads s.heap (.ref a) (dcD es) _ := .dict h1 h2.1 h3 r1 r2
    have hb : ReadAtMost s.heap (PyData.depthKv (es.map fun e => (kD e.1, e.2.2))) (b1 ++ b2) := (m1.mono (PyData.depthAll_keys_le _)).append (m2.mono (PyData.depthAll_vals_le _))
    have hna : a ∉ b1 ++ b2 := not_mem_of_deeper rd (by simp only [PyData.depth]; omega) hb
    refine ⟨_, a :: (b1 ++ b2), rd, ReadAtMost.cons rd (by simp only [PyData.depth]; omega) hb, ?_⟩
    simp only [PyData.depth, PyData.shown, PyData.shownKv_eq]
    exact ReprK.dict h1 h2.1 h3 ns hna (ReprEntriesK.of_two ds.toList _ _ (k1.more_le (fun b hb => List.mem_append_left _ hb) (PyData.depthAll_keys_le _)) (k2.more_le (fun b hb => List.mem_append_right _ hb) (PyData.depthAll_vals_le _)))
  | _, _, .list (a := a) (xs := xs) (ds := ds) hx h, u, r, ok, few => by
    obtain rfl : u = Value.ref a := r
    obtain ⟨its, rv, pl, hz⟩ := I.list hx
    obtain ⟨o, n, ho, hc, hd, hdat⟩ := pl
    have few' : (listText (PyData.shownAll ds)).length ≤ sizeLine := by simpa only [PyData.shown] using few
    obtain ⟨as, bs, r1, m1, k1⟩ := DRA.rk I h rv (by simpa [PyData.showable] using ok) fun t ht => Nat.le_trans (listText_mem_le ht) few'
    have rd : Reads s.heap (.ref a) (.list ds) _ := .list ho hc hdat (by simpa using r1)
    have hna : a ∉ bs := not_mem_of_deeper rd (by simp only [PyData.depth]; omega) m1
    refine ⟨_, a :: bs, rd, ReadAtMost.cons rd (by simp only [PyData.depth]; omega) m1, ?_⟩
    simp only [PyData.depth, PyData.shown]
    cases its with
    | nil =>
      cases r1
      simp only [PyData.shownAll, listText_nil]
      exact ReprK.listEmpty ho hc hdat
    | cons x l => exact ReprK.list ho hc hdat hna (by simpa using k1.length_eq) (fun i y e => k1.item i y (by simpa using e))
  | _, _, .tup (a := a) (xs := xs) (ds := ds) hx h, u, r, ok, few => by
    obtain rfl : u = Value.ref a := r
    obtain ⟨its, rv, ⟨o, ho, hc, n, hdat⟩, hz⟩ := I.tuple hx
    have few' : (tupleText (PyData.shownAll ds)).length ≤ sizeLine := by simpa only [PyData.shown] using few
    obtain ⟨as, bs, r1, m1, k1⟩ := DRA.rk I h rv (by simpa [PyData.showable] using ok) fun t ht => Nat.le_trans (tupleText_mem_le ht) few'
    have rd : Reads s.heap (.ref a) (.tuple ds) _ := .tuple ho hc hdat (by simpa using r1)
    have hna : a ∉ bs := not_mem_of_deeper rd (by simp only [PyData.depth]; omega) m1
    refine ⟨_, a :: bs, rd, ReadAtMost.cons rd (by simp only [PyData.depth]; omega) m1, ?_⟩
    simp only [PyData.depth, PyData.shown]
    exact ReprK.tuple ho hc hdat hna (by simpa using k1)
theorem DRA.rk (I : Inv X pins σ H s) : ∀ {xs : List V} {ds : List PyData}, DRA X.K H xs ds → ∀ {us : List Value}, Vals xs us → PyData.showableAll ds = true → (∀ t ∈ PyData.shownAll ds, t.length ≤ sizeLine) →
    ∃ as bs, ReadsAll s.heap us ds as ∧ ReadAtMost s.heap (PyData.depthAll ds) bs ∧ ReprAllK X.prog X.w bs s.heap (PyData.depthAll ds) us (PyData.shownAll ds)
  | _, _, .nil, _, .nil, _, _ => ⟨[], [], .nil, (fun _ h => nomatch h), by simp only [PyData.shownAll]; exact .nil⟩
  | _, _, .cons (d := d) (ds := ds) h hs, _, .cons r rs, ok, few => by
    have ok' : d.showable = true ∧ PyData.showableAll ds = true := by simpa [PyData.showableAll] using ok
    obtain ⟨a1, b1, r1, m1, k1⟩ := DR.rk I h r ok'.1 (few _ (by simp only [PyData.shownAll]; exact List.mem_cons_self ..))
    obtain ⟨a2, b2, r2, m2, k2⟩ := DRA.rk I hs rs ok'.2 (fun t ht => few t (by simp only [PyData.shownAll]; exact List.mem_cons_of_mem _ ht))
    refine ⟨_, b1 ++ b2, .cons r1 r2, ?_, ?_⟩
    · intro b hm
      simp only [PyData.depthAll]
      rcases List.mem_append.mp hm with hm | hm
      · obtain ⟨d', as', r', hd'⟩ := m1 b hm
        exact ⟨d', as', r', Nat.le_trans hd' (Nat.le_max_left _ _)⟩
      · obtain ⟨d', as', r', hd'⟩ := m2 b hm
        exact ⟨d', as', r', Nat.le_trans hd' (Nat.le_max_right _ _)⟩
    · simp only [PyData.depthAll, PyData.shownAll]
      exact .cons ((k1.more fun b hb => List.mem_append_left _ hb).level_le (Nat.le_max_left _ _)) (k2.more_le (fun b hb => List.mem_append_right _ hb) (Nat.le_max_right _ _))
theorem DRE.rk (I : Inv X pins σ H s) : ∀ {es : List EntD}, DRE X.K H es → ∀ {ds : List DictEntry} {vs : List (Key × Value)}, Pairs (mixKind X.prog X.w) ds vs → KV (es.map fun e => (e.1, e.2.1)) vs → PyData.showableAll ((es.map fun e => (kD e.1, e.2.2)).map (·.2)) = true → (∀ t ∈ PyData.shownAll ((es.map fun e => (kD e.1, e.2.2)).map (·.2)), t.length ≤ sizeLine) →
    ∃ as bs, ReadsAll s.heap (ds.map (·.val)) ((es.map fun e => (kD e.1, e.2.2)).map (·.2)) as ∧ ReadAtMost s.heap (PyData.depthAll ((es.map fun e => (kD e.1, e.2.2)).map (·.2))) bs ∧ ReprAllK X.prog X.w bs s.heap (PyData.depthAll ((es.map fun e => (kD e.1, e.2.2)).map (·.2))) (ds.map (·.val)) (PyData.shownAll ((es.map fun e => (kD e.1, e.2.2)).map (·.2)))
  | _, .nil, ds, vs, p, kv, _, _ => by
    cases kv
    cases p
    exact ⟨[], [], .nil, (fun _ h => nomatch h), by simp only [List.map_nil, PyData.shownAll]; exact .nil⟩
  | _, .cons (d := d) (es := es) h hs, ds, vs, p, kv, ok, few => by
    cases kv with
    | cons hq kv =>
      cases p with
      | cons pk pv p =>
        obtain ⟨e1, rv⟩ := hq
        rw [← pv] at rv
        have ok' : d.showable = true ∧ PyData.showableAll ((es.map fun e => (kD e.1, e.2.2)).map (·.2)) = true := by simpa [PyData.showableAll] using ok
        obtain ⟨a1, b1, r1, m1, k1⟩ := DR.rk I h rv ok'.1 (few _ (by simp only [List.map_cons, PyData.shownAll]; exact List.mem_cons_self ..))
        obtain ⟨a2, b2, r2, m2, k2⟩ := DRE.rk I hs p kv ok'.2 (fun t ht => few t (by simp only [List.map_cons, PyData.shownAll]; exact List.mem_cons_of_mem _ ht))
        refine ⟨_, b1 ++ b2, .cons r1 r2, ?_, ?_⟩
        · intro b hm
          simp only [List.map_cons, PyData.depthAll]
          rcases List.mem_append.mp hm with hm | hm
          · obtain ⟨d', as', r', hd'⟩ := m1 b hm
            exact ⟨d', as', r', Nat.le_trans hd' (Nat.le_max_left _ _)⟩
          · obtain ⟨d', as', r', hd'⟩ := m2 b hm
            exact ⟨d', as', r', Nat.le_trans hd' (Nat.le_max_right _ _)⟩
        · simp only [List.map_cons, PyData.depthAll, PyData.shownAll]
          exact .cons ((k1.more fun b hb => List.mem_append_left _ hb).level_le (Nat.le_max_left _ _)) (k2.more_le (fun b hb => List.mem_append_right _ hb) (Nat.le_max_right _ _))
end
def rReprR (K : PySem.W.Frag) : List V → Hp → VK → Prop := fun xs H Q => ∃ (x : V) (d : PyData), xs = [x] ∧ DR K H x d ∧ d.showable = true ∧ d.depth ≤ 60 ∧ d.shown.length ≤ sizeLine ∧ Q (.str d.shown) H
theorem call_reprR (clr : Clr X.A) (hu : X.A.units + 64 < cLine) : CallR X (.builtin "repr") (rReprR X.K) := by
  intro pins s σ H xs us Q I r h
  obtain ⟨x, d, rfl, sh, ok, dep, few, q⟩ := h
  cases sh with
  | dat h nd => exact call_repr clr hu pins s σ H _ us Q I r ⟨x, d, rfl, .inl ⟨h, nd⟩, ok, dep, few, q⟩
  | dict ha he =>
    rename_i a es
    obtain ⟨u, rfl, ru⟩ := vals1 r
    obtain rfl : u = Value.ref a := ru
    obtain ⟨_, ns, vs, kv, o, ds, ep, h1, h2, h3, _, h4, _⟩ := (show ObjOk X.prog X.w H s.heap a (.dK (es.map fun e => (e.1, e.2.1))) from I.hok a _ ha)
    have few' : (dictText (PyData.shownKv (es.map fun e => (kD e.1, e.2.2)))).length ≤ sizeLine := by simpa only [PyData.shown] using few
    obtain ⟨ok1, ok2⟩ := PyData.showableKv_split (es.map fun e => (kD e.1, e.2.2)) (by simpa [PyData.showable] using ok)
    obtain ⟨⟨as, r1⟩, n1⟩ := keys_rd (s := s) h4 kv
    obtain ⟨b1, m1, k1⟩ := ReprAllK.of_readsAll (prog := X.prog) (w := X.w) r1 ok1 (fun z => by rw [n1] at z; cases z) fun t ht => let ⟨p, hp, hl⟩ := PyData.shownKv_key_le _ t ht; Nat.le_trans hl (Nat.le_trans (dictText_mem_le hp) few')
    obtain ⟨cs, b2, r2, m2, k2⟩ := DRE.rk I he h4 kv ok2 fun t ht => let ⟨p, hp, hl⟩ := PyData.shownKv_val_le _ t ht; Nat.le_trans hl (Nat.le_trans (dictText_mem_le hp) few')
    have rd : Reads s.heap (.ref a) (dcD es) _ := .dict h1 h2.1 h3 r1 r2
    have hb : ReadAtMost s.heap (PyData.depthKv (es.map fun e => (kD e.1, e.2.2))) (b1 ++ b2) := (m1.mono (PyData.depthAll_keys_le _)).append (m2.mono (PyData.depthAll_vals_le _))
    have hna : a ∉ b1 ++ b2 := not_mem_of_deeper rd (by simp only [PyData.depth]; omega) hb
    have dep' : PyData.depthKv (es.map fun e => (kD e.1, e.2.2)) + 1 ≤ 60 := by simpa only [PyData.depth] using dep
    refine call_repr_slot (by omega) ⟨o, h1, h2.1⟩ PySem.F.slot_dict_repr (call_dict_reprK h1 h2.1 h3 ns hna (ReprEntriesK.of_two ds.toList _ _ (k1.more_le (fun b hb => List.mem_append_left _ hb) (PyData.depthAll_keys_le _)) (k2.more_le (fun b hb => List.mem_append_right _ hb) (PyData.depthAll_vals_le _)))
      (g := []) clr (fun b _ => Clear.nil b) (by show X.A.units + 1 + _ < cLine; omega) (fun _ _ z => z) (fun h' t tk kp => ⟨_, _, rfl, ?_⟩) (by rw [← PyData.shownKv_eq]; exact few'))
    refine ⟨.str (dcD es).shown, H, I.kept kp, ?_, q⟩
    exact ⟨t, by rw [show (dcD es).shown = dictText (PyData.shownKv (es.map fun e => (kD e.1, e.2.2))) by simp only [PyData.shown], PyData.shownKv_eq]⟩
  | list hx h =>
    rename_i a xs ds
    have r0 := r
    obtain ⟨u, rfl, ru⟩ := vals1 r
    obtain rfl : u = Value.ref a := ru
    obtain ⟨its, rv, pl, hz⟩ := I.list hx
    obtain ⟨o, n, ho, hc, hd, hdat⟩ := pl
    have few' : (listText (PyData.shownAll ds)).length ≤ sizeLine := by simpa only [PyData.shown] using few
    obtain ⟨as, bs, r1, m1, k1⟩ := DRA.rk I h rv (by simpa [PyData.showable] using ok) fun t ht => Nat.le_trans (listText_mem_le ht) few'
    have rd : Reads s.heap (.ref a) (.list ds) _ := .list ho hc hdat (by simpa using r1)
    have hna : a ∉ bs := not_mem_of_deeper rd (by simp only [PyData.depth]; omega) m1
    have dep' : PyData.depthAll ds + 1 ≤ 60 := by simpa only [PyData.depth] using dep
    cases its with
    | nil =>
      cases rv
      cases h
      exact call_repr clr hu pins s σ H _ _ Q I r0 ⟨.ref a, .list [], rfl, .inl ⟨.lst hx .nil, rfl⟩, ok, dep, few, q⟩
    | cons y l =>
      refine call_repr_slot (by omega) ⟨o, ho, hc⟩ PySem.F.slot_list_repr.toG (call_list_reprK ho hc hdat hna (by simpa using k1.length_eq) (fun i y e => k1.item i y (by simpa using e)) (g := []) clr (fun b _ => Clear.nil b) (by show X.A.units + 1 + _ < cLine; omega) (fun _ _ z => z) (fun h' t tk kp => ⟨_, _, rfl, ?_⟩) few')
      exact ⟨.str (PyData.list ds).shown, H, I.kept kp, ⟨t, by simp only [PyData.shown]⟩, q⟩
  | tup hx h =>
    rename_i a xs ds
    obtain ⟨u, rfl, ru⟩ := vals1 r
    obtain rfl : u = Value.ref a := ru
    obtain ⟨its, rv, ⟨o, ho, hc, n, hdat⟩, hz⟩ := I.tuple hx
    have few' : (tupleText (PyData.shownAll ds)).length ≤ sizeLine := by simpa only [PyData.shown] using few
    obtain ⟨as, bs, r1, m1, k1⟩ := DRA.rk I h rv (by simpa [PyData.showable] using ok) fun t ht => Nat.le_trans (tupleText_mem_le ht) few'
    have rd : Reads s.heap (.ref a) (.tuple ds) _ := .tuple ho hc hdat (by simpa using r1)
    have hna : a ∉ bs := not_mem_of_deeper rd (by simp only [PyData.depth]; omega) m1
    have dep' : PyData.depthAll ds + 1 ≤ 60 := by simpa only [PyData.depth] using dep
    refine call_repr_slot (by omega) ⟨o, ho, hc⟩ PySem.F.slot_tuple_repr (call_tuple_reprK ho hc hdat hna (by simpa using k1) (g := []) clr (fun b _ => Clear.nil b) (by show X.A.units + 1 + _ < cLine; omega) (fun _ _ z => z) (fun h' t tk kp => ⟨_, _, rfl, ?_⟩) few')
    exact ⟨.str (PyData.tuple ds).shown, H, I.kept kp, ⟨t, by simp only [PyData.shown]⟩, q⟩
end
end L2


/-! own __eq__; Forest.__eq__; (need_match: FtEqM) -/
namespace FT
open PySem L2 TL ClX LiI
def strKey (e : DictEntry) : Bool := match e.key with
  | .str _ _ => true
  | _ => false
/-- a class of the text with its own __eq__ and no __ne__ -/
structure EqF (K : PySem.W.Frag) (C f : Addr) : Prop where
  at_ : ∃ nm q N bs sn sub ab col dd k0 k1 k2 k3 k5 newId, K.lookup C = some (excClassObj nm q C N bs [.type "object"] true sn sub ab col dd k0 k1 k2 k3 k5 newId) ∧
    ∃ (oc : Value) (od : Option Addr) (es : Array DictEntry) (ep : Nat) (sl : Array (Option Value)), K.lookup N = some ⟨oc, od, .dict es ep, sl⟩ ∧ es.toList.all strKey = true ∧ nsFind es "__eq__" = some (.ref f) ∧ nsFind es "__ne__" = none
  ty : ∃ o : Obj, K.lookup f = some o ∧ o.cls = .type "function"
theorem EqF.own {K : PySem.W.Frag} {C f : Addr} (e : EqF K C f) {h : Heap} (X : K.In h) {a : Addr} {o : Obj} (ho : h.get? a = some o) (hc : o.cls = .ref C) : h.OwnEqNoNe a C f "object" [.type "object"] := by
  obtain ⟨nm, q, N, bs, sn, sub, ab, col, dd, k0, k1, k2, k3, k5, newId, hC, oc, od, es, ep, sl, hN, hk, h1, h2⟩ := e.at_
  obtain ⟨of, hf, tf⟩ := e.ty
  have keys : StrKeys es := fun x hx => by
    have := List.all_eq_true.mp hk x (Array.mem_toList_iff.mpr hx)
    unfold strKey at this
    cases ek : x.key with
    | str n t => exact ⟨n, t, rfl⟩
    | _ => rw [ek] at this; cases this
  exact ⟨o, of, nm, q, N, bs, true, sn, sub, ab, col, dd, k0, k1, k2, k3, k5, newId, nsFind es, _, ho, hc, X _ _ hC, ⟨_, es, ep, X _ _ hN, rfl, keys, fun _ => rfl⟩, h1, X _ _ hf, tf, PySem.F.cmp_object.mro, PySem.F.cmp_object.eq.lookup, h2⟩
/-- x != y, two instances that are equal by their own __eq__ -/
def rNeG (D : Eqv) : R2 := fun x y H Q => D x y H ∧ ∀ H', Ext H H' → Q (.bl false) H'
/-- what isinstance asks of an own class -/
structure IsF (K : PySem.W.Frag) (C : Addr) : Prop where
  ha : PySem.W.findIn K (.ref C) "__class__" = some (some (.builtin "object.__class__"))
  hn : PySem.W.specialIn K (.builtin "object.__class__") "__get__" = some (some (.builtin "getset_descriptor.__get__"))
  ht : PySem.W.takesIn K (.builtin "object.__class__") = some true
  hm : PySem.W.mroIn K C (.type "object") = some true
def RFo (CF : Addr) : Addr → Addr → Hp → Prop := fun a b H => ∃ ts, FAt CF H a ts ∧ FAt CF H b ts ∧ TreeOk ts
section
variable {P : Program} {w : World} {K : PySem.W.Frag} {mg : Str → Option Value} {base : Heap}
end
end FT


/-! two dicts of flat values compared, equal or not -/
namespace L2
open PySem PySem.Spec PyProof.Rows
def rowEq (ls : List (Key × V)) (p : Key × V) : Bool := match valV ls p.1 with
  | some u => eqV p.2 u
  | none => false
def eqDK (ks ls : List (Key × V)) : Bool := ks.length == ls.length && ks.all (rowEq ls)
section
variable {X : Cx}
def rEqDC : R2 := fun x y H Q => ∃ a b ks ls, x = .ref a ∧ y = .ref b ∧ H a = some (.dK ks) ∧ H b = some (.dK ls) ∧ (∀ p ∈ ks, flatV p.2 = true) ∧ (∀ p ∈ ls, flatV p.2 = true) ∧ Q (.bl (eqDK ks ls)) H
def rNeDC : R2 := fun x y H Q => ∃ a b ks ls, x = .ref a ∧ y = .ref b ∧ H a = some (.dK ks) ∧ H b = some (.dK ls) ∧ (∀ p ∈ ks, flatV p.2 = true) ∧ (∀ p ∈ ls, flatV p.2 = true) ∧ Q (.bl (!eqDK ks ls)) H
end
end L2


/-! own __eq__ with either answer; Forest.__eq__ -/
namespace FT
open PySem L2 TL ClX LiI
/-- what an own == promises, equal or not -/
def spEqB (R : Addr → Addr → Bool → Hp → Prop) : Sp := fun vs H Q _ => ∃ a b v, vs = [.ref a, .ref b] ∧ R a b v H ∧ ∀ H', Ext H H' → Q (.bl v) H'
def rNeB (C : Addr) (R : Addr → Addr → Bool → Hp → Prop) : R2 := fun x y H Q => ∃ a b dx dy fs gs v, x = .ref a ∧ y = .ref b ∧ H a = some (.ins C dx fs) ∧ H b = some (.ins C dy gs) ∧ R a b v H ∧ ∀ H', Ext H H' → Q (.bl (!v)) H'
def RFoB (CF : Addr) : Addr → Addr → Bool → Hp → Prop := fun a b v H => ∃ ts us, FAt CF H a ts ∧ FAt CF H b us ∧ v = eqDK (prs ts) (prs us)
section
variable {P : Program} {w : World} {K : PySem.W.Frag} {mg : Str → Option Value} {base : Heap}
end
end FT


/-! what repr shows of a key: different keys, different texts -/
namespace FT
open PySem L2 TL ClX
def Low (z : Str) : Prop := ∀ c ∈ tl z, 97 ≤ c ∧ c ≤ 122
theorem NameL.low {z : Str} (h : NameL z ∨ z = "") : Low z := by
  rcases h with h | rfl
  · exact h.1
  · intro c hc
    cases hc
/-- what is shown of a key -/
def keyD : Key → PyData
  | .inl i => .int i
  | .inr z => .str z
def shK (k : Key) : Str := (keyD k).shown
end FT


/-! == of two dicts of parents (plain) -/
namespace FT
open PySem L2 TL ClX
theorem ascOne {ts us : List (Str × Str)} (o : TreeOk ts) (p : ts.Perm us) (a : Asc ts) (b : Asc us) : ts = us := by
  have e : ts.map Prod.fst = us.map Prod.fst := sorted_one (p.map _) a b
  have ou : (us.map Prod.fst).Nodup := (p.map _).nodup_iff.mp o.nd
  refine List.ext_getElem? fun i => ?_
  have ei := congrArg (fun l => l[i]?) e
  simp only [List.getElem?_map] at ei
  cases h : ts[i]? with
  | none =>
    rw [h] at ei
    cases h' : us[i]? with
    | none => rfl
    | some y =>
      rw [h'] at ei
      cases ei
  | some x =>
    rw [h] at ei
    cases h' : us[i]? with
    | none =>
      rw [h'] at ei
      cases ei
    | some y =>
      rw [h'] at ei
      have e1 : x.1 = y.1 := Option.some.inj ei
      have mx : x ∈ us := p.mem_iff.mp (List.mem_of_getElem? h)
      have my : y ∈ us := List.mem_of_getElem? h'
      have : x = y := by
        have pw := List.pairwise_map.mp (List.nodup_iff_pairwise_ne.mp ou)
        exact Classical.byContradiction fun ne => by
          obtain ⟨j, hj⟩ := List.mem_iff_getElem?.mp mx
          have lj := (List.getElem?_eq_some_iff.mp hj).1
          have li := (List.getElem?_eq_some_iff.mp h').1
          have ej := (List.getElem?_eq_some_iff.mp hj).2
          have eii := (List.getElem?_eq_some_iff.mp h').2
          rcases Nat.lt_trichotomy i j with c | c | c
          · exact (List.pairwise_iff_getElem.mp pw i j li lj c) (by rw [eii, ej, e1])
          · subst c
            exact ne (ej.symm.trans eii)
          · exact (List.pairwise_iff_getElem.mp pw j i lj li c) (by rw [eii, ej, e1])
      rw [this]
end FT


/-! what witness tells; parents turned about -/
namespace FT
open PySem L2 TL ClX LiI
def wD (ts : List (Str × Str)) (n : Int) : PyData := .list [dcD (szEn (ts.map Prod.fst) (wW ts n 0)), dcD (szEn (ts.map Prod.fst) (wW ts n 1)), dcD (szEn (ts.map Prod.fst) (wW ts n 2))]
/-- what witness answers -/
inductive Told (ts : List (Str × Str)) (n : Int) (H : Hp) : V → PyData → Prop
  | none : memC ts (.int n) = true → Told ts n H .non .none
  | some {R q0 q1 q2 : Addr} : memC ts (.int n) = false → H R = some (.lst [.ref q0, .ref q1, .ref q2]) → H q0 = some (.dK (tblI (ts.map Prod.fst) (wW ts n 0))) → H q1 = some (.dK (tblI (ts.map Prod.fst) (wW ts n 1))) → H q2 = some (.dK (tblI (ts.map Prod.fst) (wW ts n 2))) → Told ts n H (.ref R) (wD ts n)
section
variable {ts : List (Str × Str)} {n : Int} {H H' : Hp} {v : V} {d : PyData}
theorem Told.mono (h : Told ts n H v d) (s : Same H H') : Told ts n H' v d := by
  cases h with
  | none e => exact .none e
  | some e h h0 h1 h2 => exact .some e (s _ _ h) (s _ _ h0) (s _ _ h1) (s _ _ h2)
theorem Told.non (h : Told ts n H v d) : decide (v = .non) = memC ts (.int n) := by
  cases h with
  | none e => rw [e] <;> rfl
  | some e => rw [e] <;> rfl
theorem Told.one {v' : V} {d' : PyData} (h : Told ts n H v d) (h' : Told ts n H' v' d') : d = d' := by
  cases h with
  | none e =>
    cases h' with
    | none => rfl
    | some e' => rw [e] at e'; cases e'
  | some e =>
    cases h' with
    | none e' => rw [e] at e'; cases e'
    | some => rfl
theorem DRE.of : ∀ {es : List EntD} {K : PySem.W.Frag} {H : Hp}, (∀ e ∈ es, Dp K H e.2.1 e.2.2 ∧ e.2.2.hasDict = false) → DRE K H es
  | [], _, _, _ => .nil
  | (k, v, d) :: es, K, H, h => .cons (.dat (h (k, v, d) List.mem_cons_self).1 (h (k, v, d) List.mem_cons_self).2) (DRE.of fun e he => h e (List.mem_cons_of_mem _ he))
theorem Told.repr {K : PySem.W.Frag} (o : TreeOk ts) (n1 : 1 ≤ n) (n3 : n ≤ 60) (h : Told ts n H v d) : DR K H v d ∧ d.showable = true ∧ d.depth ≤ 60 ∧ d.shown.length ≤ sizeLine := by
  cases h with
  | none e => exact ⟨.dat .non rfl, rfl, by decide, by decide⟩
  | some e h h0 h1 h2 =>
    have uo : usersOk (.int n) (10 ^ 30) = true := by
      show (decide (1 ≤ n) && decide (n ≤ 10 ^ 30)) = true
      rw [decide_eq_true n1, decide_eq_true (by omega)] <;> rfl
    obtain ⟨n2, nt⟩ := mem_no uo e
    have bn : ∀ i, i < 3 → ∀ a ∈ ts.map Prod.fst, 0 ≤ wW ts n i a ∧ wW ts n i a ≤ 60 := fun i hi a ha => by
      have f := wit_fea o nt n2 i hi
      have := fea_leW o f a ha
      exact ⟨f.nn a ha, by omega⟩
    have few := o.few
    have kv : ∀ i, i < 3 → PyData.showableKv (szKv (ts.map Prod.fst) (wW ts n i)) = true ∧ PyData.leavesShortKv 8 (szKv (ts.map Prod.fst) (wW ts n i)) = true ∧ PyData.depthKv (szKv (ts.map Prod.fst) (wW ts n i)) ≤ 1 ∧ PyData.bulkKv (szKv (ts.map Prod.fst) (wW ts n i)) ≤ 70 * (ts.map Prod.fst).length := fun i hi =>
      szKv_show fun a ha => ⟨strOk_name (o.nm a ha), (o.nm a ha).len.2, bn i hi a ha⟩
    have dr : ∀ i, i < 3 → ∀ {q : Addr}, H q = Option.some (.dK (tblI (ts.map Prod.fst) (wW ts n i))) → DR K H (.ref q) (dcD (szEn (ts.map Prod.fst) (wW ts n i))) := fun i hi q hq => by
      obtain ⟨a1, a2, _⟩ := sz_repr (K := K) o (.refl _) (bn i hi) hq
      exact .dict a1 (DRE.of a2)
    obtain ⟨a1, a2, a3, a4⟩ := kv 0 (by decide)
    obtain ⟨b1, b2, b3, b4⟩ := kv 1 (by decide)
    obtain ⟨c1, c2, c3, c4⟩ := kv 2 (by decide)
    rw [List.length_map] at a4 b4 c4
    refine ⟨.list (SqL.of h) (.cons (dr 0 (by decide) h0) (.cons (dr 1 (by decide) h1) (.cons (dr 2 (by decide) h2) .nil))), ?_, ?_, ?_⟩
    · unfold wD
      rw [szEn_D, szEn_D, szEn_D]
      show (PyData.showableKv _ && (PyData.showableKv _ && (PyData.showableKv _ && true))) = true
      rw [a1, b1, c1] <;> rfl
    · unfold wD
      rw [szEn_D, szEn_D, szEn_D]
      show max (PyData.depthKv _ + 1) (max (PyData.depthKv _ + 1) (max (PyData.depthKv _ + 1) 0)) + 1 ≤ 60
      omega
    · unfold wD
      rw [szEn_D, szEn_D, szEn_D]
      refine PyData.shown_fits_bulk (B := 8) (by decide) (by decide) ?_ ?_
      · show (PyData.leavesShortKv 8 _ && (PyData.leavesShortKv 8 _ && (PyData.leavesShortKv 8 _ && true))) = true
        rw [a2, b2, c2] <;> rfl
      · have big : (70 * 12 + 100) * 3 + 100 ≤ 2 ^ 20 := by decide
        refine Nat.le_trans (m := 70 * ts.length + 70 * ts.length + 70 * ts.length + 100) ?_ (by omega)
        simp only [PyData.bulk, PyData.bulkAll]
        omega
def spFlipP : Sp := fun vs H Q _ => ∃ (q : Addr) (t : List (Str × Str)), vs = [.ref q] ∧ H q = some (.dK (prs t)) ∧ (t.map Prod.fst).Nodup ∧ t.length ≤ 64 ∧ ∀ (p : Addr) (H' : Hp), Same H H' → H p = none → H' p = some (.dK (prs t.reverse)) → Q (.ref p) H'
end
section
variable {P : Program} {w : World} {K : PySem.W.Frag} {mg : Str → Option Value} {base : Heap}
theorem scFp : FnScope ["_law_some"] ["_law_some"] (defScope s__law_flipped) := ⟨rfl, rfl, rfl, by decide +kernel, rfl, by decide +kernel, by decide +kernel⟩
theorem ok_flipP {f : Addr} {fd : FuncData} (F : Fun K "_law_flipped" "_law_flipped" s__law_flipped f fd) (T : Nm mg) : FnOk P w K mg base CX0 1 f fd ["_law_some"] spFlipP := by
  refine F.ok scFp (fun vs H Q E h => ?_) (fun cdv A outer s H vs Q E hr h => ?_)
  · obtain ⟨q, t, rfl, _⟩ := h
    rfl
  · obtain ⟨q, t, rfl, hq, nd, few, k⟩ := h
    have hu := hu_of hr
    have big : 1000 ≤ sizeLine := by decide
    refine ⟨_, pss_one (ps_ret (pe_callTy (call_dictP rfl) (by rfl) T.dct (by decide +kernel) (pa_cons (pe_revL (pe_listItems rfl (pv 0) (by rfl) T.lst (by decide +kernel))) pa_nil))), ?_⟩
    refine ⟨_, rfl, q, _, rfl, hq, fun H1 p1 ts s1 np1 nts pts hp1 prd => ⟨p1, _, rfl, SqL.of hp1, fun p2 np2 => ?_⟩⟩
    have s2 := same_new (o := .lst (ts.map V.ref).reverse) np2
    have s12 : Same H (upd H1 p2 (.lst (ts.map V.ref).reverse)) := Same.trans (fun b o e => s1 b o e) s2
    refine ⟨p2, ts.reverse, (prs t).reverse, rfl, SqL.of (by rw [upd_same, List.map_reverse]), pair_imp (fun t kv e => .inl (.inl (s2 _ _ e))) (pair_rev prd), fun p3 np3 => ?_⟩
    have er : (prs t).reverse = prs t.reverse := by
      unfold prs kvT
      rw [← List.map_reverse, ← List.map_reverse]
    rw [er]
    have em : mergeK [] (prs t.reverse) = prs t.reverse := merge_nd (by rw [prs_fst, List.map_reverse]; exact (List.reverse_perm _).nodup_iff.mpr nd)
    rw [em]
    exact k p3 _ (s12.trans (same_new np3)) (s12.free np3) upd_same
end
end FT


/-! Own: list(zip(a, b)) of two lists, as a value. -/
namespace ZlI
open PySem PySem.Calls PySem.Spec PyProof.Rows PySem.W L2
structure ZlSt (h : Heap) (z TI TO i1 i2 l1 l2 S : Addr) (xs ys : Array Value) (i : Nat) : Prop where
  ti : IsPair h TI (.ref i1) (.ref i2)
  h1 : h.IsListIter i1 l1 i
  h2 : h.IsListIter i2 l2 i
  a1 : h.IsList l1 xs
  a2 : h.IsList l2 ys
  zz : (IsZip h z TI TO .none ∧ ∃ a b, IsPair h TO a b) ∨ ∃ T f oT, IsZipHeld h z TI TO T f ∧ h.get? T = some oT ∧ T ≠ z ∧ T ≠ TO ∧ T ≠ i1 ∧ T ≠ i2 ∧ T ≠ S
structure ZlLow (z TI TO i1 i2 l1 l2 S : Addr) : Prop where
  z : z < S
  TI : TI < S
  TO : TO < S
  i1 : i1 < S
  i2 : i2 < S
  l1 : l1 < S
  l2 : l2 < S
section
variable {z TI TO i1 i2 l1 l2 S : Addr} {xs ys : Array Value} {i : Nat}
theorem list_at {h h' : Heap} {l : Addr} {xs : Array Value} (a : h.IsList l xs) (k : ∀ o, h.get? l = some o → h'.get? l = some o) : h'.IsList l xs := let ⟨o, e, r⟩ := a; ⟨o, k o e, r⟩
theorem iter_at {h h' : Heap} {l a : Addr} {i : Nat} (x : h.IsListIter a l i) (k : ∀ o, h.get? a = some o → h'.get? a = some o) : h'.IsListIter a l i := let ⟨o, e, r⟩ := x; ⟨o, k o e, r⟩
theorem ZlSt.keep {h h' : Heap} (x : ZlSt h z TI TO i1 i2 l1 l2 S xs ys i) (L : ZlLow z TI TO i1 i2 l1 l2 S) (k : ∀ b o, b ≠ S → h.get? b = some o → h'.get? b = some o) : ZlSt h' z TI TO i1 i2 l1 l2 S xs ys i := by
  refine ⟨k _ _ (Nat.ne_of_lt L.TI) x.ti, iter_at x.h1 fun o e => k _ _ (Nat.ne_of_lt L.i1) e, iter_at x.h2 fun o e => k _ _ (Nat.ne_of_lt L.i2) e, list_at x.a1 fun o e => k _ _ (Nat.ne_of_lt L.l1) e, list_at x.a2 fun o e => k _ _ (Nat.ne_of_lt L.l2) e, ?_⟩
  rcases x.zz with ⟨z1, a, b, z2⟩ | ⟨T, f, oT, z1, z2, n1, n2, n3, n4, n5⟩
  · exact .inl ⟨k _ _ (Nat.ne_of_lt L.z) z1, a, b, k _ _ (Nat.ne_of_lt L.TO) z2⟩
  · exact .inr ⟨T, f, oT, k _ _ (Nat.ne_of_lt L.z) z1, k _ _ n5 z2, n1, n2, n3, n4, n5⟩
variable {prog : Program} {w : World} {A : Around} {E : Value → Shared → Prop} {s : Shared}
structure ZlG (xs ys : Array Value) (lo : Addr) (h : Heap) (as : List Addr) : Prop where
  rise : as.Pairwise (· < ·)
  above : ∀ a ∈ as, lo < a
  pairs : ∀ (j : Nat) (a : Addr), as[j]? = some a → ∃ x y, xs[j]? = some x ∧ ys[j]? = some y ∧ IsPair h a x y
theorem ZlG.there {lo : Addr} {h : Heap} {as : List Addr} (g : ZlG xs ys lo h as) {a : Addr} (ha : a ∈ as) : a < h.objs.size := by
  obtain ⟨j, hj⟩ := List.mem_iff_getElem?.mp ha
  obtain ⟨_, _, _, _, e⟩ := g.pairs j a hj
  exact Heap.lt_size e
end
section
variable {z TI TO i1 i2 l1 l2 S : Addr} {xs ys : Array Value} {prog : Program} {w : World} {A : Around} {s : Shared} {R : Result → Shared → Prop}
end
section
variable {z TI TO i1 i2 l1 l2 : Addr} {xs ys : Array Value} {prog : Program} {w : World} {A : Around} {E : Value → Shared → Prop} {s : Shared}
/-- the zip as it is made -/
structure ZlNew (h : Heap) (z TI TO i1 i2 l1 l2 : Addr) (xs ys : Array Value) : Prop where
  zz : IsZip h z TI TO .none
  ti : IsPair h TI (.ref i1) (.ref i2)
  to : ∃ a b, IsPair h TO a b
  h1 : h.IsListIter i1 l1 0
  h2 : h.IsListIter i2 l2 0
  a1 : h.IsList l1 xs
  a2 : h.IsList l2 ys
theorem ZlNew.low {h : Heap} (x : ZlNew h z TI TO i1 i2 l1 l2 xs ys) {S : Addr} (hS : h.objs.size ≤ S) : ZlLow z TI TO i1 i2 l1 l2 S := by
  obtain ⟨a, b, t⟩ := x.to
  obtain ⟨o1, e1, _⟩ := x.h1
  obtain ⟨o2, e2, _⟩ := x.h2
  obtain ⟨o3, e3, _⟩ := x.a1
  obtain ⟨o4, e4, _⟩ := x.a2
  have lt : ∀ {c : Addr} {o : Obj}, h.get? c = some o → c < S := fun e => Nat.lt_of_lt_of_le (Heap.lt_size e) hS
  exact ⟨lt x.zz, lt x.ti, lt t, lt e1, lt e2, lt e3, lt e4⟩
theorem ZlNew.st {h h' : Heap} {S : Addr} (x : ZlNew h z TI TO i1 i2 l1 l2 xs ys) (k : ∀ b o, h.get? b = some o → h'.get? b = some o) : ZlSt h' z TI TO i1 i2 l1 l2 S xs ys 0 := by
  obtain ⟨a, b, t⟩ := x.to
  exact ⟨k _ _ x.ti, iter_at x.h1 fun o e => k _ _ e, iter_at x.h2 fun o e => k _ _ e, list_at x.a1 fun o e => k _ _ e, list_at x.a2 fun o e => k _ _ e, .inl ⟨k _ _ x.zz, a, b, k _ _ t⟩⟩
end
end ZlI


namespace ZlI
open PySem PySem.Calls PySem.Spec PyProof.Rows L2 LiI
def putP : Hp → List Addr → List (V × V) → Hp
  | H, a :: as, p :: kvs => putP (upd H a (.tup [p.1, p.2])) as kvs
  | H, _, _ => H
def tListZip (K : PySem.W.Frag) (ta : TA) : TE := fun σ H Q => ta σ H fun vs H1 => ∃ (a b : Addr) (xs ys : List V), vs = [.ref a, .ref b] ∧ SqL K H1 a xs ∧ SqL K H1 b ys ∧
  ∀ (H' : Hp) (p : Addr) (ts : List Addr), (∀ b o, H1 b = some o → H' b = some o) → H1 p = none → (∀ t ∈ ts, H1 t = none) → p ∉ ts → H' p = some (.lst (ts.map V.ref)) → Paired (fun (t : Addr) (q : V × V) => H' t = some (.tup [q.1, q.2])) ts (xs.zip ys) → Q (.ref p) H'
section
variable {X : Cx}
end
end ZlI


/-! data stays where all stays -/
namespace FT
open PySem L2 TL ClX
mutual
theorem dp_up {K : PySem.W.Frag} {H H' : Hp} (s : Same H H') : ∀ (d : PyData) (v : V), Dp K H v d → Dp K H' v d
  | .none, _, .non => .non
  | .bool _, _, .bl b => .bl b
  | .int _, _, .int i => .int i
  | .str _, _, .str x => .str x
  | .list ds, _, .lst h q => .lst (Same.sql s h) (dps_up s ds _ q)
  | .tuple ds, _, .tup h q => .tup (Same.sqt s h) (dps_up s ds _ q)
theorem dps_up {K : PySem.W.Frag} {H H' : Hp} (s : Same H H') : ∀ (ds : List PyData) (vs : List V), DpAll K H vs ds → DpAll K H' vs ds
  | [], _, .nil => .nil
  | d :: ds, _, .cons h q => .cons (dp_up s d _ h) (dps_up s ds _ q)
end
end FT


/-! pairs of bools as data; which users have a flag -/
namespace FT
open PySem L2 TL ClX LiI
def twoB (x y : Bool) : PyData := .tuple [.bool x, .bool y]
/-- has the flag, by user -/
def onB (t : List (Str × Str)) (zs : List Str) (a : Str) : List Bool := zs.map fun z => decide (a ∈ pathOf t z)
end FT


/-! _law_agree of k24 -/
namespace FT
open PySem L2 TL ClX LiI
def stpA (t : List (Str × Str)) (p g a : Str) : Int := (if a ∈ pathOf t g then 1 else 0) - (if a ∈ pathOf t p then 1 else 0)
/-- one flag, one pair of the three -/
def okA (t : List (Str × Str)) (s : Nat → Str → Int) (z : Nat → Str) (a : Str) (ij : Nat × Nat) : Prop := ¬ stpA t (z ij.1) (z ij.2) a * (s ij.2 a - s ij.1 a) < 0 ∧ (s ij.2 a - s ij.1 a = 0 → stpA t (z ij.1) (z ij.2) a = 0)
def prs3 : List (Nat × Nat) := [(0, 1), (0, 2), (1, 2)]
/-- the sizes of three, at three addresses of a list -/
structure Three (lo : List Str) (s : Nat → Str → Int) (H : Hp) (R : Addr) (q : Nat → Addr) : Prop where
  hR : H R = some (.lst [.ref (q 0), .ref (q 1), .ref (q 2)])
  hq : ∀ i, i < 3 → H (q i) = some (.dK (tblI lo (s i)))
theorem Three.mono {lo : List Str} {s : Nat → Str → Int} {H H' : Hp} {R : Addr} {q : Nat → Addr} (h : Three lo s H R q) (sm : Same H H') : Three lo s H' R q := ⟨sm _ _ h.hR, fun i hi => sm _ _ (h.hq i hi)⟩
def spAgree : Sp := fun vs H Q _ => ∃ (q Rt tp : Addr) (qi : Nat → Addr) (t : List (Str × Str)) (lo : List Str) (s : Nat → Str → Int) (z : Nat → Str), vs = [.ref q, .ref Rt, .ref tp] ∧ H q = some (.dK (prs t)) ∧ TreeOk t ∧ Three lo s H Rt qi ∧ lo.Perm (t.map Prod.fst) ∧ H tp = some (.tup [.str (z 0), .str (z 1), .str (z 2)]) ∧ (∀ i, i < 3 → Pl t (z i)) ∧
  ∀ (b : Bool) (H' : Hp), Same H H' → (b = true → ∀ a ∈ t.map Prod.fst, ∀ ij ∈ prs3, okA t s z a ij) → Q (.bl b) H'
theorem ne_prs {t : List (Str × Str)} {b q : Addr} {l : List Str} {g : Str → Int} {H : Hp} (o : TreeOk t) (h1 : H b = some (.dK (tblI l g))) (h2 : H q = some (.dK (prs t))) : b ≠ q := fun e => by
  rw [e, h2] at h1
  have h3 : prs t = tblI l g := by injection (Option.some.inj h1)
  have one := o.one
  cases t with
  | nil => exact absurd one (by decide)
  | cons x t' =>
    cases l with
    | nil => cases h3
    | cons y l'' => cases (Option.some.inj (congrArg List.head? h3 : some ((Sum.inr x.1 : Key), V.str x.2) = some (Sum.inr y, V.int (g y))))
abbrev NAg : List Str := ["_law_parents", "_law_three", "_law_places", "_law_paths", "_law_name", "_law_one", "_law_other", "_law_gets", "_law_step", "_law_place"]
section
variable {P : Program} {w : World} {K : PySem.W.Frag} {mg : Str → Option Value} {base : Heap}
theorem scAg : FnScope NAg ["_law_parents", "_law_three", "_law_places"] (defScope s__law_agree) := ⟨rfl, rfl, rfl, by decide +kernel, rfl, by decide +kernel, by decide +kernel⟩
theorem ok_agree {f fP : Addr} {fd fdP : FuncData} (F : Fun K "_law_agree" "_law_agree" s__law_agree f fd) (T : Nm mg) (DP : Dn P w K mg base CX0 1 "_law_path" ["_law_parents", "_law_place"] spPathL fP fdP) : FnOk P w K mg base CX0 2 f fd ["_law_parents", "_law_three", "_law_places"] spAgree := by
  refine F.ok scAg (fun vs H Q E h => ?_) (fun cdv A outer s0 H vs Q E hr h => ?_)
  · obtain ⟨q, Rt, tp, qi, t, lo, s, z, rfl, _⟩ := h
    rfl
  · obtain ⟨q, Rt, tp, qi, t, lo, s, z, rfl, hq, o, th, plo, htp, pl, k⟩ := h
    have hu := hu_of hr
    have hr1 : Room 1 _ := hr.mono (by decide)
    have nd := scAg.nd
    have big : 1000 ≤ sizeLine := by decide
    have few := o.few
    refine ⟨_, pss_cons (ps_setLc (i := 3) (own := [("_law_place", 9)]) (g := gName 9) (tt := tYes) (te := tCall spPathL [] E0 (tCons (tVar 0) (tCons (tVar 9) tNil))) rfl nd rfl rfl (sw_true rfl rfl rfl (by decide +kernel)) (pi_tup (pv 2)) (blkOk_by (N := NAg) (sc := defScope s__law_agree) (by decide +kernel)) (fun _ _ _ _ _ => pg_name (i := 9) nd rfl (Or.inl rfl))
          (fun _ _ _ _ _ => pts_nil) (fun _ _ _ _ _ => pe_call DP.ok hr1 rfl DP.mgn DP.kp DP.bn .nil pass0 (pa_cons (pv 0) (pa_cons (pv 9) pa_nil))))
      (pss_cons (ps_lock (ps_for PassesOwn.never rfl (pi_keys (pv 0)) (pg_name (i := 4) nd rfl (.inl rfl))
        (pss_one (ps_for PassesOwn.never rfl (pi_list (pe_lst (pa_cons (pe_tup (pa_cons pe_int (pa_cons pe_int pa_nil))) (pa_cons (pe_tup (pa_cons pe_int (pa_cons pe_int pa_nil))) (pa_cons (pe_tup (pa_cons pe_int (pa_cons pe_int pa_nil))) pa_nil))))) (pg_tup rfl (pgs_cons (pg_name (i := 5) nd rfl (.inl rfl)) (pgs_cons (pg_name (i := 6) nd rfl (.inl rfl)) pgs_nil)))
          (pss_cons (ps_set (i := 7) nd rfl (.inl rfl) (pe_op op_sub (pe_dget hu (pe_ix ix_list (pv 1) (pv 6) (fun _ _ => rfl)) (pv 4) (fun _ _ => rfl)) (pe_dget hu (pe_ix ix_list (pv 1) (pv 5) (fun _ _ => rfl)) (pv 4) (fun _ _ => rfl))))
          (pss_cons (ps_set (i := 8) nd rfl (.inl rfl) (pe_op op_sub (pe_callTy call_int1 (by rfl) T.int (by decide +kernel) (pa_cons (pe_cmpR op_in_seq (pv 4) (pe_ix ix_list (pv 3) (pv 6) (fun _ _ => rfl)) rfl) pa_nil)) (pe_callTy call_int1 (by rfl) T.int (by decide +kernel) (pa_cons (pe_cmpR op_in_seq (pv 4) (pe_ix ix_list (pv 3) (pv 5) (fun _ _ => rfl)) rfl) pa_nil))))
          (pss_one (ps_if (PW.pt (pw_or (pt_cmpR op_lt (pe_op op_mul (pv 8) (pv 7)) pe_int (nomark _)) (pw_or1 (PW.pt (pw_and (pt_cmpR op_eq (pv 7) pe_int (nomark _)) (pw_and1 (pt_cmpR op_ne (pv 8) pe_int (nomark _)))))))) (pss_one (ps_ret pe_bl)) pss_nil))))))))
      (pss_one (ps_ret pe_bl))), ?_⟩
    -- the paths
    refine ⟨_, rfl, tp, rfl, ⟨_, SqT.of htp⟩, fun D nD => ?_⟩
    have hz : ∀ j, j < 3 → ([V.str (z 0), .str (z 1), .str (z 2)] : List V)[j]? = some (.str (z j)) := fun j hj => match j, hj with
      | 0, _ => rfl
      | 1, _ => rfl
      | 2, _ => rfl
    have hR : ∀ (v : Nat → Addr) j, j < 3 → ([V.ref (v 0), .ref (v 1), .ref (v 2)] : List V)[j]? = some (.ref (v j)) := fun v j hj => match j, hj with
      | 0, _ => rfl
      | 1, _ => rfl
      | 2, _ => rfl
    refine lc_it walk_tup (fun j H' => Same H H' ∧ ∃ ps : Nat → Addr, H' D = some (.lst (((List.range j).map ps).map V.ref)) ∧ ∀ i, i < j → H' (ps i) = some (.lst ((pathOf t (z i)).reverse.map V.str)) ∧ ps i ≠ D) ⟨same_new nD, fun _ => 0, upd_same, fun i hi => absurd hi (Nat.not_lt_zero i)⟩ (fun j H' _ c => SqT.of (c.1 _ _ htp)) ?_ ?_
    · intro j y Ha Hb hj ⟨sa, ps, hD, hps⟩ ⟨eb, ey⟩
      subst eb
      have j3 : j < 3 := hj
      rw [hz j j3] at ey
      cases ey
      refine ⟨rfl, ?_⟩
      refine ⟨_, rfl, _, rfl, q, z j, t, rfl, .inl (sa _ _ hq), o, pl j j3, fun p Hc sc np hp => ?_⟩
      have Dp : D ≠ p := ne_of_none hD np
      refine ⟨_, sc _ _ hD, by rw [List.length_map, List.length_map, List.length_range]; omega, (sa.trans sc).put nD, fun i => if i = j then p else ps i, ?_, fun i hi => ?_⟩
      · rw [upd_same, List.range_succ, List.map_append, List.map_append]
        congr 3
        · refine congrArg (List.map V.ref) (List.map_congr_left fun i hi => ?_)
          rw [if_neg]
          have := List.mem_range.mp hi
          omega
        · show [V.ref p] = [V.ref (if j = j then p else ps j)]
          rw [if_pos rfl]
      · show (upd Hc D _) (if i = j then p else ps i) = _ ∧ (if i = j then p else ps i) ≠ D
        by_cases e : i = j
        · rw [if_pos e, upd_ne Dp.symm, e]
          exact ⟨hp, Dp.symm⟩
        · rw [if_neg e]
          obtain ⟨g1, g2⟩ := hps i (by omega)
          exact ⟨by rw [upd_ne g2]; exact sc _ _ g1, g2⟩
    intro H1 ⟨s1, ps, hD1, hps⟩
    have hD1' : H1 D = some (.lst [.ref (ps 0), .ref (ps 1), .ref (ps 2)]) := hD1
    have hq1 := s1 _ _ hq
    have th1 := th.mono s1
    -- flag by flag
    refine ⟨q, _, hq1, trivial, fun od => ⟨_, rfl, q, od, rfl, .inl ⟨_, upd_same, ?_⟩⟩⟩
    obtain ⟨HL, eHL⟩ : ∃ X, X = upd H1 q (.frz od (.dK (prs t))) := ⟨_, rfl⟩
    have hqL : HL q = some (.frz od (.dK (prs t))) := by rw [eHL]; exact upd_same
    have offq : ∀ {b : Addr} {u : HO}, H1 b = some u → b ≠ q → HL b = some u := fun e n => by rw [eHL, upd_ne n]; exact e
    have thL : Three lo s HL Rt qi := ⟨offq th1.hR (ne_of th1.hR hq1 (by intro z; cases z)), fun i hi => offq (th1.hq i hi) (ne_prs o (th1.hq i hi) hq1)⟩
    have hDL : HL D = some (.lst [.ref (ps 0), .ref (ps 1), .ref (ps 2)]) := offq hD1' (ne_of hD1' hq1 (by intro z; cases z))
    have hpL : ∀ i, i < 3 → HL (ps i) = some (.lst ((pathOf t (z i)).reverse.map V.str)) := fun i hi => offq (hps i hi).1 (ne_of (hps i hi).1 hq1 (by intro z; cases z))
    rw [← eHL]
    have out : ∀ (b : Bool) {Hx : Hp}, Same HL Hx → (b = true → ∀ a ∈ t.map Prod.fst, ∀ ij ∈ prs3, okA t s z a ij) → Hx q = some (.frz od (.dK (prs t))) ∧ Q (.bl b) (upd Hx q (.dK (prs t))) := fun b Hx sx hb => by
      refine ⟨sx _ _ hqL, k b _ (fun c u e => ?_) hb⟩
      by_cases w : c = q
      · rw [w] at e ⊢
        rw [upd_same, ← e, hq]
      · rw [upd_ne w]
        exact sx _ _ (offq (s1 _ _ e) w)
    refine for_it walk_keys (fun i σ' H' => (∃ u4 u5 u6 u7 u8, σ' = [some (.ref q), some (.ref Rt), some (.ref tp), some (.ref D), u4, u5, u6, u7, u8, none]) ∧ Same HL H' ∧ ∀ a ∈ (t.map Prod.fst).take i, ∀ ij ∈ prs3, okA t s z a ij) ⟨⟨_, _, _, _, _, rfl⟩, Same.refl, fun a ha => by rw [List.take_zero] at ha; cases ha⟩ (fun i σ' H' _ c => c.2.1 _ _ hqL) ?_ ?_
    · intro i yv σ' Hb Hc hi ⟨⟨v4, v5, v6, v7, v8, e⟩, sa, oks⟩ ⟨eb, kk, vv, hk, ey⟩
      subst e
      subst eb
      subst ey
      obtain ⟨a, pa, rfl, rfl, hpp⟩ := keys_walkW hk
      rw [show kV (Sum.inr a) = V.str a from rfl]
      have ha : (t.map Prod.fst)[i]? = some a := by rw [List.getElem?_map, hpp] <;> rfl
      have ma := List.mem_of_getElem? ha
      refine ⟨by show 2 ≤ sizeLine; omega, fun u1 nu1 => ⟨by show 2 ≤ sizeLine; omega, fun u2 nu2 => ⟨by show 2 ≤ sizeLine; omega, fun u3 nu3 => ⟨by show 3 ≤ sizeLine; omega, fun ul nul => ⟨ul, rfl, ⟨_, SqL.of upd_same⟩, ?_⟩⟩⟩⟩⟩
      obtain ⟨H3, e3⟩ : ∃ X, X = upd (upd (upd (upd Hc u1 (.tup [.int 0, .int 1])) u2 (.tup [.int 0, .int 2])) u3 (.tup [.int 1, .int 2])) ul (.lst [.ref u1, .ref u2, .ref u3]) := ⟨_, rfl⟩
      have w1 := same_new (o := .tup [.int 0, .int 1]) nu1
      have w2 := same_new (o := .tup [.int 0, .int 2]) nu2
      have w3 := same_new (o := .tup [.int 1, .int 2]) nu3
      have w4 := same_new (o := .lst [.ref u1, .ref u2, .ref u3]) nul
      have sc3 : Same Hc H3 := e3 ▸ ((w1.trans w2).trans w3).trans w4
      have g1 : H3 u1 = some (.tup [.int 0, .int 1]) := e3 ▸ w4 _ _ (w3 _ _ (w2 _ _ upd_same))
      have g2 : H3 u2 = some (.tup [.int 0, .int 2]) := e3 ▸ w4 _ _ (w3 _ _ upd_same)
      have g3 : H3 u3 = some (.tup [.int 1, .int 2]) := e3 ▸ w4 _ _ upd_same
      have gl : H3 ul = some (.lst [.ref u1, .ref u2, .ref u3]) := e3 ▸ upd_same
      rw [← e3]
      clear e3 w1 w2 w3 w4 nu1 nu2 nu3 nul
      have s3 := sa.trans sc3
      have get : ∀ j, j < 3 → ∃ (u : Addr) (i1 i2 : Nat), ([V.ref u1, .ref u2, .ref u3] : List V)[j]? = some (.ref u) ∧ H3 u = some (.tup [.int (i1 : Int), .int (i2 : Int)]) ∧ i1 < 3 ∧ i2 < 3 ∧ prs3[j]? = some (i1, i2) := fun j hj => match j, hj with
        | 0, _ => ⟨u1, 0, 1, rfl, g1, by decide, by decide, rfl⟩
        | 1, _ => ⟨u2, 0, 2, rfl, g2, by decide, by decide, rfl⟩
        | 2, _ => ⟨u3, 1, 2, rfl, g3, by decide, by decide, rfl⟩
      refine for_it walk_list (fun j σ' H' => (∃ u5 u6 u7 u8, σ' = [some (.ref q), some (.ref Rt), some (.ref tp), some (.ref D), some (.str a), u5, u6, u7, u8, none]) ∧ Same H3 H' ∧ ∀ ij ∈ prs3.take j, okA t s z a ij) ⟨⟨_, _, _, _, rfl⟩, Same.refl, fun ij h => by rw [List.take_zero] at h; cases h⟩ (fun j σ' H' _ c => SqL.of (c.2.1 _ _ gl)) ?_ ?_
      · intro j yv σ' Hd He hj ⟨⟨v5, v6, v7, v8, e⟩, sd, okj⟩ ⟨eb, ey⟩
        subst e
        subst eb
        obtain ⟨u, i1, i2, eu, hu', l1, l2, ep⟩ := get j hj
        rw [eu] at ey
        cases ey
        have s4 := s3.trans sd
        have thE := thL.mono s4
        refine ⟨u, _, rfl, .inl (.inl (sd _ _ hu')), rfl, _, _, rfl, _, _, rfl, rfl, ?_⟩
        have dg : ∀ {j' : Nat}, j' < 3 → DGet He (qi j') (.str a) (some (.int (s j' a))) := fun hj' => by
          have c := DGet.k (k := Sum.inr a) (thE.hq _ hj')
          rw [tblI_val (plo.mem_iff.mpr ma)] at c
          exact c
        refine ⟨_, rfl, _, rfl, Rt, _, _, _, rfl, rfl, SqL.of thE.hR, atI_nat (hR qi i2 l2), _, rfl, qi i2, _, rfl, dg l2, ?_⟩
        refine ⟨_, rfl, _, rfl, Rt, _, _, _, rfl, rfl, SqL.of thE.hR, atI_nat (hR qi i1 l1), _, rfl, qi i1, _, rfl, dg l1, _, _, rfl, rfl, ?_⟩
        refine ⟨_, rfl, _, rfl, _, rfl, D, _, _, _, rfl, rfl, SqL.of (s4 _ _ hDL), atI_nat (hR ps i2 l2), ps i2, _, rfl, .inl (SqL.of (s4 _ _ (hpL i2 l2))), rfl, flat_strs _, ?_⟩
        rw [show (if false = true then !inV (V.str a) ((pathOf t (z i2)).reverse.map V.str) else inV (V.str a) ((pathOf t (z i2)).reverse.map V.str)) = decide (a ∈ pathOf t (z i2)) from (inV_strs a _).trans (by rw [Bool.eq_iff_iff]; simp)]
        refine .inr ⟨_, rfl, ?_⟩
        refine ⟨_, rfl, _, rfl, _, rfl, D, _, _, _, rfl, rfl, SqL.of (s4 _ _ hDL), atI_nat (hR ps i1 l1), ps i1, _, rfl, .inl (SqL.of (s4 _ _ (hpL i1 l1))), rfl, flat_strs _, ?_⟩
        rw [show (if false = true then !inV (V.str a) ((pathOf t (z i1)).reverse.map V.str) else inV (V.str a) ((pathOf t (z i1)).reverse.map V.str)) = decide (a ∈ pathOf t (z i1)) from (inV_strs a _).trans (by rw [Bool.eq_iff_iff]; simp)]
        refine .inr ⟨_, rfl, _, _, rfl, rfl, ?_⟩
        dsimp only [gName]
        obtain ⟨st, est⟩ : ∃ st : Int, st = stpA t (z i1) (z i2) a := ⟨_, rfl⟩
        obtain ⟨gv, eg⟩ : ∃ gv : Int, gv = s i2 a - s i1 a := ⟨_, rfl⟩
        show (_ : St → Hp → Prop) [some (.ref q), some (.ref Rt), some (.ref tp), some (.ref D), some (.str a), some (.int (i1 : Int)), some (.int (i2 : Int)), some (.int (s i2 a - s i1 a)), some (.int ((if decide (a ∈ pathOf t (z i2)) = true then 1 else 0) - (if decide (a ∈ pathOf t (z i1)) = true then 1 else 0))), none] He
        have e8 : ((if decide (a ∈ pathOf t (z i2)) = true then 1 else 0) - (if decide (a ∈ pathOf t (z i1)) = true then 1 else 0) : Int) = st := by
          rw [est]
          unfold stpA
          simp
        rw [e8, ← eg]
        have sb : -(2 ^ 64) < st ∧ st < 2 ^ 64 := by
          rw [est]
          unfold stpA
          split <;> split <;> constructor <;> decide
        refine ⟨_, rfl, _, rfl, _, _, rfl, rfl, .inl sb, _, _, rfl, rfl, _, rfl, ?_⟩
        have noA : okA t s z a (i1, i2) ↔ ¬ st * gv < 0 ∧ (gv = 0 → st = 0) := by
          unfold okA
          rw [← est, ← eg]
        have bad : Hc = Hc := rfl
        have out0 := out false s4 (fun h => by cases h)
        have fin : okA t s z a (i1, i2) → ∀ ij ∈ prs3.take (j + 1), okA t s z a ij := fun ok ij h => by
          rw [take_more ep] at h
          rcases List.mem_append.mp h with h | h
          · exact okj ij h
          · rw [List.mem_singleton.mp h]
            exact ok
        refine ite2 (fun yes => out0) fun no => ?_
        have n1 : ¬ st * gv < 0 := fun z => no (decide_eq_true z)
        refine ⟨_, rfl, rfl, _, rfl, ?_⟩
        refine ite2 (fun yes => ⟨_, rfl, rfl, _, rfl, ?_⟩) fun no2 => ⟨⟨_, _, _, _, rfl⟩, sd, fin (noA.mpr ⟨n1, fun z => absurd (decide_eq_true (show V.int gv = V.int 0 by rw [z])) no2⟩)⟩
        by_cases z0 : st = 0
        · rw [decide_eq_true (show V.int st = V.int 0 by rw [z0])]
          exact iteF ⟨⟨_, _, _, _, rfl⟩, sd, fin (noA.mpr ⟨n1, fun _ => z0⟩)⟩
        · rw [decide_eq_false (show ¬ V.int st = V.int 0 from fun c => z0 (V.int.inj c))]
          exact iteT out0
      · intro σ' H5 ⟨⟨v5, v6, v7, v8, e⟩, sd, okj⟩
        subst e
        refine ⟨⟨_, _, _, _, _, rfl⟩, s3.trans sd, fun b hb => ?_⟩
        rw [take_more ha] at hb
        rcases List.mem_append.mp hb with h | h
        · exact oks b h
        · rw [List.mem_singleton.mp h]
          exact okj
    · intro σ' H2 ⟨⟨v4, v5, v6, v7, v8, e⟩, sa, oks⟩
      subst e
      rw [prs_len, ← List.length_map (f := Prod.fst) (as := t), List.take_length] at oks
      obtain ⟨o1, o2⟩ := out true sa fun _ => oks
      exact ⟨o1, o2⟩
end
end FT


/-! d.values() as a value, sum of it -/
namespace L2
open PySem PySem.Spec PyProof.Rows
/-- at v: the view of the values of the dict at d -/
def VwO (v d : Addr) : HO := .ext fun h => h.get? v = some ({ cls := .type "dict_values", data := .fields #[.ref d] } : Obj)
theorem vwo_ok {P : Program} {w : World} {H : Hp} {h : Heap} {v d : Addr} (e : h.get? v = some ({ cls := .type "dict_values", data := .fields #[.ref d] } : Obj)) : ObjOk P w H h v (VwO v d) :=
  ⟨e, ⟨_, e⟩, fun h1 h2 z k => k _ z⟩
theorem vwo_at {P : Program} {w : World} {H : Hp} {h : Heap} {v d : Addr} (ok : HOk P w H h) (e : H v = some (VwO v d)) : h.get? v = some ({ cls := .type "dict_values", data := .fields #[.ref d] } : Obj) := by
  have x : ObjOk P w H h v (.ext fun h => h.get? v = some ({ cls := .type "dict_values", data := .fields #[.ref d] } : Obj)) := ok v _ e
  exact x.1
theorem preSum_list : ∀ ns : List Int, preSum (fun i => (ns[i]?).getD 0) ns.length = ns.sum
  | [] => rfl
  | n :: ns => by
    show preSum _ (ns.length + 1) = _
    rw [PySem.W.kdu_shift, List.sum_cons, ← preSum_list ns] <;> rfl
section
variable {X : Cx}
def rDVals : V → List V → Hp → VK → Prop := fun x xs H Q => ∃ (a : Addr) (kvs : List (Key × V)), x = .ref a ∧ xs = [] ∧ H a = some (.dK kvs) ∧ ∀ v, H v = none → Q (.ref v) (upd H v (VwO v a))
theorem mt_dvals : MtR X "dict.values" rDVals := by
  intro pins s σ H x xs v us Q I rx rxs ⟨a, kvs, ex, exs, e, q⟩
  subst ex
  subst exs
  cases rx
  cases rxs
  obtain ⟨z, lo, vs, rel, dd⟩ := dk_of I.hok e
  refine call_meetsIn PySem.F.slot_dict_values dd.typeIs PySem.F.entry_dict_values (PySem.F.args_dict_values_1 _) (meets_dict_values (mixKind X.prog X.w) a lo) ⟨⟨vs, dd⟩, ?_⟩
  have at_ : (s.heap.push ({ cls := .type "dict_values", data := .fields #[.ref a] } : Obj)).get? s.heap.objs.size = some ({ cls := .type "dict_values", data := .fields #[.ref a] } : Obj) := Heap.get?_push_size _ rfl
  exact ⟨.ref s.heap.objs.size, upd H s.heap.objs.size (VwO s.heap.objs.size a), I.laid (t' := s.toks) (fun b u e => Heap.get?_push_of_some _ e) (Nat.le_refl _) (vwo_ok at_), rfl, q _ (I.hok.fresh (Nat.le_refl _))⟩
def rSumV : List V → Hp → VK → Prop := fun xs H Q => ∃ (v d : Addr) (kvs : List (Key × V)) (ns : List Int), xs = [.ref v] ∧ H v = some (VwO v d) ∧ H d = some (.dK kvs) ∧ kvs.map (·.2) = ns.map V.int ∧ Q (.int ns.sum) H
theorem cr_sumV (hc : X.calm = true) : CallR X (.builtin "sum") rSumV := by
  intro pins s σ H xs us Q I r ⟨v, d, kvs, ns, ex, ev, ed, en, q⟩
  subst ex
  obtain ⟨u, rfl, ru⟩ := vals1 r
  cases ru
  obtain ⟨z, lo, vs, rel, dd⟩ := dk_of I.hok ed
  obtain ⟨ep, hat⟩ := dd.dictAt
  have av := vwo_at I.hok ev
  have lv : kvs.length = vs.length := rel.length
  have ln : kvs.length = ns.length := by
    have e := congrArg List.length en
    rw [List.length_map, List.length_map] at e
    exact e
  have items : ∀ (i : Nat) (k : Key) (y : Value), vs[i]? = some (k, y) → ∃ t : Tok, y = Value.int ((ns[i]?).getD 0) t := fun i k y h => by
    have il := (List.getElem?_eq_some_iff.mp h).1
    obtain ⟨kv, hk⟩ : ∃ kv, kvs[i]? = some kv := ⟨_, List.getElem?_eq_getElem (by omega)⟩
    obtain ⟨b, hb, r1, r2⟩ := paired_get (show Paired _ kvs vs from rel) hk
    rw [h] at hb
    cases hb
    have e1 : (kvs.map (·.2))[i]? = some kv.2 := by rw [List.getElem?_map, hk] <;> rfl
    rw [en, List.getElem?_map] at e1
    obtain ⟨n, hn, e2⟩ := Option.map_eq_some_iff.mp e1
    rw [hn]
    rw [← e2] at r2
    exact r2
  refine PySem.call_sum_walkAnyS ?_
  obtain ⟨oI, St, hit, W, st⟩ := (PySem.W.kdl_values (knd := mixKind X.prog X.w) (kvs := vs) (ep := ep) (r := v) (d := d)).iter X.A.in1 s (I.ok.hd hc) ⟨⟨_, av, rfl, rfl⟩, hat⟩
  refine hit _ _ ⟨s.heap.objs.size, _, _, _, vs.length, _, _, (fun i => (ns[i]?).getD 0), rfl, W.toS, st, fun b hb => ?_, fun i y ⟨k, hy⟩ => items i k y hy, fun s' t' hm => ?_⟩
  · show b < (s.heap.push oI).objs.size
    rw [Heap.size_push]
    rcases List.mem_cons.mp hb with e | hb
    · rw [e]
      exact Nat.lt_succ_self _
    · rw [List.mem_singleton.mp hb]
      exact Nat.lt_succ_of_lt hat.lt_size
  · have hk : ∀ b o, s.heap.get? b = some o → s'.heap.get? b = some o := fun b o e =>
      hm.heap b o (fun hI => absurd (Heap.lt_size e) (by rw [List.mem_singleton.mp hI]; exact Nat.lt_irrefl _)) (Heap.get?_push_of_some _ e)
    rw [PySem.Moved.eq_with hm]
    rw [show vs.length = ns.length by omega, preSum_list]
    exact ⟨.int ns.sum, H, I.kept (t' := s'.toks) hk, ⟨_, rfl⟩, q⟩
end
end L2


/-! _law_fits, its local called _law_left_here; _law_left -/
namespace FT
open PySem L2 TL ClX LiI
def fitB (t : List (Str × Str)) (n : Int) (s : Str → Int) : Bool := ((t.map Prod.fst).all fun a => decide (0 ≤ s a)) && ((("" : Str) :: t.map Prod.fst).all fun p => decide (0 ≤ resid t n s p))
theorem fit_fea {t : List (Str × Str)} {n : Int} {s : Str → Int} : fitB t n s = true ↔ Fea t n s := by
  unfold fitB
  rw [Bool.and_eq_true, List.all_eq_true, List.all_eq_true]
  exact ⟨fun h => ⟨fun a ha => of_decide_eq_true (h.1 a ha), fun p hp => of_decide_eq_true (h.2 p hp)⟩, fun h => ⟨fun a ha => decide_eq_true (h.nn a ha), fun p hp => decide_eq_true (h.res p hp)⟩⟩
def spFits : Sp := fun vs H Q _ => ∃ (q qw : Addr) (n : Int) (t : List (Str × Str)) (lo : List Str) (s : Str → Int), vs = [.ref q, .int n, .ref qw] ∧ H q = some (.dK (prs t)) ∧ TreeOk t ∧ H qw = some (.dK (tblI lo s)) ∧ lo.Perm (t.map Prod.fst) ∧ ∀ H', Same H H' → Q (.bl (fitB t n s)) H'
def spLeft : Sp := fun vs H Q _ => ∃ (q qw : Addr) (n : Int) (t : List (Str × Str)) (lo : List Str) (s : Str → Int), vs = [.ref q, .int n, .ref qw] ∧ H q = some (.dK (prs t)) ∧ TreeOk t ∧ H qw = some (.dK (tblI lo s)) ∧ lo.Perm (t.map Prod.fst) ∧ ∀ p H', Same H H' → H p = none → H' p = some (.dK (tblI (("" : Str) :: lo) (resid t n s))) → Q (.ref p) H'
theorem resid_nilF (n : Int) (s : Str → Int) (a : Str) : resid [] n s a = if a = "" then n else s a := by
  unfold resid
  show (if a = "" then n else s a) - 0 = _
  omega
theorem min_ge {is : List Int} {m : Int} (hm : m ∈ is) (low : ∀ j ∈ is, m ≤ j) : (0 ≤ m) ↔ ∀ j ∈ is, 0 ≤ j := ⟨fun h j hj => by have := low j hj; omega, fun h => h m hm⟩
section
variable {P : Program} {w : World} {K : PySem.W.Frag} {mg : Str → Option Value} {base : Heap}
abbrev NFt : List Str := ["_law_parents", "_law_folk", "_law_wide", "_law_left_here", "_law_name"]
theorem scFt : FnScope NFt ["_law_parents", "_law_folk", "_law_wide"] (defScope s__law_fits) := ⟨rfl, rfl, rfl, by decide +kernel, rfl, by decide +kernel, by decide +kernel⟩
theorem ok_fitsH {f : Addr} {fd : FuncData} (F : Fun K "_law_fits" "_law_fits" s__law_fits f fd) (N : Nm mg) : FnOk P w K mg base CX0 1 f fd ["_law_parents", "_law_folk", "_law_wide"] spFits := by
  refine F.ok scFt (fun vs H Q E h => ?_) (fun cdv_ A outer s0 H vs Q E hr h => ?_)
  · obtain ⟨q, qw, n, t, lo, s, rfl, _⟩ := h
    rfl
  · obtain ⟨q, qw, n, t, lo, s, rfl, hq, o, hw, plo, k⟩ := h
    have hu := hu_of hr
    have nd := scFt.nd
    have big : 1000 ≤ sizeLine := by decide
    have few := o.few
    refine ⟨_, pss_cons (ps_set (i := 3) nd rfl (.inl rfl) (pe_disp (pps_cons pe_str (pv 1) pps_nil) (by rfl) (by rfl) (fun z => by cases z) (by decide)))
      (pss_cons (ps_expr (pe_bm PySem.F.plainAttrs_dict PySem.F.slot_dict_update PySem.F.type_dict_update UpD.mtd_update (pv 3) (pa_cons (pv 2) pa_nil)))
      (pss_cons (ps_lock (ps_for PassesOwn.never rfl (pi_keys (pv 0)) (pg_name (i := 4) nd rfl (.inl rfl))
        (pss_one (ps_dput hu (pv 3) (pe_dget hu (pv 0) (pv 4) (fun _ _ => rfl)) (pe_op op_sub (pe_dget hu (pv 3) (pe_dget hu (pv 0) (pv 4) (fun _ _ => rfl)) (fun _ _ => rfl)) (pe_dget hu (pv 2) (pv 4) (fun _ _ => rfl))) rfl))))
      (pss_one (ps_ret (pe_and (pe_cmpR op_ge (pe_minVals rfl rfl N.min (pv 2)) pe_int (nomark _)) (pe_one (pe_cmpR op_ge (pe_minVals rfl rfl N.min (pv 3)) pe_int (nomark _)))))))), ?_⟩
    refine fun D nD => ⟨_, rfl, upd_same, [(Sum.inr "", V.int n)], rfl, by show 1 ≤ 15; omega, ?_⟩
    obtain ⟨H1, e1⟩ : ∃ X, X = upd (upd H D (.dK [])) D (.dK (mergeK [] [(Sum.inr "", V.int n)])) := ⟨_, rfl⟩
    have s1 : Same H H1 := e1 ▸ (same_new nD).put nD
    have a1 : H1 D = some (.dK [(Sum.inr "", V.int n)]) := by
      rw [e1, upd_same] <;> rfl
    rw [← e1]
    clear e1
    have Dq : D ≠ q := (ne_of_none hq nD).symm
    have Dw : D ≠ qw := (ne_of_none hw nD).symm
    have ll := plo.length_eq
    rw [List.length_map] at ll
    have nr : ("" : Str) ∉ lo := fun z => o.root (plo.mem_iff.mp z)
    have ndl : lo.Nodup := plo.nodup_iff.mpr o.nd
    refine ⟨_, rfl, .inr (.inr (.inl ⟨rfl, .inl ⟨_, a1⟩⟩)), _, rfl, D, qw, _, _, rfl, rfl, a1, .inl (s1 _ _ hw), Dw, by rw [tblI_len]; show 1 + _ ≤ sizeLine; omega, ?_⟩
    have em : mergeK [(Sum.inr "", V.int n)] (tblI lo s) = tblI ("" :: lo) (resid [] n s) := by
      have z := merge_app (lo.map fun a => (a, V.int (s a))) [("", V.int n)] (by
        rw [List.map_append, map_fst]
        exact List.nodup_cons.mpr ⟨nr, ndl⟩)
      have e1 : kvT [(("" : Str), V.int n)] = ([(Sum.inr ("" : Str), V.int n)] : List (Key × V)) := rfl
      rw [e1] at z
      have e2 : kvT (lo.map fun a => (a, V.int (s a))) = tblI lo s := rfl
      rw [e2] at z
      rw [z]
      unfold tblI
      rw [List.map_cons, resid_nilF, if_pos rfl]
      congr 1
      show ((("" : Str), V.int n) :: lo.map fun a => (a, V.int (s a))) = (("" : Str), V.int n) :: lo.map fun a => (a, V.int (resid [] n s a))
      congr 1
      exact List.map_congr_left fun a ha => by rw [resid_nilF, if_neg fun z => nr (by rw [← z]; exact ha)]
    rw [em]
    obtain ⟨H2, e2⟩ : ∃ X, X = upd H1 D (.dK (tblI ("" :: lo) (resid [] n s))) := ⟨_, rfl⟩
    have s2 : Same H H2 := by rw [e2]; exact s1.put nD
    have a2 : H2 D = some (.dK (tblI ("" :: lo) (resid [] n s))) := by rw [e2]; exact upd_same
    rw [← e2]
    clear e2
    have hq2 := s2 _ _ hq
    refine ⟨q, _, hq2, trivial, fun od => ⟨_, rfl, q, od, rfl, .inl ⟨_, upd_same, ?_⟩⟩⟩
    refine for_it walk_keys (fun j σ' H' => (∃ u4, σ' = [some (.ref q), some (.int n), some (.ref qw), some (.ref D), u4]) ∧ H' q = some (.frz od (.dK (prs t))) ∧ (∀ b u, b ≠ q → H b = some u → H' b = some u) ∧ H' D = some (.dK (tblI ("" :: lo) (resid (t.take j) n s))))
      ⟨⟨_, rfl⟩, upd_same, fun b u nb e => by rw [upd_ne nb]; exact s2 _ _ e, by rw [upd_ne Dq]; exact a2⟩ (fun j σ' H' _ z => z.2.1) ?_ ?_
    · intro j y σ' Ha Hb hj ⟨⟨u4, e⟩, aq, sb, aD⟩ ⟨eb, kk, vv, hk, ey⟩
      subst e
      subst eb
      subst ey
      obtain ⟨⟨a, pa⟩, hp, ee⟩ : ∃ x : Str × Str, t[j]? = some x ∧ (kk, vv) = (Sum.inr x.1, V.str x.2) := by
        unfold prs kvT at hk
        rw [List.map_map, List.getElem?_map] at hk
        obtain ⟨x, hx, z⟩ := Option.map_eq_some_iff.mp hk
        exact ⟨x, hx, z.symm⟩
      cases ee
      rw [show kV (Sum.inr a) = V.str a from rfl]
      have mp := List.mem_of_getElem? hp
      have mk : a ∈ t.map Prod.fst := List.mem_map.mpr ⟨_, mp, rfl⟩
      have ep := par_of o.nd mp
      obtain ⟨rk, r⟩ := o.up
      have mpa : pa ∈ ("" : Str) :: lo := List.mem_cons.mpr ((r _ mp).2.imp id fun z => plo.mem_iff.mpr z.1)
      have dg : DGet Hb q (.str a) (some (.str pa)) := .inl ⟨_, Sum.inr a, .inr ⟨od, aq⟩, rfl, by rw [val_prs, ep] <;> rfl⟩
      have nqh : qw ≠ q := ne_of hw hq (by
        intro z
        have := HO.dK.inj z
        have l1 := congrArg List.length this
        cases t with
        | nil => cases mp
        | cons x t =>
          cases lo with
          | nil => cases l1
          | cons y l => cases this)
      refine ⟨_, rfl, _, rfl, _, rfl, q, _, rfl, dg, D, .int (resid (t.take j) n s pa), rfl, ?_, ?_⟩
      · have z := DGet.k (k := Sum.inr pa) aD
        rw [tblI_val mpa] at z
        exact z
      · refine ⟨_, rfl, _, rfl, qw, .int (s a), rfl, ?_, _, _, rfl, rfl, ?_⟩
        · have z := DGet.k (k := Sum.inr a) (sb _ _ nqh hw)
          rw [tblI_val (plo.mem_iff.mpr mk)] at z
          exact z
        · refine ⟨_, rfl, _, rfl, _, rfl, q, _, rfl, dg, D, _, rfl, DPut.k (k := Sum.inr pa) aD (by rw [tblI_len, List.length_cons]; omega), ⟨_, rfl⟩, by rw [upd_ne Dq.symm]; exact aq, fun b u nb e => ?_, ?_⟩
          · rw [upd_ne (ne_of_none e nD)]
            exact sb b u nb e
          · rw [upd_same, tblI_put mpa, take_more hp]
            congr 2
            refine tblI_congr fun b hb => ?_
            rw [resid_snoc]
            show (if b = pa then _ else _) = if pa = b then _ else _
            by_cases e : b = pa
            · rw [if_pos e, if_pos e.symm, e]
            · rw [if_neg e, if_neg fun z => e z.symm]
    · intro σ' H4 ⟨⟨u4, e⟩, aq, sb, aD⟩
      subst e
      rw [show (prs t).length = t.length from prs_len t, List.take_length] at aD
      refine ⟨aq, ?_⟩
      have s4 : Same H (upd H4 q (.dK (prs t))) := fun b u e => by
        by_cases z : b = q
        · subst z
          rw [hq] at e
          rw [upd_same]
          exact e
        · rw [upd_ne z]
          exact sb b u z e
      have aD4 : (upd H4 q (.dK (prs t))) D = some (.dK (tblI ("" :: lo) (resid t n s))) := by rw [upd_ne Dq]; exact aD
      obtain ⟨H5, e5⟩ : ∃ X, X = upd H4 q (.dK (prs t)) := ⟨_, rfl⟩
      rw [← e5] at s4 aD4 ⊢
      clear e5
      have one := o.one
      have lne : lo ≠ [] := fun z => by
        rw [z] at ll
        have : (0 : Nat) = t.length := ll
        omega
      refine ⟨_, rfl, qw, _, lo.map s, rfl, s4 _ _ hw, (by unfold tblI kvT; rw [List.map_map, List.map_map, List.map_map] <;> rfl), (fun z => lne (List.map_eq_nil_iff.mp z)), fun m hm low => ?_⟩
      have eA : ((t.map Prod.fst).all fun a => decide (0 ≤ s a)) = decide (0 ≤ m) := by
        rw [Bool.eq_iff_iff, List.all_eq_true, decide_eq_true_eq, min_ge hm low]
        constructor
        · intro h j hj
          obtain ⟨a, ha, rfl⟩ := List.mem_map.mp hj
          exact of_decide_eq_true (h a (plo.mem_iff.mp ha))
        · intro h a ha
          exact decide_eq_true (h _ (List.mem_map.mpr ⟨a, plo.mem_iff.mpr ha, rfl⟩))
      refine ⟨_, _, rfl, rfl, _, rfl, ?_⟩
      refine ite2 (fun yes => ?_) fun no => ?_
      · refine ⟨_, rfl, D, _, (("" : Str) :: lo).map (resid t n s), rfl, aD4, (by unfold tblI kvT; rw [List.map_map, List.map_map, List.map_map] <;> rfl), (fun z => by cases z), fun m2 hm2 low2 => ?_⟩
        refine ⟨_, _, rfl, rfl, ?_⟩
        have eB : ((("" : Str) :: t.map Prod.fst).all fun p => decide (0 ≤ resid t n s p)) = decide (0 ≤ m2) := by
          rw [Bool.eq_iff_iff, List.all_eq_true, decide_eq_true_eq, min_ge hm2 low2]
          have pp : ∀ p, p ∈ ("" : Str) :: lo ↔ p ∈ ("" : Str) :: t.map Prod.fst := fun p => (plo.cons _).mem_iff
          constructor
          · intro h j hj
            obtain ⟨a, ha, rfl⟩ := List.mem_map.mp hj
            exact of_decide_eq_true (h a ((pp a).mp ha))
          · intro h a ha
            exact decide_eq_true (h _ (List.mem_map.mpr ⟨a, (pp a).mpr ha, rfl⟩))
        have e : fitB t n s = decide (m2 ≥ 0) := by
          unfold fitB
          rw [eA, eB, show decide (0 ≤ m) = true from yes, Bool.true_and]
        have z := k _ s4
        rw [e] at z
        exact z
      · have e : fitB t n s = false := by
          unfold fitB
          rw [eA, Bool.eq_false_iff.mpr no, Bool.false_and]
        have z := k _ s4
        rw [e] at z
        exact z
theorem scLe : FnScope NFt ["_law_parents", "_law_folk", "_law_wide"] (defScope s__law_left) := ⟨rfl, rfl, rfl, by decide +kernel, rfl, by decide +kernel, by decide +kernel⟩
theorem ok_left {f : Addr} {fd : FuncData} (F : Fun K "_law_left" "_law_left" s__law_left f fd) (N : Nm mg) : FnOk P w K mg base CX0 1 f fd ["_law_parents", "_law_folk", "_law_wide"] spLeft := by
  refine F.ok scLe (fun vs H Q E h => ?_) (fun cdv_ A outer s0 H vs Q E hr h => ?_)
  · obtain ⟨q, qw, n, t, lo, s, rfl, _⟩ := h
    rfl
  · obtain ⟨q, qw, n, t, lo, s, rfl, hq, o, hw, plo, k⟩ := h
    have hu := hu_of hr
    have nd := scLe.nd
    have big : 1000 ≤ sizeLine := by decide
    have few := o.few
    refine ⟨_, pss_cons (ps_set (i := 3) nd rfl (.inl rfl) (pe_disp (pps_cons pe_str (pv 1) pps_nil) (by rfl) (by rfl) (fun z => by cases z) (by decide)))
      (pss_cons (ps_expr (pe_bm PySem.F.plainAttrs_dict PySem.F.slot_dict_update PySem.F.type_dict_update UpD.mtd_update (pv 3) (pa_cons (pv 2) pa_nil)))
      (pss_cons (ps_lock (ps_for PassesOwn.never rfl (pi_keys (pv 0)) (pg_name (i := 4) nd rfl (.inl rfl))
        (pss_one (ps_dput hu (pv 3) (pe_dget hu (pv 0) (pv 4) (fun _ _ => rfl)) (pe_op op_sub (pe_dget hu (pv 3) (pe_dget hu (pv 0) (pv 4) (fun _ _ => rfl)) (fun _ _ => rfl)) (pe_dget hu (pv 2) (pv 4) (fun _ _ => rfl))) rfl))))
      (pss_one (ps_ret (pv 3))))), ?_⟩
    refine fun D nD => ⟨_, rfl, upd_same, [(Sum.inr "", V.int n)], rfl, by show 1 ≤ 15; omega, ?_⟩
    obtain ⟨H1, e1⟩ : ∃ X, X = upd (upd H D (.dK [])) D (.dK (mergeK [] [(Sum.inr "", V.int n)])) := ⟨_, rfl⟩
    have s1 : Same H H1 := e1 ▸ (same_new nD).put nD
    have a1 : H1 D = some (.dK [(Sum.inr "", V.int n)]) := by
      rw [e1, upd_same] <;> rfl
    rw [← e1]
    clear e1
    have Dq : D ≠ q := (ne_of_none hq nD).symm
    have Dw : D ≠ qw := (ne_of_none hw nD).symm
    have ll := plo.length_eq
    rw [List.length_map] at ll
    have nr : ("" : Str) ∉ lo := fun z => o.root (plo.mem_iff.mp z)
    have ndl : lo.Nodup := plo.nodup_iff.mpr o.nd
    refine ⟨_, rfl, .inr (.inr (.inl ⟨rfl, .inl ⟨_, a1⟩⟩)), _, rfl, D, qw, _, _, rfl, rfl, a1, .inl (s1 _ _ hw), Dw, by rw [tblI_len]; show 1 + _ ≤ sizeLine; omega, ?_⟩
    have em : mergeK [(Sum.inr "", V.int n)] (tblI lo s) = tblI ("" :: lo) (resid [] n s) := by
      have z := merge_app (lo.map fun a => (a, V.int (s a))) [("", V.int n)] (by
        rw [List.map_append, map_fst]
        exact List.nodup_cons.mpr ⟨nr, ndl⟩)
      have e1 : kvT [(("" : Str), V.int n)] = ([(Sum.inr ("" : Str), V.int n)] : List (Key × V)) := rfl
      rw [e1] at z
      have e2 : kvT (lo.map fun a => (a, V.int (s a))) = tblI lo s := rfl
      rw [e2] at z
      rw [z]
      unfold tblI
      rw [List.map_cons, resid_nilF, if_pos rfl]
      congr 1
      show ((("" : Str), V.int n) :: lo.map fun a => (a, V.int (s a))) = (("" : Str), V.int n) :: lo.map fun a => (a, V.int (resid [] n s a))
      congr 1
      exact List.map_congr_left fun a ha => by rw [resid_nilF, if_neg fun z => nr (by rw [← z]; exact ha)]
    rw [em]
    obtain ⟨H2, e2⟩ : ∃ X, X = upd H1 D (.dK (tblI ("" :: lo) (resid [] n s))) := ⟨_, rfl⟩
    have s2 : Same H H2 := by rw [e2]; exact s1.put nD
    have a2 : H2 D = some (.dK (tblI ("" :: lo) (resid [] n s))) := by rw [e2]; exact upd_same
    rw [← e2]
    clear e2
    have hq2 := s2 _ _ hq
    refine ⟨q, _, hq2, trivial, fun od => ⟨_, rfl, q, od, rfl, .inl ⟨_, upd_same, ?_⟩⟩⟩
    refine for_it walk_keys (fun j σ' H' => (∃ u4, σ' = [some (.ref q), some (.int n), some (.ref qw), some (.ref D), u4]) ∧ H' q = some (.frz od (.dK (prs t))) ∧ (∀ b u, b ≠ q → H b = some u → H' b = some u) ∧ H' D = some (.dK (tblI ("" :: lo) (resid (t.take j) n s))))
      ⟨⟨_, rfl⟩, upd_same, fun b u nb e => by rw [upd_ne nb]; exact s2 _ _ e, by rw [upd_ne Dq]; exact a2⟩ (fun j σ' H' _ z => z.2.1) ?_ ?_
    · intro j y σ' Ha Hb hj ⟨⟨u4, e⟩, aq, sb, aD⟩ ⟨eb, kk, vv, hk, ey⟩
      subst e
      subst eb
      subst ey
      obtain ⟨⟨a, pa⟩, hp, ee⟩ : ∃ x : Str × Str, t[j]? = some x ∧ (kk, vv) = (Sum.inr x.1, V.str x.2) := by
        unfold prs kvT at hk
        rw [List.map_map, List.getElem?_map] at hk
        obtain ⟨x, hx, z⟩ := Option.map_eq_some_iff.mp hk
        exact ⟨x, hx, z.symm⟩
      cases ee
      rw [show kV (Sum.inr a) = V.str a from rfl]
      have mp := List.mem_of_getElem? hp
      have mk : a ∈ t.map Prod.fst := List.mem_map.mpr ⟨_, mp, rfl⟩
      have ep := par_of o.nd mp
      obtain ⟨rk, r⟩ := o.up
      have mpa : pa ∈ ("" : Str) :: lo := List.mem_cons.mpr ((r _ mp).2.imp id fun z => plo.mem_iff.mpr z.1)
      have dg : DGet Hb q (.str a) (some (.str pa)) := .inl ⟨_, Sum.inr a, .inr ⟨od, aq⟩, rfl, by rw [val_prs, ep] <;> rfl⟩
      have nqh : qw ≠ q := ne_of hw hq (by
        intro z
        have := HO.dK.inj z
        have l1 := congrArg List.length this
        cases t with
        | nil => cases mp
        | cons x t =>
          cases lo with
          | nil => cases l1
          | cons y l => cases this)
      refine ⟨_, rfl, _, rfl, _, rfl, q, _, rfl, dg, D, .int (resid (t.take j) n s pa), rfl, ?_, ?_⟩
      · have z := DGet.k (k := Sum.inr pa) aD
        rw [tblI_val mpa] at z
        exact z
      · refine ⟨_, rfl, _, rfl, qw, .int (s a), rfl, ?_, _, _, rfl, rfl, ?_⟩
        · have z := DGet.k (k := Sum.inr a) (sb _ _ nqh hw)
          rw [tblI_val (plo.mem_iff.mpr mk)] at z
          exact z
        · refine ⟨_, rfl, _, rfl, _, rfl, q, _, rfl, dg, D, _, rfl, DPut.k (k := Sum.inr pa) aD (by rw [tblI_len, List.length_cons]; omega), ⟨_, rfl⟩, by rw [upd_ne Dq.symm]; exact aq, fun b u nb e => ?_, ?_⟩
          · rw [upd_ne (ne_of_none e nD)]
            exact sb b u nb e
          · rw [upd_same, tblI_put mpa, take_more hp]
            congr 2
            refine tblI_congr fun b hb => ?_
            rw [resid_snoc]
            show (if b = pa then _ else _) = if pa = b then _ else _
            by_cases e : b = pa
            · rw [if_pos e, if_pos e.symm, e]
            · rw [if_neg e, if_neg fun z => e z.symm]
    · intro σ' H4 ⟨⟨u4, e⟩, aq, sb, aD⟩
      subst e
      rw [show (prs t).length = t.length from prs_len t, List.take_length] at aD
      refine ⟨aq, ?_⟩
      have s4 : Same H (upd H4 q (.dK (prs t))) := fun b u e => by
        by_cases z : b = q
        · subst z
          rw [hq] at e
          rw [upd_same]
          exact e
        · rw [upd_ne z]
          exact sb b u z e
      have aD4 : (upd H4 q (.dK (prs t))) D = some (.dK (tblI ("" :: lo) (resid t n s))) := by rw [upd_ne Dq]; exact aD
      obtain ⟨H5, e5⟩ : ∃ X, X = upd H4 q (.dK (prs t)) := ⟨_, rfl⟩
      rw [← e5] at s4 aD4 ⊢
      clear e5
      exact ⟨_, rfl, k D _ s4 nD aD4⟩
end
end FT


/-! _law_reduced of k24 -/
namespace FT
open PySem L2 TL ClX LiI
def lessR (r : Nat → Str → Int) (p : Str) (u : Int) : Nat → Str → Int := fun i x => if x = p then r i x - u else r i x
def sureR (pl : List Str) (r : Nat → Str → Int) (p : Str) : Int := (pl.map (r 0)).sum - ([(pl.map (r 0)).sum - r 0 p, (pl.map (r 0)).sum - r 1 p, (pl.map (r 0)).sum - r 2 p] : List Int).sum
def spReduc : Sp := fun vs H Q _ => ∃ (R : Addr) (qi : Nat → Addr) (pl : List Str) (r : Nat → Str → Int), vs = [.ref R] ∧ Three pl r H R qi ∧ pl.Nodup ∧ pl ≠ [] ∧ pl.length ≤ 64 ∧
  ∀ (R' : Addr) (qi' : Nat → Addr) (p : Str) (u : Int) (H' : Hp), Same H H' → Three pl (lessR r p u) H' R' qi' → p ∈ pl → (u = 0 ∨ 0 < u ∧ u = sureR pl r p) → Q (.ref R') H'
abbrev NRd : List Str := ["_law_rows", "_law_most", "_law_found", "_law_place", "_law_sure", "_law_row"]
section
variable {P : Program} {w : World} {K : PySem.W.Frag} {mg : Str → Option Value} {base : Heap}
theorem scRd : FnScope NRd ["_law_rows"] (defScope s__law_reduced) := ⟨rfl, rfl, rfl, by decide +kernel, rfl, by decide +kernel, by decide +kernel⟩
theorem ok_reduc {f : Addr} {fd : FuncData} (F : Fun K "_law_reduced" "_law_reduced" s__law_reduced f fd) (T : Nm mg) : FnOk P w K mg base CX0 1 f fd ["_law_rows"] spReduc := by
  refine F.ok scRd (fun vs H Q E h => ?_) (fun cdv A outer s0 H vs Q E hr h => ?_)
  · obtain ⟨R, qi, pl, r, rfl, _⟩ := h
    rfl
  · obtain ⟨R, qi, pl, r, rfl, th, ndp, nep, few, k⟩ := h
    have hu := hu_of hr
    have nd := scRd.nd
    have big : 1000 ≤ sizeLine := by decide
    refine ⟨_, pss_cons (ps_asg (pe_tup (pa_cons (pe_callB (cr_sumV rfl) (by rfl) T.sum (by decide +kernel) (pa_cons (pe_bm0 PySem.F.plainAttrs_dict PySem.F.slot_dict_values PySem.F.type_dict_values mt_dvals (pe_ix ix_list (pv 0) pe_int (fun _ _ => rfl))) pa_nil))
          (pa_cons (pe_lc (own := [("_law_row", 5)]) (g := gName 5) (tt := tYes) rfl nd (pi_list (pv 0)) (blkOk_by (N := NRd) (sc := defScope s__law_reduced) (by decide +kernel)) (fun _ _ _ _ _ => pg_name (i := 5) nd rfl (Or.inl rfl)) (fun _ _ _ _ _ => pts_nil) (fun _ _ _ _ _ => pe_callTy call_dictD (by rfl) T.dct (by decide +kernel) (pa_cons (pv 5) pa_nil))) pa_nil))) (pg_tup rfl (pgs_cons (pg_name (i := 1) nd rfl (.inr rfl)) (pgs_cons (pg_name (i := 2) nd rfl (.inl rfl)) pgs_nil))))
      (pss_cons (ps_lock (ps_for PassesOwn.never rfl (pi_keys (pe_ix ix_list (pv 0) pe_int (fun _ _ => rfl))) (pg_name (i := 3) nd rfl (.inr rfl))
        (pss_cons (ps_set (i := 4) nd rfl (.inl rfl) (pe_op op_sub (pv 1) (pe_callB (cr_sum rfl) (by rfl) T.sum (by decide +kernel) (pa_cons (pe_lc (own := [("_law_row", 5)]) (g := gName 5) (tt := tYes) rfl nd (pi_list (pv 0)) (blkOk_by (N := NRd) (sc := defScope s__law_reduced) (by decide +kernel)) (fun _ _ _ _ _ => pg_name (i := 5) nd rfl (Or.inl rfl)) (fun _ _ _ _ _ => pts_nil)
            (fun _ _ _ _ _ => pe_op op_sub (pv 1) (pe_dget hu (pv 5) (pv 3) (fun _ _ => rfl)))) pa_nil))))
        (pss_one (ps_if (pt_cmpR op_gt (pv 4) pe_int (nomark _))
          (pss_cons (ps_for PassesOwn.never rfl (pi_list (pv 2)) (pg_name (i := 5) nd rfl (.inl rfl)) (pss_one (ps_dput hu (pv 5) (pv 3) (pe_op op_sub (pe_dget hu (pv 5) (pv 3) (fun _ _ => rfl)) (pv 4)) rfl)))
          (pss_one (ps_ret (pv 2)))) pss_nil)))))
      (pss_one (ps_ret (pv 2)))), ?_⟩
    have hR : ∀ (v : Nat → Addr) j, j < 3 → ([V.ref (v 0), .ref (v 1), .ref (v 2)] : List V)[j]? = some (.ref (v j)) := fun v j hj => match j, hj with
      | 0, _ => rfl
      | 1, _ => rfl
      | 2, _ => rfl
    have h0 := th.hq 0 (by decide)
    -- how many
    refine ⟨_, rfl, R, _, 0, .ref (qi 0), rfl, rfl, SqL.of th.hR, atI_nat (j := 0) rfl, .inr (.inr (.inl ⟨rfl, .inl ⟨_, h0⟩⟩)), qi 0, _, rfl, rfl, h0, fun v nv => ?_⟩
    have tv := same_new (o := VwO v (qi 0)) nv
    refine ⟨v, qi 0, _, pl.map (r 0), rfl, upd_same, tv _ _ h0, (by unfold tblI kvT; rw [List.map_map, List.map_map, List.map_map] <;> rfl), ?_⟩
    obtain ⟨most, em⟩ : ∃ most : Int, most = (pl.map (r 0)).sum := ⟨_, rfl⟩
    rw [← em]
    obtain ⟨H1, e1⟩ : ∃ X, X = upd H v (VwO v (qi 0)) := ⟨_, rfl⟩
    rw [← e1] at tv ⊢
    clear e1
    have th1 := th.mono tv
    -- the copies
    refine ⟨_, rfl, R, rfl, ⟨_, SqL.of th1.hR⟩, fun D nD => ?_⟩
    refine lc_it walk_list (fun j H' => Same H1 H' ∧ ∃ ds : Nat → Addr, H' D = some (.lst (((List.range j).map ds).map V.ref)) ∧ (∀ i, i < j → H' (ds i) = some (.dK (tblI pl (r i))) ∧ ds i ≠ D ∧ H1 (ds i) = none) ∧ ∀ i i', i < i' → i' < j → ds i ≠ ds i') ⟨same_new nD, fun _ => 0, upd_same, fun i hi => absurd hi (Nat.not_lt_zero i), fun i i' _ hi => absurd hi (Nat.not_lt_zero _)⟩ (fun j H' _ c => SqL.of (c.1 _ _ th1.hR)) ?_ ?_
    · intro j y Ha Hb hj ⟨sa, ds, hD, hds, hne⟩ ⟨eb, ey⟩
      subst eb
      have j3 : j < 3 := hj
      rw [hR qi j j3] at ey
      cases ey
      refine ⟨rfl, ?_⟩
      refine ⟨_, rfl, qi j, _, rfl, .inl (sa _ _ (th1.hq j j3)), fun p np => ?_⟩
      have Dp : D ≠ p := ne_of_none hD np
      have sc := same_new (o := .dK (tblI pl (r j))) np
      refine ⟨_, sc _ _ hD, by rw [List.length_map, List.length_map, List.length_range]; omega, (sa.trans sc).put nD, fun i => if i = j then p else ds i, ?_, fun i hi => ?_, fun i i' h1 h2 => ?_⟩
      · rw [upd_same, List.range_succ, List.map_append, List.map_append]
        congr 3
        · refine congrArg (List.map V.ref) (List.map_congr_left fun i hi => ?_)
          rw [if_neg]
          have := List.mem_range.mp hi
          omega
        · show [V.ref p] = [V.ref (if j = j then p else ds j)]
          rw [if_pos rfl]
      · show (upd _ D _) (if i = j then p else ds i) = _ ∧ (if i = j then p else ds i) ≠ D ∧ H1 (if i = j then p else ds i) = none
        by_cases e : i = j
        · rw [if_pos e, upd_ne Dp.symm, e, upd_same]
          exact ⟨rfl, Dp.symm, sa.free np⟩
        · rw [if_neg e]
          obtain ⟨g1, g2, g3⟩ := hds i (by omega)
          exact ⟨by rw [upd_ne g2]; exact sc _ _ g1, g2, g3⟩
      · show (if i = j then p else ds i) ≠ (if i' = j then p else ds i')
        rw [if_neg (by omega)]
        by_cases e : i' = j
        · rw [if_pos e]
          exact ne_of_none (hds i (by omega)).1 np
        · rw [if_neg e]
          exact hne i i' h1 (by omega)
    intro H2 ⟨s2, ds, hD2, hds, hne⟩
    have hD2' : H2 D = some (.lst [.ref (ds 0), .ref (ds 1), .ref (ds 2)]) := hD2
    refine ⟨by show 2 ≤ sizeLine; omega, fun tp ntp => ⟨tp, _, rfl, .inl (.inl upd_same), rfl, _, _, rfl, _, _, rfl, rfl, ?_⟩⟩
    have st := same_new (o := .tup [.int most, .ref D]) ntp
    obtain ⟨H3, e3⟩ : ∃ X, X = upd H2 tp (.tup [.int most, .ref D]) := ⟨_, rfl⟩
    rw [← e3] at st ⊢
    clear e3
    have s3 := (tv.trans s2).trans st
    have th3 := th.mono s3
    have hD3 := st _ _ hD2'
    have hds3 : ∀ i, i < 3 → H3 (ds i) = some (.dK (tblI pl (r i))) ∧ ds i ≠ D ∧ H (ds i) = none := fun i hi => ⟨st _ _ (hds i hi).1, (hds i hi).2.1, tv.free (hds i hi).2.2⟩
    have h03 := th3.hq 0 (by decide)
    refine ⟨qi 0, _, h03, trivial, fun od => ?_⟩
    obtain ⟨HL, eHL⟩ : ∃ X, X = upd H3 (qi 0) (.frz od (.dK (tblI pl (r 0)))) := ⟨_, rfl⟩
    have hqL : HL (qi 0) = some (.frz od (.dK (tblI pl (r 0)))) := by rw [eHL]; exact upd_same
    have offq : ∀ {b : Addr} {u : HO}, H3 b = some u → b ≠ qi 0 → HL b = some u := fun e n => by rw [eHL, upd_ne n]; exact e
    have hRL : HL R = some (.lst [.ref (qi 0), .ref (qi 1), .ref (qi 2)]) := offq th3.hR (ne_of th3.hR h03 (by intro z; cases z))
    have hDL : HL D = some (.lst [.ref (ds 0), .ref (ds 1), .ref (ds 2)]) := offq hD3 (ne_of hD3 h03 (by intro z; cases z))
    have dq0 : ∀ i, i < 3 → ds i ≠ qi 0 := fun i hi => (ne_of_none h0 (hds3 i hi).2.2).symm
    have hdL : ∀ i, i < 3 → HL (ds i) = some (.dK (tblI pl (r i))) := fun i hi => offq (hds3 i hi).1 (dq0 i hi)
    have rowL : ∀ i, i < 3 → Rd HL (qi i) (.dK (tblI pl (r i))) := fun i hi => by
      by_cases e : qi i = qi 0
      · have z1 := th3.hq i hi
        rw [e, h03] at z1
        have z2 : tblI pl (r 0) = tblI pl (r i) := by injection (Option.some.inj z1)
        rw [e, ← z2]
        exact .inr ⟨od, hqL⟩
      · exact .inl (offq (th3.hq i hi) e)
    have unl : ∀ {Hx : Hp}, (∀ b u, (∀ i, i < 3 → b ≠ ds i) → HL b = some u → Hx b = some u) → Same H (upd Hx (qi 0) (.dK (tblI pl (r 0)))) := fun {Hx} sx b u e => by
      by_cases w : b = qi 0
      · rw [w] at e ⊢
        rw [upd_same, ← e, h0]
      · rw [upd_ne w]
        exact sx b u (fun i hi => ne_of_none e (hds3 i hi).2.2) (offq (s3 _ _ e) w)
    rw [← eHL]
    refine ⟨_, rfl, R, _, 0, .ref (qi 0), rfl, rfl, SqL.of hRL, atI_nat (j := 0) rfl, qi 0, od, rfl, .inl ⟨_, hqL, ?_⟩⟩
    refine for_it walk_keys (fun j σ' H' => (∃ u3 u4, σ' = [some (.ref R), some (.int most), some (.ref D), u3, u4, none]) ∧ Same HL H') ⟨⟨_, _, rfl⟩, Same.refl⟩ (fun j σ' H' _ c => c.2 _ _ hqL) ?_ ?_
    · intro j yv σ' Hb Hc hj ⟨⟨v3, v4, e⟩, sa⟩ ⟨eb, kk, vv, hk, ey⟩
      subst e
      subst eb
      subst ey
      obtain ⟨a, ha, rfl, rfl⟩ := tblI_at hk
      rw [show kV (Sum.inr a) = V.str a from rfl]
      have ma := List.mem_of_getElem? ha
      obtain ⟨L, eL⟩ : ∃ L : List Int, L = [most - r 0 a, most - r 1 a, most - r 2 a] := ⟨_, rfl⟩
      have hL : ∀ i, i < 3 → L[i]? = some (most - r i a) := fun i hi => by
        rw [eL]
        exact match i, hi with
        | 0, _ => rfl
        | 1, _ => rfl
        | 2, _ => rfl
      have lL : L.length = 3 := by rw [eL] <;> rfl
      refine ⟨_, rfl, _, rfl, R, rfl, ⟨_, SqL.of (sa _ _ hRL)⟩, fun D2 nD2 => ?_⟩
      refine lc_it walk_list (fun i H' => Same Hc H' ∧ H' D2 = some (.lst ((L.take i).map V.int))) ⟨same_new nD2, upd_same⟩ (fun i H' _ c => SqL.of (c.1 _ _ (sa _ _ hRL))) ?_ ?_
      · intro i y Hx Hy hi ⟨sx, hD2x⟩ ⟨eb, ey⟩
        subst eb
        have i3 : i < 3 := hi
        rw [hR qi i i3] at ey
        cases ey
        refine ⟨rfl, ?_⟩
        have dg : DGet Hy (qi i) (.str a) (some (.int (r i a))) := by
          rcases rowL i i3 with h | ⟨od', h⟩
          · exact .inl ⟨_, Sum.inr a, .inl (sx _ _ (sa _ _ h)), rfl, (tblI_val ma).symm ▸ rfl⟩
          · exact .inl ⟨_, Sum.inr a, .inr ⟨od', sx _ _ (sa _ _ h)⟩, rfl, (tblI_val ma).symm ▸ rfl⟩
        refine ⟨_, rfl, _, rfl, _, rfl, qi i, _, rfl, dg, _, _, rfl, rfl, _, hD2x, by rw [List.length_map, List.length_take]; omega, sx.put nD2, ?_⟩
        rw [upd_same, take_more (hL i i3), List.map_append] <;> rfl
      intro H5 ⟨s5, hD5⟩
      rw [show ([V.ref (qi 0), .ref (qi 1), .ref (qi 2)] : List V).length = L.length from lL.symm, List.take_length] at hD5
      refine ⟨D2, L, rfl, SqL.of hD5, _, _, rfl, rfl, ?_⟩
      obtain ⟨u, eu⟩ : ∃ u : Int, u = most - L.sum := ⟨_, rfl⟩
      rw [show (fun i j : Int => V.int (i - j)) most L.sum = V.int u from by rw [eu]]
      refine ⟨_, rfl, _, _, rfl, rfl, _, rfl, ?_⟩
      refine ite2 (fun yes => ?_) (fun no => ⟨⟨_, _, rfl⟩, sa.trans s5⟩)
      have u0 : 0 < u := of_decide_eq_true yes
      have s05 := sa.trans s5
      refine ⟨_, rfl, D, rfl, ⟨_, SqL.of (s05 _ _ hDL)⟩, ?_⟩
      have Dd : ∀ i, i < 3 → D ≠ ds i := fun i hi => (hds3 i hi).2.1.symm
      have dne : ∀ i i', i < 3 → i' < 3 → i ≠ i' → ds i ≠ ds i' := fun i i' h1 h2 n => by
        rcases Nat.lt_or_gt_of_ne n with h | h
        · exact hne i i' h h2
        · exact (hne i' i h h1).symm
      refine for_it walk_list (fun j' σ' H' => (∃ u5, σ' = [some (.ref R), some (.int most), some (.ref D), some (.str a), some (.int u), u5]) ∧ (∀ b w, (∀ i, i < 3 → b ≠ ds i) → H5 b = some w → H' b = some w) ∧ ∀ i, i < 3 → H' (ds i) = some (.dK (tblI pl (if i < j' then lessR r a u i else r i)))) ⟨⟨_, rfl⟩, fun _ _ _ e => e, fun i hi => by rw [if_neg (Nat.not_lt_zero i)]; exact s05 _ _ (hdL i hi)⟩ (fun j' σ' H' _ c => SqL.of (c.2.1 _ _ Dd (s05 _ _ hDL))) ?_ ?_
      · intro j' yv σ' Hd He hj' ⟨⟨v5, e⟩, off, hd⟩ ⟨eb, ey⟩
        subst e
        subst eb
        have j3 : j' < 3 := hj'
        rw [hR ds j' j3] at ey
        cases ey
        have hdj := hd j' j3
        rw [if_neg (Nat.lt_irrefl _)] at hdj
        have dg : DGet He (ds j') (.str a) (some (.int (r j' a))) := by
          have c := DGet.k (k := Sum.inr a) hdj
          rw [tblI_val ma] at c
          exact c
        refine ⟨_, rfl, _, rfl, ds j', _, rfl, dg, _, rfl, _, _, rfl, rfl, _, rfl, _, rfl, ds j', _, rfl, DPut.k (k := Sum.inr a) hdj (by rw [tblI_len]; omega), ⟨_, rfl⟩, fun b w nb e => ?_, fun i hi => ?_⟩
        · rw [upd_ne (nb j' j3)]
          exact off b w nb e
        · by_cases ei : i = j'
          · rw [ei, upd_same, tblI_put ma, if_pos (Nat.lt_succ_self _)]
            refine congrArg (fun z => some (HO.dK z)) (tblI_congr fun b _ => ?_)
            unfold lessR
            by_cases e : b = a
            · rw [if_pos e, if_pos e, e]
            · rw [if_neg e, if_neg e]
          · rw [upd_ne (dne i j' hi j3 ei), hd i hi]
            by_cases l : i < j'
            · rw [if_pos l, if_pos (by omega)]
            · rw [if_neg l, if_neg (by omega)]
      · intro σ' H6 ⟨⟨v5, e⟩, off, hd⟩
        subst e
        refine ⟨_, rfl, ?_⟩
        have q6 := off _ _ (fun i hi => (dq0 i hi).symm) (s05 _ _ hqL)
        refine ⟨q6, k D ds a u _ (unl fun b w nb e => off b w nb (s05 _ _ e)) ⟨?_, fun i hi => ?_⟩ ma (.inr ⟨u0, ?_⟩)⟩
        · rw [upd_ne (ne_of (off _ _ Dd (s05 _ _ hDL)) q6 (by intro z; cases z))]
          exact off _ _ Dd (s05 _ _ hDL)
        · rw [upd_ne (dq0 i hi), hd i hi]
          rw [if_pos (show i < ([V.ref (ds 0), .ref (ds 1), .ref (ds 2)] : List V).length from hi)]
        · unfold sureR
          rw [eu, eL, em]
    · intro σ' H4 ⟨⟨v3, v4, e⟩, sa⟩
      subst e
      refine ⟨sa _ _ hqL, ?_⟩
      have s4 := unl (Hx := H4) fun b u _ e => sa _ _ e
      obtain ⟨p, hp⟩ : ∃ p, p ∈ pl := List.exists_mem_of_ne_nil pl nep
      refine ⟨_, rfl, k D ds p 0 _ s4 ⟨?_, fun i hi => ?_⟩ hp (.inl rfl)⟩
      · rw [upd_ne (ne_of (sa _ _ hDL) (sa _ _ hqL) (by intro z; cases z))]
        exact sa _ _ hDL
      · rw [upd_ne (dq0 i hi), sa _ _ (hdL i hi)]
        congr 2
        refine tblI_congr fun x _ => ?_
        unfold lessR
        split <;> omega
end
end FT


/-! Own: >= of two tuples of texts -/
namespace L2
open PySem PySem.Spec PyProof.Rows
theorem rc_ge_str {A : Around} {s : Shared} (a b : Str) (t u : Tok) : Ob.RcOp .GtE A s (.str a t) (.str b u) (!decide (a.cps.toList < b.cps.toList)) := fun _ _ _ _ h => PySem.P.ge_str h
def lexGe (ns ms : List Str) : Bool := Ob.lexAt (fun j => ns.getD j default == ms.getD j default) (fun j => !decide ((ns.getD j default).cps.toList < (ms.getD j default).cps.toList)) (decide (ns.length ≥ ms.length)) 0 (min ns.length ms.length)
def rGeT (K : PySem.W.Frag) : R2 := fun x y H Q => ∃ (a b : Addr) (ns ms : List Str), x = .ref a ∧ y = .ref b ∧ SqT K H a (ns.map V.str) ∧ SqT K H b (ms.map V.str) ∧ Q (.bl (lexGe ns ms)) H
theorem strs_atG {ns : List Str} {us : List Value} (r : Vals (ns.map V.str) us) {j : Nat} (h : j < us.toArray.size) : ∃ t, us.toArray[j] = .str (ns.getD j default) t := by
  have l := r.length
  rw [List.length_map] at l
  have h' : j < us.length := by simpa using h
  obtain ⟨u, hu, ru⟩ := Vals.get (i := j) (x := .str (ns.getD j default)) r (by
    rw [List.getElem?_map, List.getD_eq_getElem?_getD, List.getElem?_eq_getElem (by omega)] <;> rfl)
  obtain ⟨t, rfl⟩ := ru
  refine ⟨t, ?_⟩
  rw [List.getElem?_eq_getElem h'] at hu
  simpa using Option.some.inj hu
theorem op_geT {X : Cx} (hu : X.A.units < cLine) : OpR X (compareOp .GtE) (rGeT X.K) := by
  intro pins s σ H x y v u Q I rx ry h
  obtain ⟨a, b, ns, ms, rfl, rfl, ha, hb, q⟩ := h
  cases rx
  cases ry
  obtain ⟨its, r1, p1, _⟩ := I.tuple ha
  obtain ⟨its2, r2, p2, _⟩ := I.tuple hb
  have e1 : its.toArray.size = ns.length := by rw [List.size_toArray, ← r1.length, List.length_map]
  have e2 : its2.toArray.size = ms.length := by rw [List.size_toArray, ← r2.length, List.length_map]
  have R := Ob.RcOp.tuples_ge (A := X.A) (s := s) (e := fun j => ns.getD j default == ms.getD j default) (r := fun j => !decide ((ns.getD j default).cps.toList < (ms.getD j default).cps.toList)) p1 p2 hu (fun j h1 h2 => by
    obtain ⟨t, et⟩ := strs_atG r1 h1
    obtain ⟨t', et'⟩ := strs_atG r2 h2
    rw [et, et']
    exact SeqAt.EqAt.str_str _ _ _ _) (fun j h1 h2 _ => by
    obtain ⟨t, et⟩ := strs_atG r1 h1
    obtain ⟨t', et'⟩ := strs_atG r2 h2
    rw [et, et']
    exact rc_ge_str _ _ _ _)
  rw [e1, e2] at R
  have z : wpAny (model X.prog X.w) X.A (compareOp .GtE (.ref a) (.ref b)) (EP X pins σ Q) X.xe s := R X.prog X.w X.xe (EP X pins σ Q) ⟨.bl _, H, I, rfl, q⟩
  exact z
end L2


/-! _law_counted: the sizes of a list of places -/
namespace FT
open PySem L2 TL ClX LiI
def spCounted : Sp := fun vs H Q _ => ∃ (q l : Addr) (t : List (Str × Str)) (zs : List Str), vs = [.ref q, .ref l] ∧ H q = some (.dK (prs t)) ∧ TreeOk t ∧ H l = some (.lst (zs.map V.str)) ∧ (∀ z ∈ zs, Pl t z) ∧
  ∀ (ks : List Str) (p : Addr) (H' : Hp), Same H H' → H p = none → ks.Perm (t.map Prod.fst) → PyProof.Rows.sortedS ks = true → H' p = some (.dK (tblI ks (szZ t zs))) → Q (.ref p) H'
section
variable {P : Program} {w : World} {K : PySem.W.Frag} {mg : Str → Option Value} {base : Heap}
abbrev NCd : List Str := ["_law_parents", "_law_places", "_law_name", "_law_wide", "_law_place"]
end
end FT


/-! _law_can_place of k24 -/
namespace FT
open PySem L2 TL ClX LiI
def z3 (f p o : Str) : Nat → Str
  | 0 => f
  | 1 => p
  | _ => o
def decR (r : Str → Int) (p : Str) : Str → Int := fun x => if x = p then r p - 1 else r x
/-- users whose first places are listed have places in all three cases -/
inductive Plcd (t : List (Str × Str)) (s : Nat → Str → Int) (pl : List Str) : List Str → (Str → Int) → (Str → Int) → Prop
  | nil {r2 r3 : Str → Int} : Plcd t s pl [] r2 r3
  | cons {f p o : Str} {fs : List Str} {r2 r3 : Str → Int} : p ∈ pl → o ∈ pl → 0 < r2 p → 0 < r3 o → (∀ a ∈ t.map Prod.fst, ∀ ij ∈ prs3, okA t s (z3 f p o) a ij) → Plcd t s pl fs (decR r2 p) (decR r3 o) → Plcd t s pl (f :: fs) r2 r3
def spCanPl (m : Nat) : Sp := fun vs H Q _ => ∃ (q Rt fa d2 d3 lp : Addr) (qi : Nat → Addr) (t : List (Str × Str)) (lo pl fs : List Str) (s : Nat → Str → Int) (r2 r3 : Str → Int) (l0 l1 l2 : Str), vs = [.ref q, .ref Rt, .ref fa, .ref d2, .ref d3, .ref lp] ∧ H q = some (.dK (prs t)) ∧ TreeOk t ∧ Three lo s H Rt qi ∧ lo.Perm (t.map Prod.fst) ∧
  H fa = some (.lst (fs.map V.str)) ∧ (∀ z ∈ fs, Pl t z) ∧ fs.length + 1 ≤ m ∧ m ≤ 100 ∧ H d2 = some (.dK (tblI pl r2)) ∧ H d3 = some (.dK (tblI pl r3)) ∧ pl.Nodup ∧ pl.length < 64 ∧ (∀ z ∈ pl, Pl t z) ∧ H lp = some (.tup [.str l0, .str l1, .str l2]) ∧
  ∀ (b : Bool) (H' : Hp), Same H H' → (b = true → Plcd t s pl fs r2 r3) → Q (.bl b) H'
theorem cut_one1 {x : V} {xs : List V} : cutV (x :: xs) (some 1) none = xs := by
  have e1 : HT.sIx (x :: xs).length 0 (some ((1 : Nat) : Int)) = min 1 (x :: xs).length := HT.sIx_nat _ _ 1
  show ((x :: xs).drop (HT.sIx (x :: xs).length 0 (some ((1 : Nat) : Int)))).take ((x :: xs).length - HT.sIx (x :: xs).length 0 (some ((1 : Nat) : Int))) = xs
  rw [e1, List.length_cons, Nat.min_eq_left (by omega)]
  show (xs.drop 0).take (xs.length + 1 - 1) = xs
  rw [List.drop_zero, Nat.add_sub_cancel, List.take_length]
abbrev NCp : List Str := ["_law_parents", "_law_three", "_law_firsts", "_law_second", "_law_third", "_law_last", "_law_place", "_law_other", "_law_pair", "_law_ahead", "_law_behind"]
section
variable {P : Program} {w : World} {K : PySem.W.Frag} {mg : Str → Option Value} {base : Heap}
theorem scCp : FnScope NCp ["_law_parents", "_law_three", "_law_firsts", "_law_second", "_law_third", "_law_last"] (defScope s__law_can_place) := ⟨rfl, rfl, rfl, by decide +kernel, rfl, by decide +kernel, by decide +kernel⟩
theorem ok_canPlS {f fA : Addr} {fd fdA : FuncData} (F : Fun K "_law_can_place" "_law_can_place" s__law_can_place f fd) (T : Nm mg) (AG : Dn P w K mg base CX0 2 "_law_agree" ["_law_parents", "_law_three", "_law_places"] spAgree fA fdA) (m : Nat)
    (D : Dn P w K mg base CX0 (m + 3) "_law_can_place" ["_law_parents", "_law_three", "_law_firsts", "_law_second", "_law_third", "_law_last"] (spCanPl m) f fd) : FnOk P w K mg base CX0 (m + 4) f fd ["_law_parents", "_law_three", "_law_firsts", "_law_second", "_law_third", "_law_last"] (spCanPl (m + 1)) := by
  refine F.ok scCp (fun vs H Q E h => ?_) (fun cdv A outer s0 H vs Q E hr h => ?_)
  · obtain ⟨q, Rt, fa, d2, d3, lp, qi, t, lo, pl, fs, s, r2, r3, l0, l1, l2, rfl, _⟩ := h
    rfl
  · obtain ⟨q, Rt, fa, d2, d3, lp, qi, t, lo, pl, fs, s, r2, r3, l0, l1, l2, rfl, hq, o, th, plo, hfa, pfs, hm, m100, h2, h3, ndp, few, ppl, hlp, k⟩ := h
    have hu := hu_of hr
    have hr2 : Room 2 _ := hr.mono (by omega)
    have nd := scCp.nd
    have big : 1000 ≤ sizeLine := by decide
    refine ⟨_, pss_cons (ps_if (pt_cmpR (op_eqNil hr.units) (pv 2) (pe_lst pa_nil) (nomark _)) (pss_one (ps_ret pe_bl)) pss_nil)
      (pss_cons (ps_for PassesOwn.never rfl (pi_list (pe_callB (call_sortedD rfl) (by rfl) T.srt (by decide +kernel) (pa_cons (pv 3) pa_nil))) (pg_name (i := 6) nd rfl (.inl rfl))
        (pss_one (ps_for PassesOwn.never rfl (pi_list (pe_callB (call_sortedD rfl) (by rfl) T.srt (by decide +kernel) (pa_cons (pv 4) pa_nil))) (pg_name (i := 7) nd rfl (.inl rfl))
          (pss_cons (ps_set (i := 8) nd rfl (.inl rfl) (pe_tup (pa_cons (pe_ix ix_list (pv 2) pe_int (fun _ _ => rfl)) (pa_cons (pv 6) (pa_cons (pv 7) pa_nil)))))
          (pss_one (ps_if (PW.pt (pw_and (pt_cmpR op_gt (pe_dget hu (pv 3) (pv 6) (fun _ _ => rfl)) pe_int (nomark _)) (pw_and (pt_cmpR op_gt (pe_dget hu (pv 4) (pv 7) (fun _ _ => rfl)) pe_int (nomark _)) (pw_and (pt_cmpR (op_geT (Nat.lt_of_succ_lt hu)) (pv 8) (pv 5) (nomark _))
              (pw_and1 (pt_val (pe_call AG.ok hr2 rfl AG.mgn AG.kp AG.bn .nil pass0 (pa_cons (pv 0) (pa_cons (pv 1) (pa_cons (pv 8) pa_nil))))))))))
            (pss_cons (ps_par (i := 9) (j := 10) rfl nd rfl rfl (by decide) rfl rfl (pa_cons (pe_callTy call_dictD (by rfl) T.dct (by decide +kernel) (pa_cons (pv 3) pa_nil)) (pa_cons (pe_callTy call_dictD (by rfl) T.dct (by decide +kernel) (pa_cons (pv 4) pa_nil)) pa_nil)) (by rfl))
            (pss_cons (ps_dput hu (pv 9) (pv 6) (pe_op op_sub (pe_dget hu (pv 9) (pv 6) (fun _ _ => rfl)) pe_int) rfl)
            (pss_cons (ps_dput hu (pv 10) (pv 7) (pe_op op_sub (pe_dget hu (pv 10) (pv 7) (fun _ _ => rfl)) pe_int) rfl)
            (pss_one (ps_if (pt_val (pe_call D.ok hr rfl D.mgn D.kp D.bn .nil pass0 (pa_cons (pv 0) (pa_cons (pv 1) (pa_cons (pe_slice sl_list (pv 2) (po_some pe_int) po_none) (pa_cons (pv 9) (pa_cons (pv 10) (pa_cons (pv 8) pa_nil)))))))) (pss_one (ps_ret pe_bl)) pss_nil)))))
            pss_nil))))))
      (pss_one (ps_ret pe_bl))), ?_⟩
    refine ⟨_, rfl, by show 0 ≤ sizeLine; omega, fun e0 ne0 => ?_⟩
    have te := same_new (o := .lst ([] : List V)) ne0
    refine ⟨fa, e0, _, rfl, rfl, te _ _ hfa, upd_same, _, rfl, ?_⟩
    obtain ⟨H1, e1⟩ : ∃ X, X = upd H e0 (.lst ([] : List V)) := ⟨_, rfl⟩
    rw [← e1] at te ⊢
    clear e1
    cases fs with
    | nil => exact iteT (k true _ te fun _ => .nil)
    | cons f fs =>
      rw [decide_eq_false (by rw [List.length_map, List.length_cons]; omega)]
      refine iteF ?_
      rw [List.length_cons] at hm
      refine ⟨_, rfl, d2, tblI pl r2, pl, rfl, .inl (te _ _ h2), tblI_keys _ _, few, fun k1 p1 pk1 st1 m1 => ⟨p1, rfl, ⟨_, SqL.of upd_same⟩, ?_⟩⟩
      obtain ⟨H2, e2⟩ : ∃ X, X = upd H1 p1 (.lst (k1.map V.str)) := ⟨_, rfl⟩
      have s12 : Same H1 H2 := e2 ▸ same_new m1
      have hp1 : H2 p1 = some (.lst (k1.map V.str)) := by rw [e2]; exact upd_same
      rw [← e2]
      clear e2
      have s02 := te.trans s12
      refine for_it walk_list (fun j σ' H' => (∃ u6 u7 u8 u9 u10, σ' = [some (.ref q), some (.ref Rt), some (.ref fa), some (.ref d2), some (.ref d3), some (.ref lp), u6, u7, u8, u9, u10]) ∧ Same H2 H') ⟨⟨_, _, _, _, _, rfl⟩, Same.refl⟩ (fun j σ' H' _ c => SqL.of (c.2 _ _ hp1)) ?_ ?_
      · intro j y σ' Ha Hb hj ⟨⟨v6, v7, v8, v9, v10, e⟩, sa⟩ ⟨eb, ey⟩
        subst e
        subst eb
        obtain ⟨p, hp, rfl⟩ := map_of (f := V.str) (l := k1) ey
        have mp : p ∈ pl := pk1.mem_iff.mp (List.mem_of_getElem? hp)
        have s0b := s02.trans sa
        refine ⟨_, rfl, d3, tblI pl r3, pl, rfl, .inl (s0b _ _ h3), tblI_keys _ _, few, fun k2 p2 pk2 st2 m2 => ⟨p2, rfl, ⟨_, SqL.of upd_same⟩, ?_⟩⟩
        obtain ⟨H3, e3⟩ : ∃ X, X = upd Hb p2 (.lst (k2.map V.str)) := ⟨_, rfl⟩
        have s23 : Same Hb H3 := e3 ▸ same_new m2
        have hp2 : H3 p2 = some (.lst (k2.map V.str)) := by rw [e3]; exact upd_same
        rw [← e3]
        clear e3
        have s03 := s0b.trans s23
        refine for_it walk_list (fun j σ' H' => (∃ u7 u8 u9 u10, σ' = [some (.ref q), some (.ref Rt), some (.ref fa), some (.ref d2), some (.ref d3), some (.ref lp), some (.str p), u7, u8, u9, u10]) ∧ Same H3 H') ⟨⟨_, _, _, _, rfl⟩, Same.refl⟩ (fun j σ' H' _ c => SqL.of (c.2 _ _ hp2)) ?_ ?_
        · intro j' y σ' Hc Hd hj' ⟨⟨v7, v8, v9, v10, e⟩, sc⟩ ⟨eb, ey⟩
          subst e
          subst eb
          obtain ⟨g, hg, rfl⟩ := map_of (f := V.str) (l := k2) ey
          have mg' : g ∈ pl := pk2.mem_iff.mp (List.mem_of_getElem? hg)
          have s0d := s03.trans sc
          refine ⟨_, rfl, fa, _, 0, .str f, rfl, rfl, SqL.of (s0d _ _ hfa), atI_nat (j := 0) rfl, ?_⟩
          refine ⟨_, rfl, _, rfl, by show 3 ≤ sizeLine; omega, fun tp ntp => ?_⟩
          obtain ⟨H4, e4⟩ : ∃ X, X = upd Hd tp (.tup [.str f, .str p, .str g]) := ⟨_, rfl⟩
          have sd4 : Same Hd H4 := e4 ▸ same_new ntp
          have htp : H4 tp = some (.tup [.str f, .str p, .str g]) := by rw [e4]; exact upd_same
          show gName 8 (V.ref tp) _ (upd Hd tp (.tup [.str f, .str p, .str g])) _
          rw [← e4]
          clear e4
          have s04 := s0d.trans sd4
          have sc4 := sc.trans sd4
          have dg : ∀ {x : Addr} {r : Str → Int} {b : Str} {Hx : Hp}, Hx x = some (.dK (tblI pl r)) → b ∈ pl → DGet Hx x (.str b) (some (.int (r b))) := fun {x r b Hx} hx hb => by
            have c := DGet.k (k := Sum.inr b) hx
            rw [tblI_val hb] at c
            exact c
          have stop : ∀ {Hx : Hp} {u9 u10 : Option V}, Same H3 Hx → (∃ u7 u8 u9' u10', ([some (.ref q), some (.ref Rt), some (.ref fa), some (.ref d2), some (.ref d3), some (.ref lp), some (.str p), some (.str g), some (.ref tp), u9, u10] : St) = [some (.ref q), some (.ref Rt), some (.ref fa), some (.ref d2), some (.ref d3), some (.ref lp), some (.str p), u7, u8, u9', u10']) ∧ Same H3 Hx := fun sx => ⟨⟨_, _, _, _, rfl⟩, sx⟩
          refine ⟨_, rfl, _, rfl, d2, _, rfl, dg (s04 _ _ h2) mp, _, _, rfl, rfl, _, rfl, ?_⟩
          refine ite2 (fun y2 => ?_) (fun _ => stop sc4)
          refine ⟨_, rfl, _, rfl, d3, _, rfl, dg (s04 _ _ h3) mg', _, _, rfl, rfl, _, rfl, ?_⟩
          refine ite2 (fun y3 => ?_) (fun _ => stop sc4)
          refine ⟨_, rfl, _, rfl, tp, lp, [f, p, g], [l0, l1, l2], rfl, rfl, SqT.of htp, SqT.of (s04 _ _ hlp), _, rfl, ?_⟩
          refine ite2 (fun _ => ?_) (fun _ => stop sc4)
          have pz : ∀ i, i < 3 → Pl t (z3 f p g i) := fun i hi => match i, hi with
            | 0, _ => pfs f List.mem_cons_self
            | 1, _ => ppl p mp
            | 2, _ => ppl g mg'
          refine ⟨_, rfl, _, rfl, _, rfl, q, Rt, tp, qi, t, lo, s, z3 f p g, rfl, s04 _ _ hq, o, th.mono s04, plo, htp, pz, fun b H5 s5 hb => ⟨_, rfl, ?_⟩⟩
          cases b with
          | false => exact iteF (stop (sc4.trans s5))
          | true =>
            refine iteT ?_
            have s05 := s04.trans s5
            refine ⟨_, rfl, d2, _, rfl, .inl (s05 _ _ h2), fun a1 na1 => ?_⟩
            have w1 := same_new (o := .dK (tblI pl r2)) na1
            refine ⟨_, rfl, d3, _, rfl, .inl (w1 _ _ (s05 _ _ h3)), fun a2 na2 => ⟨.ref a1, .ref a2, rfl, ?_⟩⟩
            have w2 := same_new (o := .dK (tblI pl r3)) na2
            have a12 : a1 ≠ a2 := ne_of_none upd_same na2
            obtain ⟨H6, e6⟩ : ∃ X, X = upd (upd H5 a1 (.dK (tblI pl r2))) a2 (.dK (tblI pl r3)) := ⟨_, rfl⟩
            have s56 : Same H5 H6 := e6 ▸ w1.trans w2
            have g1 : H6 a1 = some (.dK (tblI pl r2)) := by rw [e6]; exact w2 _ _ upd_same
            have g2 : H6 a2 = some (.dK (tblI pl r3)) := by rw [e6]; exact upd_same
            have na2' : H5 a2 = none := w1.free na2
            rw [← e6]
            clear e6 w1 w2 na2
            refine ⟨_, rfl, _, rfl, a1, _, rfl, dg g1 mp, _, _, rfl, rfl, _, rfl, _, rfl, a1, _, rfl, DPut.k (k := Sum.inr p) g1 (by rw [tblI_len]; omega), ?_⟩
            rw [tblI_put mp]
            have g2' : (upd H6 a1 (.dK (tblI pl (decR r2 p)))) a2 = some (.dK (tblI pl r3)) := by rw [upd_ne a12.symm]; exact g2
            refine ⟨_, rfl, _, rfl, a2, _, rfl, dg g2' mg', _, _, rfl, rfl, _, rfl, _, rfl, a2, _, rfl, DPut.k (k := Sum.inr g) g2' (by rw [tblI_len]; omega), ?_⟩
            rw [tblI_put mg']
            have s57 : Same H5 (upd (upd H6 a1 (.dK (tblI pl (decR r2 p)))) a2 (.dK (tblI pl (decR r3 g)))) := (s56.put na1).put na2'
            have g3 : (upd (upd H6 a1 (.dK (tblI pl (decR r2 p)))) a2 (.dK (tblI pl (decR r3 g)))) a1 = some (.dK (tblI pl (decR r2 p))) := by rw [upd_ne a12, upd_same]
            have g4 : (upd (upd H6 a1 (.dK (tblI pl (decR r2 p)))) a2 (.dK (tblI pl (decR r3 g)))) a2 = some (.dK (tblI pl (decR r3 g))) := upd_same
            refine ⟨_, rfl, _, rfl, _, rfl, _, rfl, fa, _, rfl, SqL.of (s57 _ _ (s05 _ _ hfa)), fun p5 np5 => ?_⟩
            have w5 := same_new (o := .lst (fs.map V.str)) np5
            rw [show cutV (List.map V.str (f :: fs)) (some 1) none = fs.map V.str from cut_one1]
            have s58 := s57.trans w5
            have s08 := s05.trans s58
            refine ⟨_, rfl, _, rfl, _, rfl, q, Rt, p5, a1, a2, tp, qi, t, lo, pl, fs, s, decR r2 p, decR r3 g, f, p, g, rfl, s08 _ _ hq, o, th.mono s08, plo, upd_same, fun z hz => pfs z (List.mem_cons_of_mem _ hz), by omega, by omega, w5 _ _ g3, w5 _ _ g4, ndp, few, ppl, s58 _ _ (s5 _ _ htp), fun b H9 s9 hb2 => ⟨_, rfl, ?_⟩⟩
            have s09 := s08.trans s9
            cases b with
            | false => exact iteF (stop (((sc4.trans s5).trans s58).trans s9))
            | true => exact iteT (k true _ s09 fun _ => .cons mp mg' (of_decide_eq_true y2) (of_decide_eq_true y3) (hb rfl) (hb2 rfl))
        · intro σ' H4 ⟨⟨v7, v8, v9, v10, e⟩, sc⟩
          subst e
          exact ⟨⟨_, _, _, _, _, rfl⟩, (sa.trans s23).trans sc⟩
      · intro σ' H4 ⟨⟨v6, v7, v8, v9, v10, e⟩, sa⟩
        subst e
        exact k false _ (s02.trans sa) fun h => by cases h
theorem ok_canPl {f fA : Addr} {fd fdA : FuncData} (F : Fun K "_law_can_place" "_law_can_place" s__law_can_place f fd) (T : Nm mg) (AG : Dn P w K mg base CX0 2 "_law_agree" ["_law_parents", "_law_three", "_law_places"] spAgree fA fdA)
    (b : Binds K fd ["_law_parents", "_law_three", "_law_firsts", "_law_second", "_law_third", "_law_last"] []) (g : mg "_law_can_place" = some (.ref f)) : ∀ m, FnOk P w K mg base CX0 (m + 3) f fd ["_law_parents", "_law_three", "_law_firsts", "_law_second", "_law_third", "_law_last"] (spCanPl m)
  | 0 => by
    refine F.ok scCp (fun vs H Q E h => ?_) (fun cdv A outer s0 H vs Q E hr h => ?_)
    · obtain ⟨q, Rt, fa, d2, d3, lp, qi, t, lo, pl, fs, s, r2, r3, l0, l1, l2, rfl, _⟩ := h
      rfl
    · obtain ⟨q, Rt, fa, d2, d3, lp, qi, t, lo, pl, fs, s, r2, r3, l0, l1, l2, rfl, hq, o, th, plo, hfa, pfs, hm, _⟩ := h
      omega
  | m + 1 => ok_canPlS F T AG m ⟨ok_canPl F T AG b g m, F.kp, b, g⟩
end
end FT


/-! k24, plain: nobody can place three assignments with the sizes of witness -/
namespace FT
open PySem L2 TL ClX
theorem plcd_lists {t : List (Str × Str)} {s : Nat → Str → Int} {pl : List Str} : ∀ {fs : List Str} {r2 r3 : Str → Int}, Plcd t s pl fs r2 r3 →
    ∃ z1 z2 : List Str, z1.length = fs.length ∧ z2.length = fs.length ∧ (∀ z ∈ z1, z ∈ pl) ∧ (∀ z ∈ z2, z ∈ pl) ∧ (∀ x, z1.count x = 0 ∨ (z1.count x : Int) ≤ r2 x) ∧ (∀ x, z2.count x = 0 ∨ (z2.count x : Int) ≤ r3 x) ∧
      ∀ (i : Nat) (f g h : Str), fs[i]? = some f → z1[i]? = some g → z2[i]? = some h → ∀ a ∈ t.map Prod.fst, ∀ ij ∈ prs3, okA t s (z3 f g h) a ij
  | _, _, _, .nil => ⟨[], [], rfl, rfl, fun z h => (by cases h), fun z h => (by cases h), fun x => .inl rfl, fun x => .inl rfl, fun i f g h e => by cases e⟩
  | _, _, _, .cons (f := f) (p := p) (o := q) (r2 := r2) (r3 := r3) hp ho h2 h3 ag rest => by
    obtain ⟨z1, z2, l1, l2, m1, m2, c1, c2, ok⟩ := plcd_lists rest
    have cc : ∀ {z : List Str} {r : Str → Int} {p : Str}, 0 < r p → (∀ x, z.count x = 0 ∨ (z.count x : Int) ≤ decR r p x) → ∀ x, (p :: z).count x = 0 ∨ ((p :: z).count x : Int) ≤ r x := fun {z r p} pos h x => by
      rw [List.count_cons]
      have hx := h x
      unfold decR at hx
      by_cases e : x = p
      · rw [if_pos e] at hx
        rw [e] at hx ⊢
        rw [if_pos (beq_self_eq_true p)]
        right
        rcases hx with hx | hx
        · rw [hx]; show ((0 + 1 : Nat) : Int) ≤ _; omega
        · omega
      · rw [if_neg e] at hx
        rw [if_neg (by rw [beq_iff_eq]; exact fun w => e w.symm), Nat.add_zero]
        exact hx
    refine ⟨p :: z1, q :: z2, by rw [List.length_cons, List.length_cons, l1], by rw [List.length_cons, List.length_cons, l2], fun z hz => (List.mem_cons.mp hz).elim (fun e => e ▸ hp) (m1 z), fun z hz => (List.mem_cons.mp hz).elim (fun e => e ▸ ho) (m2 z), cc h2 c1, cc h3 c2, fun i f' g' h' e1 e2 e3 => ?_⟩
    cases i with
    | zero =>
      cases e1
      cases e2
      cases e3
      exact ag
    | succ i => exact ok i f' g' h' e1 e2 e3
theorem sum_cntW : ∀ {pl z : List Str}, pl.Nodup → (∀ x ∈ z, x ∈ pl) → ((pl.map fun x => (z.count x : Int)).sum) = (z.length : Int)
  | pl, [], _, _ => by
    have : (pl.map fun x => (([] : List Str).count x : Int)) = pl.map fun _ => (0 : Int) := rfl
    rw [this]
    clear this
    have zero : ∀ l : List Str, (l.map fun _ => (0 : Int)).sum = 0 := fun l => by
      induction l with
      | nil => rfl
      | cons a l ih => rw [List.map_cons, List.sum_cons, ih] <;> rfl
    rw [zero] <;> rfl
  | pl, y :: z, nd, h => by
    have ih := sum_cntW nd fun x hx => h x (List.mem_cons_of_mem _ hx)
    have key : ∀ {pl : List Str}, pl.Nodup → ((pl.map fun x => ((y :: z).count x : Int)).sum) = (pl.map fun x => (z.count x : Int)).sum + if y ∈ pl then 1 else 0 := by
      intro pl
      induction pl with
      | nil => intro _; rfl
      | cons a l ih =>
        intro nd
        obtain ⟨na, nl⟩ := List.nodup_cons.mp nd
        rw [List.map_cons, List.sum_cons, ih nl, List.map_cons, List.sum_cons, List.count_cons]
        by_cases e : y = a
        · subst e
          rw [if_pos (beq_self_eq_true y), if_neg na, if_pos List.mem_cons_self]
          omega
        · rw [if_neg (by rw [beq_iff_eq]; exact e)]
          by_cases m : y ∈ l
          · rw [if_pos m, if_pos (List.mem_cons_of_mem _ m)]
            omega
          · rw [if_neg m, if_neg fun w => (List.mem_cons.mp w).elim e m]
            omega
    rw [key nd, ih, if_pos (h y List.mem_cons_self), List.length_cons]
    omega
theorem eq_of_le {c r : Str → Int} : ∀ {pl : List Str}, (∀ x ∈ pl, c x ≤ r x) → (pl.map c).sum = (pl.map r).sum → ∀ x ∈ pl, c x = r x
  | [], _, _, x, h => by cases h
  | a :: l, le, e, x, h => by
    rw [List.map_cons, List.map_cons, List.sum_cons, List.sum_cons] at e
    have le' : (l.map c).sum ≤ (l.map r).sum := by
      have : ∀ {l : List Str}, (∀ x ∈ l, c x ≤ r x) → (l.map c).sum ≤ (l.map r).sum := by
        intro l
        induction l with
        | nil => intro _; exact Int.le_refl _
        | cons b l ih =>
          intro h
          rw [List.map_cons, List.map_cons, List.sum_cons, List.sum_cons]
          have := h b List.mem_cons_self
          have := ih fun x hx => h x (List.mem_cons_of_mem _ hx)
          omega
      exact this fun x hx => le x (List.mem_cons_of_mem _ hx)
    have la := le a List.mem_cons_self
    rcases List.mem_cons.mp h with rfl | h
    · omega
    · exact eq_of_le (fun x hx => le x (List.mem_cons_of_mem _ hx)) (by omega) x h
theorem le_sumK {r : Str → Int} : ∀ {pl : List Str}, (∀ x ∈ pl, 0 ≤ r x) → ∀ p ∈ pl, r p ≤ (pl.map r).sum
  | [], _, p, h => by cases h
  | a :: l, nn, p, h => by
    rw [List.map_cons, List.sum_cons]
    have n0 : 0 ≤ (l.map r).sum := by
      have : ∀ {l : List Str}, (∀ x ∈ l, 0 ≤ r x) → 0 ≤ (l.map r).sum := by
        intro l
        induction l with
        | nil => intro _; exact Int.le_refl _
        | cons b l ih =>
          intro h
          rw [List.map_cons, List.sum_cons]
          have := h b List.mem_cons_self
          have := ih fun x hx => h x (List.mem_cons_of_mem _ hx)
          omega
      exact this fun x hx => nn x (List.mem_cons_of_mem _ hx)
    have na := nn a List.mem_cons_self
    rcases List.mem_cons.mp h with rfl | h
    · omega
    · have := le_sumK (fun x hx => nn x (List.mem_cons_of_mem _ hx)) p h
      omega
theorem sum_less {r : Nat → Str → Int} {p : Str} {u : Int} {i : Nat} : ∀ {pl : List Str}, pl.Nodup → p ∈ pl → (pl.map (lessR r p u i)).sum = (pl.map (r i)).sum - u
  | [], _, h => by cases h
  | a :: l, nd, h => by
    obtain ⟨na, nl⟩ := List.nodup_cons.mp nd
    rw [List.map_cons, List.sum_cons, List.map_cons, List.sum_cons]
    by_cases e : a = p
    · have same : l.map (lessR r p u i) = l.map (r i) := List.map_congr_left fun x hx => by
        unfold lessR
        rw [if_neg fun z => na (by rw [e, ← z]; exact hx)]
      rw [same]
      unfold lessR
      rw [if_pos e]
      omega
    · have := sum_less (r := r) (u := u) (i := i) nl ((List.mem_cons.mp h).resolve_left fun z => e z.symm)
      rw [this]
      unfold lessR
      rw [if_neg e]
      omega
theorem resid_cntW {ts : List (Str × Str)} {zs : List Str} {s : Str → Int} (o : TreeOk ts) (pl : ∀ z ∈ zs, Pl ts z) (h : ∀ p, Pl ts p → (zs.count p : Int) = resid ts (zs.length : Int) s p) {a : Str} (ha : a ∈ ts.map Prod.fst) : szZ ts zs a = s a := by
  rw [← atU_lsz o pl ha]
  exact lens_lsz o (n := (zs.length : Int)) (sz := s) (fun p hp => by rw [atU_count]; exact h p hp) ha
theorem res_plsW {ts : List (Str × Str)} {s : Str → Int} (o : TreeOk ts) {n : Int} : ((pls ts).map (resid ts n s)).sum = n := by
  have e : ((pls ts).map fun p : Str => (if p = ("" : Str) then n else s p) - ((kids ts p).map s).sum).sum = n := by
    rw [sum_map_sub, kids_sum (pls_nd o) fun k _ => s k]
    have e1 : (ts.map fun q => if q.2 ∈ pls ts then s q.1 else 0).sum = ((ts.map Prod.fst).map s).sum := by
      rw [List.map_map]
      congr 1
      refine List.map_congr_left fun q hq => ?_
      rw [if_pos (mem_pls.mpr (par_pl o (par_of o.nd (a := q.1) (z := q.2) hq)))] <;> rfl
    rw [e1]
    unfold pls
    rw [List.map_cons, List.sum_cons, if_pos rfl]
    have e2 : ((ts.map Prod.fst).map fun p : Str => if p = ("" : Str) then n else s p) = (ts.map Prod.fst).map s := List.map_congr_left fun a ha => if_neg fun z => o.root (by rw [← z]; exact ha)
    rw [e2]
    omega
  exact e
theorem perm_sumK {l m : List Int} (p : l.Perm m) : l.sum = m.sum := by
  induction p with
  | nil => rfl
  | cons x _ ih => rw [List.sum_cons, List.sum_cons, ih]
  | swap x y l =>
    rw [List.sum_cons, List.sum_cons, List.sum_cons, List.sum_cons]
    omega
  | trans _ _ ih1 ih2 => exact ih1.trans ih2
/-- what is left is not below zero, and its sum -/
theorem less_ok {t ts : List (Str × Str)} (o : TreeOk t) (pts : ts.Perm t) (nt : twoC ts = false) {n : Int} (n2 : 2 ≤ n) {pl : List Str} (ppl : pl.Perm (pls t)) {p : Str} {u : Int} (mp : p ∈ pl)
    {r : Nat → Str → Int} (er : r = fun i => resid t n (wW ts n i)) (hu : u = 0 ∨ 0 < u ∧ u = sureR pl r p) : (∀ i, i < 3 → ∀ x ∈ pl, 0 ≤ lessR r p u i x) ∧ ∀ i, (pl.map (lessR r p u i)).sum = n - u := by
  have ot : TreeOk ts := o.perm pts.symm
  have nd : pl.Nodup := ppl.nodup_iff.mpr (pls_nd o)
  have plPl : ∀ x ∈ pl, Pl t x := fun x hx => mem_pls.mp (ppl.mem_iff.mp hx)
  have fea : ∀ i, i < 3 → Fea t n (wW ts n i) := fun i hi => Fea.perm pts (wit_fea ot nt n2 i hi)
  have rn : ∀ i, i < 3 → ∀ x ∈ pl, 0 ≤ r i x := fun i hi x hx => by
    rw [er]
    exact (fea i hi).res x (List.mem_cons.mpr (plPl x hx))
  have rs : ∀ i, (pl.map (r i)).sum = n := fun i => by
    rw [er]
    exact (perm_sumK (ppl.map _)).trans (res_plsW o)
  have u0 : 0 ≤ u := by omega
  have ule : ∀ i, i < 3 → u ≤ r i p := fun i hi => by
    have q0 := rn 0 (by decide) p mp
    have q1 := rn 1 (by decide) p mp
    have q2 := rn 2 (by decide) p mp
    have z0 := le_sumK (rn 0 (by decide)) p mp
    have z1 := le_sumK (rn 1 (by decide)) p mp
    have z2 := le_sumK (rn 2 (by decide)) p mp
    rw [rs] at z0 z1 z2
    rcases hu with e | ⟨_, e⟩
    · rw [e]
      exact rn i hi p mp
    · unfold sureR at e
      simp only [rs, List.sum_cons, List.sum_nil] at e
      match i, hi with
      | 0, _ => omega
      | 1, _ => omega
      | 2, _ => omega
  have ln : ∀ i, i < 3 → ∀ x ∈ pl, 0 ≤ lessR r p u i x := fun i hi x hx => by
    unfold lessR
    by_cases e : x = p
    · rw [if_pos e, e]
      have := ule i hi
      omega
    · rw [if_neg e]
      exact rn i hi x hx
  have ls : ∀ i, (pl.map (lessR r p u i)).sum = n - u := fun i => by rw [sum_less nd mp, rs]
  exact ⟨ln, ls⟩
theorem sum_repW {g : Str → Nat} : ∀ ks : List Str, (ks.flatMap fun y => List.replicate (g y) y).length = (ks.map g).sum
  | [] => rfl
  | y :: ks => by rw [List.flatMap_cons, List.length_append, List.length_replicate, sum_repW ks, List.map_cons, List.sum_cons]
theorem count_repW {g : Str → Nat} {x : Str} : ∀ {ks : List Str}, ks.Nodup → (ks.flatMap fun y => List.replicate (g y) y).count x = if x ∈ ks then g x else 0
  | [], _ => rfl
  | y :: ks, nd => by
    obtain ⟨ny, nk⟩ := List.nodup_cons.mp nd
    rw [List.flatMap_cons, List.count_append, List.count_replicate, count_repW nk]
    by_cases e : y = x
    · subst e
      rw [if_pos (beq_self_eq_true y), if_neg ny, if_pos List.mem_cons_self]
      omega
    · rw [if_neg (by rw [beq_iff_eq]; exact e)]
      by_cases m : x ∈ ks
      · rw [if_pos m, if_pos (List.mem_cons_of_mem _ m)]
        omega
      · rw [if_neg m, if_neg fun w => (List.mem_cons.mp w).elim (fun z => e z.symm) m]
theorem nat_sumW {f : Str → Int} : ∀ {l : List Str}, (∀ a ∈ l, 0 ≤ f a) → (((l.map fun a => (f a).toNat).sum : Nat) : Int) = (l.map f).sum
  | [], _ => rfl
  | a :: l, h => by
    rw [List.map_cons, List.map_cons, List.sum_cons, List.sum_cons, ← nat_sumW fun x hx => h x (List.mem_cons_of_mem _ hx)]
    have := h a List.mem_cons_self
    omega
/-- the three lists, the users set aside among them -/
theorem no_place {t ts : List (Str × Str)} (o : TreeOk t) (pts : ts.Perm t) (nt : twoC ts = false) {n : Int} (n2 : 2 ≤ n) {pl fs : List Str} (ppl : pl.Perm (pls t)) {p : Str} {u : Int} (mp : p ∈ pl)
    {r : Nat → Str → Int} (er : r = fun i => resid t n (wW ts n i)) (hu : u = 0 ∨ 0 < u ∧ u = sureR pl r p) (mfs : ∀ x ∈ fs, x ∈ pl) (cfs : ∀ x ∈ pl, (fs.count x : Int) = lessR r p u 0 x)
    (h : Plcd t (fun i => wW ts n i) pl fs (lessR r p u 1) (lessR r p u 2)) : False := by
  have ot : TreeOk ts := o.perm pts.symm
  have nd : pl.Nodup := ppl.nodup_iff.mpr (pls_nd o)
  have plPl : ∀ x ∈ pl, Pl t x := fun x hx => mem_pls.mp (ppl.mem_iff.mp hx)
  have fea : ∀ i, i < 3 → Fea t n (wW ts n i) := fun i hi => Fea.perm pts (wit_fea ot nt n2 i hi)
  have rn : ∀ i, i < 3 → ∀ x ∈ pl, 0 ≤ r i x := fun i hi x hx => by
    rw [er]
    exact (fea i hi).res x (List.mem_cons.mpr (plPl x hx))
  have rs : ∀ i, (pl.map (r i)).sum = n := fun i => by
    rw [er]
    exact (perm_sumK (ppl.map _)).trans (res_plsW o)
  have u0 : 0 ≤ u := by omega
  have ule : ∀ i, i < 3 → u ≤ r i p := fun i hi => by
    have q0 := rn 0 (by decide) p mp
    have q1 := rn 1 (by decide) p mp
    have q2 := rn 2 (by decide) p mp
    have z0 := le_sumK (rn 0 (by decide)) p mp
    have z1 := le_sumK (rn 1 (by decide)) p mp
    have z2 := le_sumK (rn 2 (by decide)) p mp
    rw [rs] at z0 z1 z2
    rcases hu with e | ⟨_, e⟩
    · rw [e]
      exact rn i hi p mp
    · unfold sureR at e
      simp only [rs, List.sum_cons, List.sum_nil] at e
      match i, hi with
      | 0, _ => omega
      | 1, _ => omega
      | 2, _ => omega
  have ln : ∀ i, i < 3 → ∀ x ∈ pl, 0 ≤ lessR r p u i x := fun i hi x hx => by
    unfold lessR
    by_cases e : x = p
    · rw [if_pos e, e]
      have := ule i hi
      omega
    · rw [if_neg e]
      exact rn i hi x hx
  have ls : ∀ i, (pl.map (lessR r p u i)).sum = n - u := fun i => by rw [sum_less nd mp, rs]
  have lf : (fs.length : Int) = n - u := by
    rw [← sum_cntW nd mfs, ← ls 0]
    congr 1
    exact List.map_congr_left cfs
  obtain ⟨z1, z2, l1, l2, m1, m2, c1, c2, ok⟩ := plcd_lists h
  have full : ∀ (z : List Str) (i : Nat), i < 3 → z.length = fs.length → (∀ x ∈ z, x ∈ pl) → (∀ x, z.count x = 0 ∨ (z.count x : Int) ≤ lessR r p u i x) → ∀ x ∈ pl, (z.count x : Int) = lessR r p u i x := fun z i hi lz mz cz => by
    refine eq_of_le (fun x hx => ?_) ?_
    · rcases cz x with e | e
      · rw [e]
        exact ln i hi x hx
      · exact e
    · rw [sum_cntW nd mz, ls, lz, lf]
  have f1 := full z1 1 (by decide) l1 m1 c1
  have f2 := full z2 2 (by decide) l2 m2 c2
  obtain ⟨k, ek⟩ : ∃ k : Nat, k = u.toNat := ⟨_, rfl⟩
  have N : ∀ z : List Str, z.length = fs.length → (z ++ List.replicate k p).length = n.toNat := fun z lz => by
    rw [List.length_append, List.length_replicate, lz]
    omega
  have en : ((n.toNat : Nat) : Int) = n := by omega
  have Pz : ∀ z : List Str, (∀ x ∈ z, x ∈ pl) → ∀ x ∈ z ++ List.replicate k p, Pl ts x := fun z mz x hx => by
    have : x ∈ pl := (List.mem_append.mp hx).elim (mz x) fun h => (List.mem_replicate.mp h).2 ▸ mp
    exact (plPl x this).imp id fun m => (pts.map Prod.fst).mem_iff.mpr m
  have Sz : ∀ (z : List Str) (i : Nat), z.length = fs.length → (∀ x ∈ z, x ∈ pl) → (∀ x ∈ pl, (z.count x : Int) = lessR r p u i x) → ∀ a ∈ ts.map Prod.fst, szZ ts (z ++ List.replicate k p) a = wW ts (n.toNat : Nat) i a := fun z i lz mz cz a ha => by
    rw [en]
    refine resid_cntW ot (Pz z mz) (fun x px => ?_) ha
    rw [N z lz, en, resid_perm pts]
    have mx : x ∈ pl := ppl.mem_iff.mpr (mem_pls.mpr (px.imp id fun m => (pts.map Prod.fst).mem_iff.mp m))
    have c := cz x mx
    rw [List.count_append, List.count_replicate]
    unfold lessR at c
    rw [er] at c
    by_cases e : x = p
    · rw [if_pos e] at c
      rw [if_pos (by rw [beq_iff_eq]; exact e.symm)]
      have c2 : (z.count x : Int) = resid t n (wW ts n i) x - u := c
      clear c
      omega
    · rw [if_neg e] at c
      rw [if_neg (by rw [beq_iff_eq]; exact fun w => e w.symm)]
      have c2 : (z.count x : Int) = resid t n (wW ts n i) x := c
      omega
  have way : ∀ (x y : List Str) (i j : Nat), (i, j) ∈ prs3 → x.length = fs.length → y.length = fs.length → (∀ (m : Nat) (f g : Str), x[m]? = some f → y[m]? = some g → ∀ a ∈ t.map Prod.fst, ¬ stpA t f g a * (wW ts n j a - wW ts n i a) < 0 ∧ (wW ts n j a - wW ts n i a = 0 → stpA t f g a = 0)) → OneWay ts (x ++ List.replicate k p) (y ++ List.replicate k p) := by
    intro x y i j hij lx ly hok a ha
    have ma : a ∈ t.map Prod.fst := (pts.map Prod.fst).mem_iff.mp ha
    have pp : ∀ z, pathOf ts z = pathOf t z := fun z => path_perm ot.nd pts z
    have both : ∀ (x y : List Str), x.length = fs.length → y.length = fs.length → (∀ (m : Nat) (f g : Str), x[m]? = some f → y[m]? = some g → a ∈ pathOf t f → a ∈ pathOf t g) → LeB (Hs ts (x ++ List.replicate k p) a) (Hs ts (y ++ List.replicate k p) a) := fun x y lx ly hh m e => by
      obtain ⟨z, hz, mz⟩ := Hs_true e
      rw [pp] at mz
      have il := (List.getElem?_eq_some_iff.mp hz).1
      rw [List.length_append, List.length_replicate] at il
      by_cases lt : m < x.length
      · rw [List.getElem?_append_left lt] at hz
        obtain ⟨g, hg⟩ : ∃ g, y[m]? = some g := ⟨_, List.getElem?_eq_getElem (by omega)⟩
        rw [Hs_get (z := g) (by rw [List.getElem?_append_left (by omega)]; exact hg), decide_eq_true (by rw [pp]; exact hh m z g hz hg mz)]
      · rw [List.getElem?_append_right (by omega)] at hz
        have ez : z = p := (List.mem_replicate.mp (List.mem_of_getElem? hz)).2
        rw [Hs_get (z := p) (by rw [List.getElem?_append_right (by omega), List.getElem?_replicate, if_pos (by omega)]), decide_eq_true (by rw [pp, ← ez]; exact mz)]
    by_cases up : 0 ≤ wW ts n j a - wW ts n i a
    · left
      refine both x y lx ly fun m f g hf hg mf => Classical.byContradiction fun ng => ?_
      obtain ⟨q1, q2⟩ := hok m f g hf hg a ma
      have st : stpA t f g a = -1 := by
        unfold stpA
        rw [if_neg ng, if_pos mf] <;> rfl
      rw [st] at q1 q2
      by_cases e : wW ts n j a - wW ts n i a = 0
      · exact absurd (q2 e) (by decide)
      · omega
    · right
      refine both y x ly lx fun m g f hg hf mg' => Classical.byContradiction fun nf => ?_
      obtain ⟨q1, q2⟩ := hok m f g hf hg a ma
      have st : stpA t f g a = 1 := by
        unfold stpA
        rw [if_pos mg', if_neg nf] <;> rfl
      rw [st] at q1
      omega
  have okk : ∀ (m : Nat) (f g h : Str), fs[m]? = some f → z1[m]? = some g → z2[m]? = some h → ∀ a ∈ t.map Prod.fst, (¬ stpA t f g a * (wW ts n 1 a - wW ts n 0 a) < 0 ∧ (wW ts n 1 a - wW ts n 0 a = 0 → stpA t f g a = 0)) ∧ (¬ stpA t f h a * (wW ts n 2 a - wW ts n 0 a) < 0 ∧ (wW ts n 2 a - wW ts n 0 a = 0 → stpA t f h a = 0)) ∧ (¬ stpA t g h a * (wW ts n 2 a - wW ts n 1 a) < 0 ∧ (wW ts n 2 a - wW ts n 1 a = 0 → stpA t g h a = 0)) := fun m f g h e1 e2 e3 a ma =>
    ⟨ok m f g h e1 e2 e3 a ma (0, 1) (by decide), ok m f g h e1 e2 e3 a ma (0, 2) (by decide), ok m f g h e1 e2 e3 a ma (1, 2) (by decide)⟩
  have get : ∀ (z : List Str) (m : Nat), z.length = fs.length → m < fs.length → ∃ g, z[m]? = some g := fun z m lz lm => ⟨_, List.getElem?_eq_getElem (by omega)⟩
  have w01 := way fs z1 0 1 (by decide) rfl l1 fun m f g e1 e2 a ma => by
    obtain ⟨h, e3⟩ := get z2 m l2 (List.getElem?_eq_some_iff.mp e1).1
    exact (okk m f g h e1 e2 e3 a ma).1
  have w02 := way fs z2 0 2 (by decide) rfl l2 fun m f h e1 e3 a ma => by
    obtain ⟨g, e2⟩ := get z1 m l1 (List.getElem?_eq_some_iff.mp e1).1
    exact (okk m f g h e1 e2 e3 a ma).2.1
  have w12 := way z1 z2 1 2 (by decide) l1 l2 fun m g h e2 e3 a ma => by
    obtain ⟨f, e1⟩ := get fs m rfl (by have := (List.getElem?_eq_some_iff.mp e2).1; omega)
    exact (okk m f g h e1 e2 e3 a ma).2.2
  exact wit_no ot nt (N fs rfl) (N z1 l1) (N z2 l2) (Pz fs mfs) (Pz z1 m1) (Pz z2 m2) (Sz fs 0 rfl mfs cfs) (Sz z1 1 l1 m1 f1) (Sz z2 2 l2 m2 f2) w01 w02 w12
end FT


/-! _law_is_witness of k24 -/
namespace FT
open PySem L2 TL ClX LiI
def spIsWit : Sp := fun vs H Q _ => ∃ (q Rt : Addr) (qi : Nat → Addr) (n : Int) (t ts : List (Str × Str)), vs = [.ref q, .int n, .ref Rt] ∧ H q = some (.dK (prs t)) ∧ TreeOk t ∧ ts.Perm t ∧ 2 ≤ n ∧ twoC ts = false ∧ Three (ts.map Prod.fst) (fun i => wW ts n i) H Rt qi ∧ ∀ H', Same H H' → Q (.bl true) H'
abbrev NIw : List Str := ["_law_parents", "_law_folk", "_law_three", "_law_wide", "_law_rows", "_law_firsts", "_law_place"]
section
variable {P : Program} {w : World} {K : PySem.W.Frag} {mg : Str → Option Value} {base : Heap}
theorem scIw : FnScope NIw ["_law_parents", "_law_folk", "_law_three"] (defScope s__law_is_witness) := ⟨rfl, rfl, rfl, by decide +kernel, rfl, by decide +kernel, by decide +kernel⟩
theorem ok_isWit {f0 fF fL fR fC : Addr} {fd fdF fdL fdR fdC : FuncData} (F : Fun K "_law_is_witness" "_law_is_witness" s__law_is_witness f0 fd) (T : Nm mg)
    (FI : Dn P w K mg base CX0 1 "_law_fits" ["_law_parents", "_law_folk", "_law_wide"] spFits fF fdF) (LE : Dn P w K mg base CX0 1 "_law_left" ["_law_parents", "_law_folk", "_law_wide"] spLeft fL fdL)
    (RD : Dn P w K mg base CX0 1 "_law_reduced" ["_law_rows"] spReduc fR fdR) (CP : Dn P w K mg base CX0 12 "_law_can_place" ["_law_parents", "_law_three", "_law_firsts", "_law_second", "_law_third", "_law_last"] (spCanPl 9) fC fdC) :
    FnOk P w K mg base CX0 13 f0 fd ["_law_parents", "_law_folk", "_law_three"] spIsWit := by
  refine F.ok scIw (fun vs H Q E h => ?_) (fun cdv A outer s H vs Q E hr h => ?_)
  · obtain ⟨q, Rt, qi, n, t, ts, rfl, _⟩ := h
    rfl
  · obtain ⟨q, Rt, qi, n, t, ts, rfl, hq, o, pts, n2, nt, th, k⟩ := h
    have hu := hu_of hr
    have nd := scIw.nd
    have hr1 : Room 1 _ := hr.mono (by decide)
    have hr12 : Room 12 _ := hr.mono (by decide)
    have big : 5000 ≤ sizeLine := by decide
    have few := o.few
    refine ⟨_, pss_cons (ps_for PassesOwn.never rfl (pi_list (pv 2)) (pg_name (i := 3) nd rfl (.inl rfl))
        (pss_one (ps_if (PW.pt (pw_or (pt_cmpR (op_neD hr.units) (pe_callB (call_sortedD rfl) (by rfl) T.srt (by decide +kernel) (pa_cons (pv 3) pa_nil)) (pe_callB (call_sortedD rfl) (by rfl) T.srt (by decide +kernel) (pa_cons (pv 0) pa_nil)) (nomark _)) (pw_or1 (pt_not (pt_val (pe_call FI.ok hr1 rfl FI.mgn FI.kp FI.bn .nil pass0 (pa_cons (pv 0) (pa_cons (pv 1) (pa_cons (pv 3) pa_nil))))))))) (pss_one (ps_ret pe_bl)) pss_nil)))
      (pss_cons (ps_par (i := 4) (j := 5) rfl nd rfl rfl (by decide) rfl rfl (pa_cons (pe_call RD.ok hr1 rfl RD.mgn RD.kp RD.bn .nil pass0 (pa_cons (pe_lc (own := [("_law_wide", 3)]) (g := gName 3) (tt := tYes) rfl nd (pi_list (pv 2)) (blkOk_by (N := NIw) (sc := defScope s__law_is_witness) (by decide +kernel)) (fun _ _ _ _ _ => pg_name (i := 3) nd rfl (Or.inl rfl)) (fun _ _ _ _ _ => pts_nil)
            (fun _ _ _ _ _ => pe_call LE.ok hr1 rfl LE.mgn LE.kp LE.bn .nil pass0 (pa_cons (pv 0) (pa_cons (pv 1) (pa_cons (pv 3) pa_nil))))) pa_nil)) (pa_cons (pe_lst pa_nil) pa_nil)) (by rfl))
      (pss_cons (ps_if (pt_cmpR op_gt (pe_callB (cr_sumV rfl) (by rfl) T.sum (by decide +kernel) (pa_cons (pe_bm0 PySem.F.plainAttrs_dict PySem.F.slot_dict_values PySem.F.type_dict_values mt_dvals (pe_ix ix_list (pv 4) pe_int (fun _ _ => rfl))) pa_nil)) pe_int (nomark _)) (pss_one (ps_ret pe_bl)) pss_nil)
      (pss_cons (ps_for PassesOwn.never rfl (pi_list (pe_callB (call_sortedD rfl) (by rfl) T.srt (by decide +kernel) (pa_cons (pe_ix ix_list (pv 4) pe_int (fun _ _ => rfl)) pa_nil))) (pg_name (i := 6) nd rfl (.inl rfl))
        (pss_one (ps_set (i := 5) nd rfl (.inl rfl) (pe_op op_cat (pv 5) (pe_op op_rep (pe_lst (pa_cons (pv 6) pa_nil)) (pe_dget hu (pe_ix ix_list (pv 4) pe_int (fun _ _ => rfl)) (pv 6) (fun _ _ => rfl)))))))
      (pss_one (ps_ret (pe_not (pe_call CP.ok hr12 rfl CP.mgn CP.kp CP.bn .nil pass0 (pa_cons (pv 0) (pa_cons (pv 2) (pa_cons (pv 5) (pa_cons (pe_ix ix_list (pv 4) pe_int (fun _ _ => rfl)) (pa_cons (pe_ix ix_list (pv 4) pe_int (fun _ _ => rfl)) (pa_cons (pe_tup (pa_cons pe_str (pa_cons pe_str (pa_cons pe_str pa_nil)))) pa_nil))))))))))))), ?_⟩
    have ot : TreeOk ts := o.perm pts.symm
    have pk : (ts.map Prod.fst).Perm (t.map Prod.fst) := pts.map _
    have hR : ∀ (v : Nat → Addr) j, j < 3 → ([V.ref (v 0), .ref (v 1), .ref (v 2)] : List V)[j]? = some (.ref (v j)) := fun v j hj => match j, hj with
      | 0, _ => rfl
      | 1, _ => rfl
      | 2, _ => rfl
    -- feasible sizes
    refine ⟨_, rfl, Rt, rfl, ⟨_, SqL.of th.hR⟩, ?_⟩
    refine for_it walk_list (fun j σ' H' => (∃ u3, σ' = [some (.ref q), some (.int n), some (.ref Rt), u3, none, none, none]) ∧ Same H H') ⟨⟨_, rfl⟩, Same.refl⟩ (fun j σ' H' _ z => SqL.of (z.2 _ _ th.hR)) ?_ ?_
    · intro j y σ' Ha Hb hj ⟨⟨u3, e⟩, sa⟩ ⟨eb, ey⟩
      subst e
      subst eb
      have j3 : j < 3 := hj
      rw [hR qi j j3] at ey
      cases ey
      have hb := sa _ _ (th.hq j j3)
      refine ⟨_, rfl, qi j, _, ts.map Prod.fst, rfl, .inl hb, tblI_keys _ _, by rw [List.length_map, pts.length_eq]; omega, fun k1 p1 pk1 st1 m1 => ?_⟩
      have t1 := same_new (o := .lst (k1.map V.str)) m1
      refine ⟨_, rfl, q, prs t, t.map Prod.fst, rfl, .inl (t1 _ _ (sa _ _ hq)), prs_keys t, by rw [List.length_map]; omega, fun k2 p2 pk2 st2 m2 => ?_⟩
      have t2 := same_new (o := .lst (k2.map V.str)) m2
      have ek : k1 = k2 := sorted_one ((pk1.trans pk).trans pk2.symm) st1 st2
      subst ek
      have shp : SeqAt.shaped (.list (k1.map PyData.str)) = true := strs_shaped fun z hz => strOk_name (o.nm z (pk2.mem_iff.mp hz))
      refine ⟨_, _, .lst (SqL.of (t2 _ _ upd_same)) (dps_strs _), .lst (SqL.of upd_same) (dps_strs _), shp, shp, _, rfl, ?_⟩
      rw [SeqAt.eqv_refl _ (SeqAt.canLay_of_shaped shp)]
      refine iteF ?_
      have s3 := sa.trans (t1.trans t2)
      refine ⟨_, rfl, _, rfl, _, rfl, q, qi j, n, t, ts.map Prod.fst, wW ts n j, rfl, s3 _ _ hq, o, s3 _ _ (th.hq j j3), pk, fun H4 s4 => ⟨_, rfl, ?_⟩⟩
      rw [fit_fea.mpr (Fea.perm pts (wit_fea ot nt n2 j j3))]
      exact iteF ⟨⟨_, rfl⟩, s3.trans s4⟩
    intro σ' H1 ⟨⟨u3, e⟩, s1⟩
    subst e
    -- the rows
    have th1 := th.mono s1
    refine ⟨_, rfl, Rt, rfl, ⟨_, SqL.of th1.hR⟩, fun D nD => ?_⟩
    obtain ⟨pl, epl⟩ : ∃ pl : List Str, pl = ("" : Str) :: ts.map Prod.fst := ⟨_, rfl⟩
    obtain ⟨r, er⟩ : ∃ r : Nat → Str → Int, r = fun i => resid t n (wW ts n i) := ⟨_, rfl⟩
    refine lc_it walk_list (fun j H' => Same H1 H' ∧ ∃ ds : Nat → Addr, H' D = some (.lst (((List.range j).map ds).map V.ref)) ∧ ∀ i, i < j → H' (ds i) = some (.dK (tblI pl (r i))) ∧ ds i ≠ D) ⟨same_new nD, fun _ => 0, upd_same, fun i hi => absurd hi (Nat.not_lt_zero i)⟩ (fun j H' _ c => SqL.of (c.1 _ _ th1.hR)) ?_ ?_
    · intro j y Ha Hb hj ⟨sa, ds, hD, hds⟩ ⟨eb, ey⟩
      subst eb
      have j3 : j < 3 := hj
      rw [hR qi j j3] at ey
      cases ey
      have s0b := s1.trans sa
      refine ⟨rfl, ?_⟩
      refine ⟨_, rfl, _, rfl, _, rfl, q, qi j, n, t, ts.map Prod.fst, wW ts n j, rfl, s0b _ _ hq, o, s0b _ _ (th.hq j j3), pk, fun p Hc sc np hp => ?_⟩
      have Dp : D ≠ p := ne_of_none hD np
      refine ⟨_, sc _ _ hD, by rw [List.length_map, List.length_map, List.length_range]; omega, (sa.trans sc).put nD, fun i => if i = j then p else ds i, ?_, fun i hi => ?_⟩
      · rw [upd_same, List.range_succ, List.map_append, List.map_append]
        congr 3
        · refine congrArg (List.map V.ref) (List.map_congr_left fun i hi => ?_)
          rw [if_neg]
          have := List.mem_range.mp hi
          omega
        · show [V.ref p] = [V.ref (if j = j then p else ds j)]
          rw [if_pos rfl]
      · show (upd Hc D _) (if i = j then p else ds i) = _ ∧ (if i = j then p else ds i) ≠ D
        by_cases e : i = j
        · rw [if_pos e, upd_ne Dp.symm, e, epl, er]
          exact ⟨hp, Dp.symm⟩
        · rw [if_neg e]
          obtain ⟨g1, g2⟩ := hds i (by omega)
          exact ⟨by rw [upd_ne g2]; exact sc _ _ g1, g2⟩
    intro H2 ⟨s2, ds, hD2, hds⟩
    have thD : Three pl r H2 D ds := ⟨hD2, fun i hi => (hds i hi).1⟩
    have ppl : pl.Perm (pls t) := by rw [epl]; exact pk.cons _
    have ndp : pl.Nodup := ppl.nodup_iff.mpr (pls_nd o)
    have lpl : pl.length ≤ 13 := by rw [epl, List.length_cons, List.length_map, pts.length_eq]; omega
    refine ⟨D, ds, pl, r, rfl, thD, ndp, by rw [epl]; exact List.cons_ne_nil _ _, by omega, fun R2 q2 p u H3 s3 th3 mp hu' => ?_⟩
    obtain ⟨ln, ls⟩ := less_ok o pts nt n2 ppl mp er hu'
    obtain ⟨g, eg⟩ : ∃ g : Str → Int, g = lessR r p u 0 := ⟨_, rfl⟩
    have gn : ∀ x ∈ pl, 0 ≤ g x := eg ▸ ln 0 (by decide)
    have gs : (pl.map g).sum = n - u := eg ▸ ls 0
    have h30 : H3 (q2 0) = some (.dK (tblI pl g)) := eg ▸ th3.hq 0 (by decide)
    have s03 := (s1.trans s2).trans s3
    refine ⟨by show 0 ≤ sizeLine; omega, fun F nF => ⟨.ref R2, .ref F, rfl, ?_⟩⟩
    obtain ⟨H4, e4⟩ : ∃ X, X = upd H3 F (.lst ([] : List V)) := ⟨_, rfl⟩
    have s34 : Same H3 H4 := e4 ▸ same_new nF
    have hF4 : H4 F = some (.lst ([] : List V)) := by rw [e4]; exact upd_same
    rw [← e4]
    clear e4
    have th4 := th3.mono s34
    have h40 := s34 _ _ h30
    -- how many may move
    refine ⟨_, rfl, R2, _, 0, .ref (q2 0), rfl, rfl, SqL.of th4.hR, atI_nat (j := 0) rfl, .inr (.inr (.inl ⟨rfl, .inl ⟨_, h40⟩⟩)), q2 0, _, rfl, rfl, h40, fun v nv => ?_⟩
    have tv := same_new (o := VwO v (q2 0)) nv
    refine ⟨v, q2 0, _, pl.map g, rfl, upd_same, tv _ _ h40, (by unfold tblI kvT; rw [List.map_map, List.map_map, List.map_map] <;> rfl), _, _, rfl, rfl, _, rfl, ?_⟩
    obtain ⟨H5, e5⟩ : ∃ X, X = upd H4 v (VwO v (q2 0)) := ⟨_, rfl⟩
    rw [← e5] at tv ⊢
    clear e5
    have s05 := (s03.trans s34).trans tv
    refine ite2 (fun _ => k _ s05) (fun no => ?_)
    have few8 : (pl.map g).sum ≤ 8 := Int.not_lt.mp fun z => no (decide_eq_true z)
    have th5 := th4.mono tv
    have h50 := tv _ _ h40
    refine ⟨_, rfl, R2, _, 0, .ref (q2 0), rfl, rfl, SqL.of th5.hR, atI_nat (j := 0) rfl, q2 0, tblI pl g, pl, rfl, .inl h50, tblI_keys _ _, (by omega), fun ks pn pks srt npn => ⟨pn, rfl, ⟨_, SqL.of upd_same⟩, ?_⟩⟩
    obtain ⟨H6, e6⟩ : ∃ X, X = upd H5 pn (.lst (ks.map V.str)) := ⟨_, rfl⟩
    have s56 : Same H5 H6 := e6 ▸ same_new npn
    have hpn : H6 pn = some (.lst (ks.map V.str)) := by rw [e6]; exact upd_same
    rw [← e6]
    clear e6
    have s06 := s05.trans s56
    have th6 := th5.mono s56
    have h60 := s56 _ _ h50
    have ndk : ks.Nodup := pks.nodup_iff.mpr ndp
    obtain ⟨FS, eFS⟩ : ∃ FS : List Str → List Str, FS = fun l => l.flatMap fun y => List.replicate (g y).toNat y := ⟨_, rfl⟩
    have tot : (FS ks).length ≤ 8 := by
      rw [eFS]
      show (ks.flatMap fun y => List.replicate (g y).toNat y).length ≤ 8
      rw [sum_repW]
      have z1 := nat_sumW (f := g) (l := ks) fun a ha => gn a (pks.mem_iff.mp ha)
      have z2 : (ks.map g).sum = (pl.map g).sum := perm_sumK (pks.map g)
      omega
    have part : ∀ j, (FS (ks.take j)).length ≤ 8 := fun j => by
      have e : FS ks = FS (ks.take j) ++ FS (ks.drop j) := by
        rw [eFS]
        show (ks.flatMap _) = (ks.take j).flatMap _ ++ (ks.drop j).flatMap _
        rw [← List.flatMap_append, List.take_append_drop]
      have := congrArg List.length e
      rw [List.length_append] at this
      omega
    refine for_it walk_list (fun j σ' H' => (∃ a5 u6, σ' = [some (.ref q), some (.int n), some (.ref Rt), u3, some (.ref R2), some (.ref a5), u6] ∧ H' a5 = some (.lst ((FS (ks.take j)).map V.str))) ∧ Same H6 H') ⟨⟨F, _, rfl, by rw [eFS]; exact s56 _ _ (tv _ _ hF4)⟩, Same.refl⟩ (fun j σ' H' _ c => SqL.of (c.2 _ _ hpn)) ?_ ?_
    · intro j y σ' Ha Hb hj ⟨⟨a5, u6, e, ha5⟩, sa⟩ ⟨eb, ey⟩
      subst e
      subst eb
      obtain ⟨x, hx, rfl⟩ := map_of (f := V.str) (l := ks) ey
      have mx : x ∈ pl := pks.mem_iff.mp (List.mem_of_getElem? hx)
      have gx8 : g x ≤ 8 := by
        have := le_sumK gn x mx
        omega
      have gx0 := gn x mx
      refine ⟨_, rfl, _, rfl, by show 1 ≤ sizeLine; omega, fun p1 np1 => ?_⟩
      have w1 := same_new (o := .lst [.str x]) np1
      have dg : DGet (upd Hb p1 (.lst [.str x])) (q2 0) (.str x) (some (.int (g x))) := by
        have c := DGet.k (k := Sum.inr x) (w1 _ _ (sa _ _ h60))
        rw [tblI_val mx] at c
        exact c
      refine ⟨_, rfl, R2, _, 0, .ref (q2 0), rfl, rfl, SqL.of (w1 _ _ (sa _ _ th6.hR)), atI_nat (j := 0) rfl, _, rfl, q2 0, _, rfl, dg, p1, g x, [.str x], rfl, rfl, upd_same, by omega, by omega, by show 1 * _ ≤ sizeLine; omega, fun p2 np2 => ?_⟩
      rw [show (List.replicate (g x).toNat [V.str x]).flatten = (List.replicate (g x).toNat x).map V.str from by rw [List.map_replicate]; generalize (g x).toNat = m; induction m with | zero => rfl | succ m ih => rw [List.replicate_succ, List.flatten_cons, ih, List.replicate_succ] <;> rfl]
      have w2 := same_new (o := .lst ((List.replicate (g x).toNat x).map V.str)) np2
      have pj := part j
      refine ⟨a5, p2, _, _, rfl, rfl, w2 _ _ (w1 _ _ ha5), upd_same, by rw [List.length_map, List.length_map, List.length_replicate]; omega, fun p3 np3 => ⟨⟨p3, _, rfl, ?_⟩, ((sa.trans w1).trans w2).trans (same_new np3)⟩⟩
      rw [upd_same, ← List.map_append, take_more hx, eFS]
      show some (HO.lst _) = some (HO.lst (((ks.take j ++ [x]).flatMap fun y => List.replicate (g y).toNat y).map V.str))
      rw [List.flatMap_append, List.flatMap_cons, List.flatMap_nil, List.append_nil]
    · intro σ' H7 ⟨⟨a5, u6, e, ha5⟩, s67⟩
      subst e
      rw [List.length_map, List.take_length] at ha5
      have s07 := s06.trans s67
      have th7 := th6.mono s67
      refine ⟨_, rfl, _, rfl, _, rfl, _, rfl, R2, _, 1, .ref (q2 1), rfl, rfl, SqL.of th7.hR, atI_nat (j := 1) rfl, _, rfl, R2, _, 2, .ref (q2 2), rfl, rfl, SqL.of th7.hR, atI_nat (j := 2) rfl, by show 3 ≤ sizeLine; omega, fun tp ntp => ?_⟩
      have w8 := same_new (o := .tup [.str "", .str "", .str ""]) ntp
      have s08 := s07.trans w8
      have mf : ∀ x ∈ FS ks, x ∈ pl := fun x hx => by
        rw [eFS] at hx
        obtain ⟨y, hy, h⟩ := List.mem_flatMap.mp hx
        rw [(List.mem_replicate.mp h).2]
        exact pks.mem_iff.mp hy
      have plPl : ∀ x ∈ pl, Pl t x := fun x hx => mem_pls.mp (ppl.mem_iff.mp hx)
      have cf : ∀ x ∈ pl, ((FS ks).count x : Int) = lessR r p u 0 x := fun x hx => by
        rw [eFS]
        show (((ks.flatMap fun y => List.replicate (g y).toNat y).count x : Nat) : Int) = _
        rw [count_repW ndk, if_pos (pks.mem_iff.mpr hx), ← eg]
        have := gn x hx
        omega
      refine ⟨q, Rt, a5, q2 1, q2 2, tp, qi, t, ts.map Prod.fst, pl, FS ks, fun i => wW ts n i, lessR r p u 1, lessR r p u 2, "", "", "", rfl, s08 _ _ hq, o, th.mono s08, pk, w8 _ _ ha5, fun z hz => plPl z (mf z hz), by omega, by decide, w8 _ _ (th7.hq 1 (by decide)), w8 _ _ (th7.hq 2 (by decide)), ndp, by omega, plPl, upd_same, fun b H9 s9 hb => ⟨b, rfl, ?_⟩⟩
      cases b with
      | false => exact k _ (s08.trans s9)
      | true => exact (no_place o pts nt n2 ppl mp er hu' mf cf (hb rfl)).elim
end
end FT


/-! the text of what witness tells, of many users -/
namespace FT
open PySem L2 TL ClX LiI
theorem int_bigK {u : Int} (h0 : 0 ≤ u) (h1 : u ≤ 10 ^ 30) : (PyData.shown (.int u)).length ≤ 40 ∧ PyData.showable (.int u) = true := by
  obtain ⟨n, rfl⟩ := Int.eq_ofNat_of_zero_le h0
  have lt : n < 10 ^ 31 := by omega
  refine ⟨?_, ?_⟩
  · have e : PyData.shown (.int (n : Int)) = Str.ofString (toString ((n : Nat) : Int)) := by
      simp only [PyData.shown]
    rw [e, len_tl, tl_num]
    exact Nat.le_trans (numL_len (by decide) lt) (by decide)
  · simp only [PyData.showable, decide_eq_true_eq]
    refine PySem.Spec.log2_small ?_
    rw [Int.natAbs_natCast]
    refine Nat.lt_of_lt_of_le lt ?_
    exact Nat.le_trans (show 10 ^ 31 ≤ 2 ^ 200 by decide) (Nat.pow_le_pow_right (by decide) (by decide))
theorem str_leafK {z : Str} (h : PyData.strOk z = true) : PyData.leavesShort 40 (.str z) = true := by
  unfold PyData.leavesShort
  rw [List.all_eq_true]
  unfold PyData.strOk at h
  intro c hc
  have h := Array.all_eq_true_iff_forall_mem.mp h c (Array.mem_toList_iff.mp hc)
  have h := of_decide_eq_true h
  exact decide_eq_true (by omega)
theorem szKv_showK : ∀ {l : List Str} {s : Str → Int}, (∀ p ∈ l, PyData.strOk p = true ∧ p.length ≤ 8 ∧ 0 ≤ s p ∧ s p ≤ 10 ^ 30) → PyData.showableKv (szKv l s) = true ∧ PyData.leavesShortKv 40 (szKv l s) = true ∧ PyData.depthKv (szKv l s) ≤ 1 ∧ PyData.bulkKv (szKv l s) ≤ 70 * l.length
  | [], _, _ => ⟨rfl, rfl, Nat.zero_le _, Nat.zero_le _⟩
  | p :: l, s, h => by
    obtain ⟨h1, h2, h3, h4⟩ := szKv_showK (l := l) (s := s) fun v hv => h v (List.mem_cons_of_mem _ hv)
    obtain ⟨p1, p2, p3, p4⟩ := h p (List.mem_cons_self ..)
    obtain ⟨q1, q2⟩ := int_bigK p3 p4
    refine ⟨?_, ?_, ?_, ?_⟩
    · show (true && PyData.showable (.int (s p)) && PyData.showableKv (szKv l s)) = true
      rw [q2, h1] <;> rfl
    · show (PyData.leavesShort 40 (.str p) && decide ((PyData.shown (.int (s p))).length ≤ 40) && PyData.leavesShortKv 40 (szKv l s)) = true
      rw [str_leafK p1, decide_eq_true q1, h2] <;> rfl
    · show max (max 0 0) (PyData.depthKv (szKv l s)) ≤ 1
      omega
    · show p.cps.size + 0 + 2 + PyData.bulkKv (szKv l s) ≤ 70 * (p :: l).length
      rw [List.length_cons]
      have : p.cps.size = p.length := rfl
      omega
def dvT (ts : List (Str × Str)) (n : Int) : PyData := if memC ts (.int n) = true then .none else wD ts n
theorem Told.eq {ts : List (Str × Str)} {n : Int} {H : Hp} {v : V} {d : PyData} (h : Told ts n H v d) : d = dvT ts n := by
  unfold dvT
  cases h with
  | none e => rw [if_pos e]
  | some e => rw [if_neg (by rw [e]; decide)]
theorem Told.reprK {K : PySem.W.Frag} {ts : List (Str × Str)} {n : Int} {H : Hp} {v : V} {d : PyData} (o : TreeOk ts) (n1 : 1 ≤ n) (n3 : n ≤ 10 ^ 30) (h : Told ts n H v d) : DR K H v d ∧ d.showable = true ∧ d.depth ≤ 60 ∧ d.shown.length ≤ sizeLine := by
  cases h with
  | none e => exact ⟨.dat .non rfl, rfl, by decide, by decide⟩
  | some e h h0 h1 h2 =>
    have uo : usersOk (.int n) (10 ^ 30) = true := by
      show (decide (1 ≤ n) && decide (n ≤ 10 ^ 30)) = true
      rw [decide_eq_true n1, decide_eq_true n3] <;> rfl
    obtain ⟨n2, nt⟩ := mem_no uo e
    have bn : ∀ i, i < 3 → ∀ a ∈ ts.map Prod.fst, 0 ≤ wW ts n i a ∧ wW ts n i a ≤ 10 ^ 30 := fun i hi a ha => by
      have f := wit_fea o nt n2 i hi
      have := fea_leW o f a ha
      exact ⟨f.nn a ha, by omega⟩
    have few := o.few
    have kv : ∀ i, i < 3 → PyData.showableKv (szKv (ts.map Prod.fst) (wW ts n i)) = true ∧ PyData.leavesShortKv 40 (szKv (ts.map Prod.fst) (wW ts n i)) = true ∧ PyData.depthKv (szKv (ts.map Prod.fst) (wW ts n i)) ≤ 1 ∧ PyData.bulkKv (szKv (ts.map Prod.fst) (wW ts n i)) ≤ 70 * (ts.map Prod.fst).length := fun i hi =>
      szKv_showK fun a ha => ⟨strOk_name (o.nm a ha), (o.nm a ha).len.2, bn i hi a ha⟩
    have dr : ∀ i, i < 3 → ∀ {q : Addr}, H q = Option.some (.dK (tblI (ts.map Prod.fst) (wW ts n i))) → DR K H (.ref q) (dcD (szEn (ts.map Prod.fst) (wW ts n i))) := fun i hi q hq => by
      refine .dict (by rw [szEn_kv]; exact hq) (DRE.of fun e he => ?_)
      obtain ⟨a, ha, rfl⟩ := List.mem_map.mp he
      exact ⟨.int _, rfl⟩
    obtain ⟨a1, a2, a3, a4⟩ := kv 0 (by decide)
    obtain ⟨b1, b2, b3, b4⟩ := kv 1 (by decide)
    obtain ⟨c1, c2, c3, c4⟩ := kv 2 (by decide)
    rw [List.length_map] at a4 b4 c4
    refine ⟨.list (SqL.of h) (.cons (dr 0 (by decide) h0) (.cons (dr 1 (by decide) h1) (.cons (dr 2 (by decide) h2) .nil))), ?_, ?_, ?_⟩
    · unfold wD
      rw [szEn_D, szEn_D, szEn_D]
      show (PyData.showableKv _ && (PyData.showableKv _ && (PyData.showableKv _ && true))) = true
      rw [a1, b1, c1] <;> rfl
    · unfold wD
      rw [szEn_D, szEn_D, szEn_D]
      show max (PyData.depthKv _ + 1) (max (PyData.depthKv _ + 1) (max (PyData.depthKv _ + 1) 0)) + 1 ≤ 60
      omega
    · unfold wD
      rw [szEn_D, szEn_D, szEn_D]
      have hl : PyData.leavesShort 40 (.list [.dict (szKv (ts.map Prod.fst) (wW ts n 0)), .dict (szKv (ts.map Prod.fst) (wW ts n 1)), .dict (szKv (ts.map Prod.fst) (wW ts n 2))]) = true := by
        show (PyData.leavesShortKv 40 _ && (PyData.leavesShortKv 40 _ && (PyData.leavesShortKv 40 _ && true))) = true
        rw [a2, b2, c2] <;> rfl
      have hb : PyData.bulk (.list [.dict (szKv (ts.map Prod.fst) (wW ts n 0)), .dict (szKv (ts.map Prod.fst) (wW ts n 1)), .dict (szKv (ts.map Prod.fst) (wW ts n 2))]) ≤ 210 * ts.length + 100 := by
        simp only [PyData.bulk, PyData.bulkAll]
        omega
      have z := PyData.shown_le_bulk 40 (by decide) _ hl
      have big : 42 * (210 * 12 + 100) + 40 ≤ sizeLine := by rw [sizeLine_eq]; decide
      have m := Nat.mul_le_mul_left 42 (Nat.le_trans hb (show 210 * ts.length + 100 ≤ 210 * 12 + 100 by omega))
      omega
end FT


/-! every tree has a sorted form -/
namespace FT
open PySem PyProof.Rows
theorem asc_ex (t : List (Str × Str)) : ∃ ts, ts.Perm t ∧ Asc ts := by
  refine ⟨t.mergeSort fun x y => !decide (y.1.cps.toList < x.1.cps.toList), List.mergeSort_perm .., ?_⟩
  unfold Asc
  refine sortedS_of_pairwise _ ?_
  rw [List.pairwise_map]
  refine (List.pairwise_mergeSort (le := fun x y : Str × Str => !decide (y.1.cps.toList < x.1.cps.toList)) ?_ ?_ t).imp fun {a b} h => ?_
  · intro a b c h1 h2
    have h1 : ¬ b.1.cps.toList < a.1.cps.toList := by simpa using h1
    have h2 : ¬ c.1.cps.toList < b.1.cps.toList := by simpa using h2
    have h3 : ¬ c.1.cps.toList < a.1.cps.toList := List.le_trans (l₁ := a.1.cps.toList) (l₂ := b.1.cps.toList) h1 h2
    simpa using h3
  · intro a b
    rcases List.le_total a.1.cps.toList b.1.cps.toList with h | h
    · have h : ¬ b.1.cps.toList < a.1.cps.toList := h
      simp [h]
    · have h : ¬ a.1.cps.toList < b.1.cps.toList := h
      simp [h]
  · rw [ltCps_eq]
    simpa using h
end FT


/-! list(d.values()) -/
namespace L2
open PySem PySem.Spec PyProof.Rows
section
variable {X : Cx}
theorem vals_at : ∀ {kvs : List (Key × V)} {vs : List (Key × Value)}, Paired (fun (p : Key × V) (q : Key × Value) => p.1 = q.1 ∧ RelV p.2 q.2) kvs vs → Vals (kvs.map (·.2)) (vs.map (·.2))
  | _, _, .nil => .nil
  | _, _, .cons h t => .cons h.2 (vals_at t)
theorem call_listV (hcalm : X.calm = true) : CallR X (.type "list") (fun xs H Q => ∃ (v d : Addr) (kvs : List (Key × V)), xs = [.ref v] ∧ H v = some (VwO v d) ∧ H d = some (.dK kvs) ∧ ∀ p, H p = none → Q (.ref p) (upd H p (.lst (kvs.map (·.2))))) := by
  intro pins s σ H xs us Q I r q
  obtain ⟨v, d, kvs, ex, ev, hd, q⟩ := q
  subst ex
  obtain ⟨u, eu, rx⟩ := vals1 r
  subst eu
  cases rx
  obtain ⟨z, lo, vs, rel, dd⟩ := dk_of I.hok hd
  obtain ⟨ep, hat⟩ := dd.dictAt
  have av := vwo_at I.hok ev
  refine PySem.W.kdl_call (PySem.W.kdl_values (knd := mixKind X.prog X.w) (kvs := vs) (ep := ep) (r := v) (d := d)) (I.ok.hd hcalm) ⟨⟨_, av, rfl, rfl⟩, hat⟩ (by rw [← rel.length]; exact z) fun h' tk acc c' hk hD hacc => ?_
  have el : acc.toList = vs.map (·.2) := by
    refine List.ext_getElem? fun j => ?_
    rw [Array.getElem?_toList, List.getElem?_map]
    cases e : acc[j]? with
    | none =>
      have h1 : acc.size ≤ j := Array.getElem?_eq_none_iff.mp e
      rw [List.getElem?_eq_none (by rw [← hacc.1]; exact h1)] <;> rfl
    | some y =>
      obtain ⟨k, hk'⟩ := hacc.2 j y e
      rw [hk'] <;> rfl
  have hv : Vals (kvs.map (·.2)) acc.toList := by
    rw [el]
    exact vals_at rel
  exact ⟨.ref s.heap.objs.size, upd H s.heap.objs.size (.lst (kvs.map (·.2))), I.laid (t' := tk) hk (Nat.le_refl _)
    (show ObjOk X.prog X.w _ _ _ (.lst (kvs.map (·.2))) from ⟨by rw [List.length_map]; exact z, acc.toList, c', hv, by rw [Array.toArray_toList]; exact hD⟩), rfl, q _ (I.hok.fresh (Nat.le_refl _))⟩
end
end L2


/-! xs.count(y), flat items -/
namespace L2
open PySem PySem.Spec PyProof.Rows
theorem countP_eqU {x : V} : ∀ {xs : List V} {us : List Value}, Vals xs us → xs.all flatV = true → us.countP (eqU x) = xs.countP fun y => eqV y x
  | _, _, .nil, _ => rfl
  | y :: xs, u :: us, .cons r t, f => by
    rw [List.all_cons, Bool.and_eq_true] at f
    rw [List.countP_cons, List.countP_cons, countP_eqU t f.2, eqU_of r f.1]
def rCntF (K : PySem.W.Frag) : V → List V → Hp → VK → Prop := fun x xs H Q => ∃ (a : Addr) (ys : List V) (y : V), x = .ref a ∧ xs = [y] ∧ SqL K H a ys ∧ flatV y = true ∧ ys.all flatV = true ∧ Q (.int ((ys.countP fun z => eqV z y : Nat) : Int)) H
variable {X : Cx}
theorem mt_countF : MtR X "list.count" (rCntF X.K) := by
  intro pins s σ H x xs v us Q I rx rxs ⟨a, ys, y, ex, exs, hs, fy, fys, q⟩
  subst ex
  subst exs
  cases rx
  match us, rxs with
  | [uy], .cons ry .nil =>
    obtain ⟨its, rv, ⟨⟨cls, dd, data, sl⟩, n, ho, hc, hdn, hd⟩, hlen⟩ := I.list hs
    simp only at hc hd
    subst hc hd
    refine call_meets PySem.F.slot_list_count ⟨_, ho, rfl⟩ PySem.F.entry_list_count (PySem.F.args_list_count_2 _ _)
      (SeqAt.list_countAt a its.toArray n dd sl uy (eqU y)) ⟨ho, fun u hu => mem_eqAt ry fy rv fys u (by simpa using hu), ?_⟩
    refine ⟨.int ((ys.countP fun z => eqV z y : Nat) : Int), H, I.tok _, ⟨s.toks, ?_⟩, q⟩
    show Value.int ((its.toArray.toList.countP (eqU y) : Nat) : Int) s.toks = Value.int ((ys.countP fun z => eqV z y : Nat) : Int) s.toks
    rw [show its.toArray.toList = its from rfl, countP_eqU rv fys]
end L2


/-! the law's own answer whether a forest is two chains -/
namespace FT
open PySem L2 TL ClX LiI
theorem above_count (ts : List (Str × Str)) (p : Str) : ((ts.map Prod.snd).map V.str).countP (fun z => eqV z (.str p)) = (kids ts p).length := by
  unfold kids
  rw [List.length_map]
  induction ts with
  | nil => rfl
  | cons z ts ih =>
    rw [List.map_cons, List.map_cons, List.countP_cons, ih, List.filter_cons]
    have e : eqV (V.str z.2) (.str p) = decide (z.2 = p) := by
      show (z.2 == p) = _
      rw [Bool.eq_iff_iff, beq_iff_eq, decide_eq_true_iff]
    rw [e]
    by_cases q : decide (z.2 = p) = true
    · rw [if_pos q, if_pos q, List.length_cons]
    · rw [if_neg q, if_neg q] <;> rfl
theorem twoC_perm {ts us : List (Str × Str)} (p : ts.Perm us) : twoC ts = twoC us := by
  unfold twoC
  rw [(kids_perm p "").length_eq]
  congr 1
  rw [Bool.eq_iff_iff, List.all_eq_true, List.all_eq_true]
  constructor
  · intro h n hn
    have := h n ((p.map Prod.fst).mem_iff.mpr hn)
    rw [(kids_perm p n).length_eq] at this
    exact this
  · intro h n hn
    have := h n ((p.map Prod.fst).mem_iff.mp hn)
    rw [← (kids_perm p n).length_eq] at this
    exact this
def spIsChains : Sp := fun vs H Q _ => ∃ (q : Addr) (ts : List (Str × Str)), vs = [.ref q] ∧ H q = some (.dK (prs ts)) ∧ ts.length ≤ 13 ∧ ∀ H', Same H H' → Q (.bl (twoC ts)) H'
section
variable {P : Program} {w : World} {K : PySem.W.Frag} {mg : Str → Option Value} {base : Heap}
abbrev NIc : List Str := ["_law_parents", "_law_above", "_law_name"]
end
end FT


/-! Own: calls with keywords alone, two or four of them turned; pairs of a text and an int as data. -/
namespace FT
open PySem L2 TL ClX
def tCallK0 (m : Nat) (sp : Sp) (gV : List V → List V → List V) (E : XK) (tk : TA) : TE := fun σ H Q => tk σ H fun zs H1 => zs.length = m ∧ sp (gV [] zs) H1 Q E
/-- f(k = v, ..), no value by place -/
theorem pe_callK0 {X : Cx} {CX : CXT} {k : Nat} {f : Addr} {fd : FuncData} {ps ks : List Str} {sp : Sp} {E : XK} {x : Str} {p pos : Pos} {kw : Keyword} {kws : List Keyword} {tk : TA} {g : List Value → List Value → List Value} {gV : List V → List V → List V}
    (F : FnOk X.prog X.w X.K X.mg X.base CX k f fd ps sp) (hr : Room k X.A) (hg : Gl X x) (hm : X.mg x = some (.ref f)) (hk : PySem.W.keepIn X.K (.ref f) = true) (hb : KBn X.K fd ps 0 ks g gV) (hx : Passes CX X E)
    (hkw : PK X (kw :: kws) tk) (hall : (backToKw pos (keywordEach (kw :: kws) X.env)).all (·.1.isSome) = true := by rfl) (hks : (backToKw pos (keywordEach (kw :: kws) X.env)).filterMap (·.1) = ks := by rfl)
    (hdb : (x == ("__debug__" : Str)) = false := by decide) (hpl : ((backTo pos (starEach [] X.env)).any (·.1) || (backToKw pos (keywordEach (kw :: kws) X.env)).any (·.1.isNone)) = false := by rfl) : PE X (.Call (.Name x p) [] (kw :: kws) pos) (tCallK0 ks.length sp gV E tk) := by
  refine ⟨fun pins s σ H Q I h => ?_⟩
  refine wpAny_Call_Name_kw (ld_glob I hg hm ?_ hdb)
  refine PySem.W.callWith_KW0 (h₀ := X.base) I.ok.mod.kin hk hall ?_ hpl
  refine thn (hkw.run pos pins s σ H _ I h) fun ws s2 ⟨zs, H2, J, rz, l2, want⟩ => ⟨J.kIn, ?_⟩
  rw [hks]
  exact run_fnN (us := []) (vs := []) F hr hb hx J .nil rz rfl l2 want
/-- four values, turned -/
def turn4 {α : Type} : List α → List α
  | [a, b, c, d] => [d, c, b, a]
  | l => l
end FT


/-! two keywords, turned -/
namespace FT
open PySem L2 TL ClX
def turn2 {α : Type} : List α → List α
  | [a, b] => [b, a]
  | l => l
theorem turn2_rel {vs : List V} {us : List Value} (r : Vals vs us) : Vals (turn2 vs) (turn2 us) := by
  cases r with
  | nil => exact .nil
  | cons a r =>
    cases r with
    | nil => exact .cons a .nil
    | cons b r =>
      cases r with
      | nil => exact .cons b (.cons a .nil)
      | cons c r => exact .cons a (.cons b (.cons c r))
abbrev tn2 (α : Type) : List α → List α → List α := fun _ ws => turn2 ws
theorem kw2 {K : PySem.W.Frag} {x qual a b : Str} {st : Stmt} {f : Addr} {fd : FuncData} {ps : List Str} (F : L2.Fun K x qual st f fd)
    (h : ∀ (kV doc pm : Value) (an : Option Addr) (cdv ct u v : Value), bindArgs (PySem.W.fnOf x qual (defArgs st) (defBody st) (defScope st) .none kV doc pm an cdv ct) ⟨[], [(a, u), (b, v)]⟩ = pure (ps.zip [v, u])) :
    KBn K fd ps 0 [a, b] (tn2 Value) (tn2 V) := by
  obtain ⟨oc, od, kV, doc, pm, an, cdv, ct, osl, rfl, lk, hcd⟩ := F.ex
  refine ⟨fun s us ws _ h1 h2 => ?_, fun _ r => turn2_rel r⟩
  match us, ws, h1, h2 with
  | [], [u, v], _, _ => exact .of_eq (h kV doc pm an cdv ct u v)
end FT


/-! Own: the end of a law's row from a contract FnG (the library's walk_of asks FnOk). -/
namespace L2
open PySem PySem.Spec PyProof.Rows
section
variable {P : Program} {w : World} {K : PySem.W.Frag} {mg mb : Str → Option Value} {k : Nat} {fa a : Addr} {fd : FuncData} {x : Str} {sp : Sp} {s : Shared} {vs : List Value} {ns : List Int}
/-- the abstract heap at the law's entry: the script alone, locked; or nothing, where the script is the module's own -/
abbrev Entry (K : PySem.W.Frag) (a : Addr) (H : Hp) : Prop := (∀ b, H b ≠ none → b = a) ∧ (H a ≠ none → K.lookup a = none)
end
end L2


/-! Own: defs that make lambdas (their code object known), and the end of a law's row from a contract FnG with tables of code objects. -/
namespace L2
open PySem PySem.Spec PyProof.Rows LamX
/-- as Fun, the code object's place told -/
structure FunC (K : PySem.W.Frag) (x qual : Str) (st : Stmt) (f : Addr) (fd : FuncData) (c : Addr) : Prop where
  ex : ∃ (oc : Value) (od : Option Addr) (kV doc pm : Value) (an : Option Addr) (ct : Value) (osl : Array (Option Value)),
    fd = PySem.W.fnOf x qual (defArgs st) (defBody st) (defScope st) .none kV doc pm an (.ref c) ct ∧ K.lookup f = some ⟨oc, od, .func fd, osl⟩ ∧ PySem.W.codeIn K (.ref c) qual = true
  kp : PySem.W.keepIn K (.ref f) = true
theorem FunC.fun {K : PySem.W.Frag} {x qual : Str} {st : Stmt} {f c : Addr} {fd : FuncData} (F : FunC K x qual st f fd c) : Fun K x qual st f fd :=
  let ⟨oc, od, kV, doc, pm, an, ct, osl, e1, e2, e3⟩ := F.ex
  ⟨⟨oc, od, kV, doc, pm, an, .ref c, ct, osl, e1, e2, e3⟩, F.kp⟩
theorem funC_mk {K : PySem.W.Frag} {x qual : Str} {st : Stmt} {f c : Addr} {oc : Value} {od an : Option Addr} {osl : Array (Option Value)} {kV doc pm ct : Value} (l : K.lookup f = some ⟨oc, od, .func (PySem.W.fnOf x qual (defArgs st) (defBody st) (defScope st) .none kV doc pm an (.ref c) ct), osl⟩)
    (e : PySem.W.codeIn K (.ref c) qual = true) (k : PySem.W.keepIn K (.ref f) = true) : FunC K x qual st f (PySem.W.fnOf x qual (defArgs st) (defBody st) (defScope st) .none kV doc pm an (.ref c) ct) c := ⟨⟨oc, od, kV, doc, pm, an, ct, osl, rfl, l, e⟩, k⟩
section
variable {P : Program} {w : World} {K : PySem.W.Frag} {mg : Str → Option Value} {base : Heap}
theorem FunC.ok {x qual : Str} {st : Stmt} {f c : Addr} {fd : FuncData} {N ps : List Str} {k : Nat} {sp : Sp} (F : FunC K x qual st f fd c) (S : FnScope N ps (defScope st)) (len : ∀ vs H Q E, sp vs H Q E → vs.length = ps.length)
    (body : ∀ (A : Around) (outer : List Env) (s : Shared) (H : Hp) (vs : List V) (Q : VK) (E : XK), Room k (A.deeper (envOfC qual (defScope st) s.heap.objs.size f (.ref c))) → sp vs H Q E →
      ∃ t, PSs (cxOf CX0 P w K mg base N qual (defScope st) f (.ref c) A outer s H E).nox (defBody st) t ∧ t { nx := fun _ H' => Q .non H', rt := Q } (start N vs) H) : FnOk P w K mg base CX0 (k + 1) f fd ps sp := by
  obtain ⟨oc, od, kV, doc, pm, an, ct, osl, rfl, lk, code⟩ := F.ex
  refine fn_of lk code S len fun A outer s H vs Q E room want => ?_
  obtain ⟨t, h, q⟩ := body A outer s H vs Q E room want
  exact ⟨t, h.nox, q⟩
theorem FunC.okG {x qual : Str} {st : Stmt} {f c : Addr} {fd : FuncData} {N ps : List Str} {k : Nat} {sp : Sp} (F : FunC K x qual st f fd c) (S : FnScope N ps (defScope st)) (len : ∀ vs H Q E, sp vs H Q E → vs.length = ps.length)
    (body : ∀ (A : Around) (outer : List Env) (s : Shared) (H : Hp) (vs : List V) (Q : VK) (E : XK), Clr A → Room k (A.deeper (envOfC qual (defScope st) s.heap.objs.size f (.ref c))) → sp vs H Q E →
      ∃ t, PSs (cxOf CX0 P w K mg base N qual (defScope st) f (.ref c) A outer s H E).nox (defBody st) t ∧ t { nx := fun _ H' => Q .non H', rt := Q } (start N vs) H) : FnG P w K mg base CX0 (k + 1) f fd ps sp := by
  obtain ⟨oc, od, kV, doc, pm, an, ct, osl, rfl, lk, code⟩ := F.ex
  refine ⟨len, fun A outer s H args us vs Q E clr room e0 binds rel want => ?_⟩
  have nps := len _ _ _ _ want
  have KX : K.In s.heap := e0.mod.kin.keeps fun b o e => (e0.bs b o e).1
  have lim : s.heap.NoLimit := e0.mod.nolimit.keeps fun b o e => (e0.bs b o e).1
  refine codeAny_call_function room.depth (KX _ _ lk) rfl S.co S.gen rfl (PySem.W.codeRec_of KX code) (binds _ _ _ _ (wpAny_newFunctionEnv_cells S.kind (fun y hy => ?_) fun env he s1 x => ?_))
  · obtain ⟨n, v⟩ := y
    exact (S.par n (List.of_mem_zip hy).1).elim .inl fun q => .inr ⟨q, PySem.W.cellsFrom_some _ _ _ (.inl q)⟩
  · subst he
    obtain ⟨t, term, q⟩ := body A outer s H vs Q E clr (room.deeper _) want
    have I : Inv (cxOf CX0 P w K mg base N qual (defScope st) f (.ref c) A outer s H E) [] (start N vs) H s1 := inv_start S room.hd e0 nps rel x
    refine ⟨lim.keeps x.toInCall.keep, codeAny_func (wpAny_mono (term.nox.run [] s1 (start N vs) H _ I q) (fun fl s' z => ?_) fun _ _ z => z)⟩
    match fl, z with
    | .ret u, ⟨v, _, H', J, rv, q⟩ => exact ⟨v, H', J.os, J.bare, J.base, J.hok, rv, q⟩
    | .next, ⟨_, H', J, q⟩ => exact ⟨.non, H', J.os, J.bare, J.base, J.hok, rfl, q⟩
    | .brk, ⟨_, _, _, q⟩ => exact q.elim
    | .cont, ⟨_, _, _, q⟩ => exact q.elim
end
section
variable {P : Program} {w : World} {K : PySem.W.Frag} {mg mb : Str → Option Value} {k : Nat} {fa a : Addr} {fd : FuncData} {x : Str} {sp : Sp} {s : Shared} {vs : List Value} {ns : List Int} {cs : List (Addr × Addr)}
/-- the code objects and their tables: empty, not of the written part -/
abbrev TabsIn (K : PySem.W.Frag) (h : Heap) (cs : List (Addr × Addr)) : Prop := ∀ p ∈ cs, PySem.W.CodeHd h p.1 p.2 ∧ h.get? p.2 = some (PySem.W.tabObj #[]) ∧ K.lookup p.2 = none
/-- the abstract heap at the law's entry: the tables, and the script, locked, or where it is the module's own the tables alone -/
structure EntT (K : PySem.W.Frag) (cs : List (Addr × Addr)) (a : Addr) (vs : List Value) (ns : List Int) (H : Hp) : Prop where
  tab : ∀ p ∈ cs, H p.2 = some (.tbl #[])
  dom : ∀ b u, H b = some u → (b = a ∧ u = .frz { cls := .type "list", data := .seq vs.toArray } (.lst (ns.map V.int))) ∨ ∃ p ∈ cs, b = p.2
  own : H a ≠ none → K.lookup a = none
theorem entT_run (KX : K.In s.heap) (hns : s.heap.Ns mainGlobals mg) (hb : s.heap.Ns builtinsNs mb) (hbb : ∀ y : Str, y ≠ "__name__" → mb y = bootBuiltins y) (lim : s.heap.NoLimit) (gens : s.gens = #[]) (ti : TabsIn K s.heap cs)
    (bmain : ∃ (bm : Addr) (ob : Obj), mg "__builtins__" = some (.ref bm) ∧ bm ≠ builtinsNs ∧ s.heap.get? bm = some ob ∧ ob.cls = .type "module" ∧ ob.dict = some builtinsNs ∧ ob.data = .plain)
    (oa : s.heap.get? a = some { cls := .type "list", data := .seq vs.toArray }) (rv : Vals (ns.map V.int) vs) (few : ns.length ≤ sizeLine) (room : Room k callerA)
    (F : ∀ base : Heap, K.In base → base.Ns mainGlobals mg → (∀ p ∈ cs, TabB base mg p.1 p.2) → FnG P w K mg base CX0 k fa fd [x] sp)
    (bind : ∀ (s : Shared) (u : Value), BindsTo s fd ⟨[u], []⟩ [(x, u)]) {H : Hp} (en : EntT K cs a vs ns H) (want : sp [.ref a] H (fun v _ => v = .bl true) fun _ _ _ => False) :
    codeAny (model P w) callerA (.call (.ref fa) ⟨[.ref a], []⟩) (fun r s' => r = .ok (.ret (.bool true)) ∧ OldK s.heap s'.heap ∧ s'.os = s.os ∧ AllBare s'.gens) s := by
  -- what is tracked: a list or a table
  have kinds : ∀ {b : Addr} {o : Obj}, s.heap.get? b = some o → H b ≠ none → o = { cls := .type "list", data := .seq vs.toArray } ∨ o = PySem.W.tabObj #[] := fun {b o} q n => by
    cases r : H b with
    | none => exact absurd r n
    | some u =>
      rcases en.dom b u r with ⟨rfl, _⟩ | ⟨p, hp, rfl⟩
      · rw [oa] at q
        exact .inl (Option.some.inj q).symm
      · rw [(ti p hp).2.1] at q
        exact .inr (Option.some.inj q).symm
  have loose : ∀ {b : Addr} {o : Obj}, s.heap.get? b = some o → (∀ vs n, o.data ≠ .seq vs n) → (o.data = .fields #[] → False) → H b = none := fun {b o} q h1 h2 => by
    refine Decidable.byContradiction fun n => ?_
    rcases kinds q n with e | e
    · exact h1 _ _ (by rw [e])
    · exact h2 (by rw [e])
  have seen : ∀ {b : Addr} {o : Obj}, s.heap.get? b = some o → H b = none → (hidT s.heap H).get? b = some o := fun q n => hidT_get q n
  have dict : ∀ {b : Addr} {o : Obj} {es : Array DictEntry} {ep : Nat}, s.heap.get? b = some o → o.data = .dict es ep → (hidT s.heap H).get? b = some o := fun q d => seen q (loose q (fun vs n z => nomatch d.symm.trans z) fun z => nomatch d.symm.trans z)
  have nsT : ∀ {b : Addr} {m : Str → Option Value}, s.heap.Ns b m → (hidT s.heap H).Ns b m := fun ⟨o, es, ep, q, d, r⟩ => ⟨o, es, ep, dict q d, d, r⟩
  have KT : K.In (hidT s.heap H) := fun b o q => seen (KX b o q) (Decidable.byContradiction fun n => by
    cases r : H b with
    | none => exact n r
    | some u =>
      rcases en.dom b u r with ⟨rfl, _⟩ | ⟨p, hp, rfl⟩
      · rw [en.own n] at q
        cases q
      · rw [(ti p hp).2.2] at q
        cases q)
  have isTab : ∀ b u, H b = some u → ∀ q, u = .tbl q → s.heap.get? b = some (PySem.W.tabObj #[]) ∧ q = #[] := fun b u r q e => by
    rcases en.dom b u r with ⟨_, z⟩ | ⟨p, hp, rfl⟩
    · rw [e] at z
      cases z
    · refine ⟨(ti p hp).2.1, ?_⟩
      have z := en.tab p hp
      rw [r, e] at z
      cases z
      rfl
  have ok : HOk P w H s.heap := fun b u r => by
    rcases en.dom b u r with ⟨rfl, rfl⟩ | ⟨p, hp, rfl⟩
    · exact ⟨oa, by rw [List.length_map]; exact few, vs, _, rv, oa⟩
    · rw [en.tab p hp] at r
      cases r
      exact (ti p hp).2.1
  have TB : ∀ p ∈ cs, TabB (hidT s.heap H) mg p.1 p.2 := fun p hp => by
    obtain ⟨C, tp, _⟩ := ti p hp
    refine ⟨?_, ?_, fun z => ?_⟩
    · obtain ⟨o, us, file, tf, flags, tg, inF, text, tt, e1, r1, r2, r3, r⟩ := C
      refine ⟨o, us, file, tf, flags, tg, inF, text, tt, seen e1 (loose e1 (fun vs n z => nomatch r2.symm.trans z) fun z => ?_), r1, r2, r3, r⟩
      have e := r2.symm.trans z
      cases e
      simp at r3
    · obtain ⟨bm, ob, b1, b2, b3, b4, b5, b6⟩ := bmain
      refine ⟨bm, ob, b1, b2, fun q => ?_, fun q => ?_, seen b3 (loose b3 (fun vs n z => nomatch b6.symm.trans z) fun z => nomatch b6.symm.trans z), b4, b5, b6⟩
      · obtain ⟨o, es, ep, e, hd, _⟩ := hns
        rw [q, e] at b3
        cases b3
        cases hd.symm.trans b6
      · rw [q, tp] at b3
        cases b3
        cases b6
    · obtain ⟨o, es, ep, e, hd, _⟩ := hns
      rw [z, tp] at e
      cases e
      cases hd
  have e0 : Env0 P w K mg (hidT s.heap H) callerA [] s H :=
    ⟨rfl, ⟨KT, nsT hns, ⟨mb, nsT hb, hbb⟩, let ⟨m, z1, z2⟩ := lim; ⟨m, nsT z1, z2⟩⟩, fun b o q => of_hidT q, Nat.le_of_eq (hidT_size _ _), trivial, fun b z => absurd (show b ∈ ([] : List Addr) from z) (by simp), ok, .of_eq gens⟩
  refine codeAny_mono ((F _ KT (nsT hns) TB).run callerA [] s H ⟨[.ref a], []⟩ [.ref a] [.ref a] _ _ rfl room e0 (bind s (.ref a)) (.cons rfl .nil) want) fun r s' z => ?_
  match r, z with
  | .error _, z => exact z.elim
  | .ok .next, z => exact z.elim
  | .ok .brk, z => exact z.elim
  | .ok .cont, z => exact z.elim
  | .ok (.ret u), ⟨v, H', os, bare, un, ok', rv', q⟩ =>
    obtain rfl : v = .bl true := q
    obtain rfl : u = Value.bool true := rv'
    -- an object stays, or is a table that has grown
    have way : ∀ b o, s.heap.get? b = some o → s'.heap.get? b = some o ∨ ∃ p ∈ cs, b = p.2 ∧ ∃ more : Array Value, s'.heap.get? b = some (PySem.W.tabObj more) := fun b o q => by
      cases r : H b with
      | none => exact .inl (un.keep b o q r (fun z => absurd (show b ∈ ([] : List Addr) from z) (by simp)) (by simp))
      | some u =>
        rcases en.dom b u r with ⟨rfl, rfl⟩ | ⟨p, hp, rfl⟩
        · have q1 := (ok b _ r).1
          rw [q] at q1
          cases q1
          exact .inl (ok' b _ (un.frzs b _ _ r)).1
        · obtain ⟨more, z⟩ := un.tbls p.2 #[] (en.tab p hp)
          exact .inr ⟨p, hp, rfl, _, ok' p.2 _ z⟩
    refine ⟨rfl, ⟨fun b o q => ?_, fun b o q => ?_⟩, os, bare⟩
    · rcases way b o q with z | ⟨p, hp, rfl, more, z⟩
      · exact .inl z
      · obtain ⟨C, tp, _⟩ := ti p hp
        rw [tp] at q
        cases q
        exact .inr (.inl ⟨(C.tab tp).isCodeTable, rfl, #[], more, rfl, by rw [Array.empty_append]; exact z⟩)
    · rcases way b o q with z | ⟨_, _, _, more, z⟩
      · exact ⟨o, z⟩
      · exact ⟨_, z⟩
end
/-- the law's promise with its tables -/
def LawTG (l : PySem.W.OpenLaw) (w : World) (K : PySem.W.Frag) (k n : Nat) (x : Str) (mg : Str → Option Value) (fa : Addr) (h : Heap) : Prop :=
  ∃ (fd : FuncData) (cs : List (Addr × Addr)) (sp : Sp), TabsIn K h cs ∧ (∀ (s : Shared) (u : Value), BindsTo s fd ⟨[u], []⟩ [(x, u)]) ∧
    (∀ (H : Hp) (a : Addr) (ns : List Int), ns.length ≤ n → (∀ p ∈ cs, H p.2 = some (.tbl #[])) → SqL K H a (ns.map V.int) → sp [.ref a] H (fun v _ => v = .bl true) fun _ _ _ => False) ∧
    ∀ base : Heap, K.In base → base.Ns mainGlobals mg → (∀ p ∈ cs, TabB base mg p.1 p.2) → FnG l.prog w K mg base CX0 k fa fd [x] sp
/-- what the head tells of a def's table -/
abbrev TabsOf (q : Program) (K : PySem.W.Frag) (h : Heap) : Prop := ∀ (y : Str) (c P : Addr), ((recsOf q).find? (fun e => e.name == y)).isSome = true → PySem.W.tabIn K y = some (c, P) → PySem.W.CodeHd h c P ∧ h.get? P = some (PySem.W.tabObj #[])
/-- the goal behind the head, from such a promise -/
theorem walk_tabG {l : PySem.W.OpenLaw} {n k : Nat} {q : Program} {loose : List Str} {XP : (Str → Option Value) → Heap → Prop} {YP : World → Heap → Prop} {d : DefRec} {K : Params → PySem.W.Frag} {x : Str}
    (most : l.most = some n) (few : n ≤ sizeLine) (nodf : d.params.defaults = []) (room : Room k callerA) (hY : ∀ (w : World) (h : Heap), YP w h → (K w.params).In h)
    (F : ∀ (w : World) (mg : Str → Option Value) (fa : Addr) (h : Heap), (K w.params).In h → h.Ns mainGlobals mg → mg d.name = some (.ref fa) → TabsOf q (K w.params) h → XP mg h → LawTG l w (K w.params) k n x mg fa h) :
    PySem.W.WalkO q loose XP YP l.row.toRowW d [] (fun f vs => PySem.call f vs) :=
  Att.attach_call most nodf fun w _ s mg mb fa _ _ _ _ a vs ns G Y _ _ _ hmg hobj hints hlen hg => by
    have KX := hY w _ Y
    obtain ⟨fd, cs, sp, ti, bind, hsp, hF⟩ := F w mg fa _ KX G.T.g hmg (fun y c P hr ht => let ⟨d', hd⟩ := Option.isSome_iff_exists.mp hr; PySem.W.tab_of G.T KX hd ht) G.X
    have rv := vals_ints hints
    have len := hints.length
    have tne : ∀ p ∈ cs, p.2 ≠ a := fun p hp z => by
      have e := (ti p hp).2.1
      rw [z, hobj] at e
      cases e
    cases own : (K w.params).lookup a with
    | some o =>
      have e := KX a o own
      rw [hobj] at e
      cases e
      obtain ⟨H, eH⟩ : ∃ H : Hp, H = fun b => if b ∈ cs.map (·.2) then some (.tbl #[]) else none := ⟨_, rfl⟩
      have inT : ∀ p ∈ cs, H p.2 = some (.tbl #[]) := fun p hp => by
        rw [eH]
        exact if_pos (List.mem_map.mpr ⟨p, hp, rfl⟩)
      have outT : ∀ b, b ∉ cs.map (·.2) → H b = none := fun b n => by
        rw [eH]
        exact if_neg n
      have na : a ∉ cs.map (·.2) := fun m => by
        obtain ⟨p, hp, e⟩ := List.mem_map.mp m
        exact tne p hp e
      refine entT_run KX G.T.g G.T.b G.T.builtins G.T.nolimit hg ti G.T.bmain hobj rv (Nat.le_trans hlen few) room hF bind (H := H) ⟨inT, fun b u r => .inr ?_, fun z => absurd (outT a na) z⟩
        (hsp H a ns hlen inT (.inr ⟨_, vs.toArray, _, own, rfl, rfl, rfl, by rw [List.size_toArray, len]; exact Nat.le_trans hlen few, by simpa using rv⟩))
      refine Decidable.byContradiction fun n => ?_
      rw [outT b fun m => n (let ⟨p, hp, e⟩ := List.mem_map.mp m; ⟨p, hp, e.symm⟩)] at r
      cases r
    | none =>
      obtain ⟨H, eH⟩ : ∃ H : Hp, H = fun b => if b = a then some (.frz { cls := .type "list", data := .seq vs.toArray } (.lst (ns.map V.int))) else if b ∈ cs.map (·.2) then some (.tbl #[]) else none := ⟨_, rfl⟩
      have atA : H a = some (.frz { cls := .type "list", data := .seq vs.toArray } (.lst (ns.map V.int))) := by rw [eH]; exact if_pos rfl
      have inT : ∀ p ∈ cs, H p.2 = some (.tbl #[]) := fun p hp => by
        rw [eH]
        exact (if_neg (tne p hp)).trans (if_pos (List.mem_map.mpr ⟨p, hp, rfl⟩))
      refine entT_run KX G.T.g G.T.b G.T.builtins G.T.nolimit hg ti G.T.bmain hobj rv (Nat.le_trans hlen few) room hF bind (H := H) ⟨inT, fun b u r => ?_, fun _ => own⟩ (hsp H a ns hlen inT (.inl (.inr ⟨_, atA⟩)))
      by_cases n : b = a
      · subst n
        rw [atA] at r
        exact .inl ⟨rfl, (Option.some.inj r).symm⟩
      · refine .inr (Decidable.byContradiction fun m => ?_)
        rw [eH] at r
        have r' := (if_neg n).symm.trans r
        rw [if_neg fun z => m (let ⟨p, hp, e⟩ := List.mem_map.mp z; ⟨p, hp, e.symm⟩)] at r'
        cases r'
end L2


/-! Own: a lambda handed to a def that calls it in a try: what is raised is wished for at the caller's very slots (the library's rule asks it for all slots). -/
namespace L2
open PySem PySem.Spec PyProof.Rows LamX
section
variable {X : Cx} {pins : List (Addr × Obj)} {σ : St} {H : Hp} {s : Shared}
theorem pe_actS {CXg : CXT} {Eg : XK} {Ng : List Str} {qg : Str} {sg : Scope} {g f c' : Addr} {cdg pm ctv : Value} {params : Arguments} {body : Expr} {scope : Scope} {k i : Nat} {a : Str} {pn : List (Addr × Obj)} {xe : Value → Shared → Prop} {W : WX} {tb : XK → TE} {p1 p2 : Pos}
    (I : Inv X pins σ H s) (L : LamS X.env.scope scope) (here : s.heap.get? f = some (PySem.W.kla_obj "<lambda>" (X.env.qual ++ "<lambda>") params body scope (cloFrom X.env.cells scope.names []) pm c' ctv)) (fno : H f = none) (ffr : f ∉ frs X.stack)
    (bd : bindArgs (PySem.W.kla_fn "<lambda>" (X.env.qual ++ "<lambda>") params body scope (cloFrom X.env.cells scope.names []) pm (.ref c') ctv) ⟨[], []⟩ = pure []) (tk : Takes ((cxOf CXg X.prog X.w X.K X.mg X.base Ng qg sg g cdg X.A X.stack s H Eg).tr pn xe) W)
    (room : Room (k + 1) (X.A.deeper (envOfC qg sg s.heap.objs.size g cdg))) (walk : ∀ (A : Around) (outer : List Env) (s : Shared) (H : Hp) (E : XK), Room k (A.deeper (lamEnv X scope s.heap.objs.size f c')) → PE (lamCx X A outer s H E scope f c') body (tb E))
    (hN : Ng[i]? = some a) (hv : Vis sg a) (hd : (a == ("__debug__" : Str)) = false := by decide) (hcd : (a == ("__classdict__" : Str)) = false := by decide) :
    PE ((cxOf CXg X.prog X.w X.K X.mg X.base Ng qg sg g cdg X.A X.stack s H Eg).tr pn xe) (.Call (.Name a p1) [] [] p2)
      (fun τ HZ Q => ∃ (Ech : XK) (Qn : VK), (∀ cls d H', Ech cls d H' → W cls d τ H') ∧ (∀ v H', Qn v H' → Q v H') ∧ τ[i]? = some (some (.ref f)) ∧ HZ c' = some (CodeO c' (X.env.qual ++ "<lambda>")) ∧ tb Ech σ HZ Qn) := by
  constructor
  intro pz sz τ HZ Q IZ ⟨Ech, Qn, imp, impQ, slot, code, want⟩
  refine wpAny_Call_Name_kw (thn ((pe_var (pos := p1) (i := i) hN hv hd hcd).run pz sz τ HZ (fun v H1 => v = .ref f ∧ H1 = HZ) IZ ⟨.ref f, slot, rfl, rfl⟩) fun u s1 ⟨v, H1, I1, r1, ev, eH⟩ => ?_)
  subst ev
  subst eH
  cases (show u = Value.ref f from r1)
  have still : s1.heap.get? f = some (PySem.W.kla_obj "<lambda>" (X.env.qual ++ "<lambda>") params body scope (cloFrom X.env.cells scope.names []) pm c' ctv) := I1.base.keep f _ here fno ffr (by simp [cxOf, Cx.tr])
  have grown : Un (frs X.stack) [] H H1 s.heap s1.heap := I1.base
  obtain ⟨⟨oc, ws, t, e1, e2, e3⟩, _, _⟩ := I1.hok c' _ code
  refine PySem.W.callWith_F0 ⟨_, _, _, _, still⟩ (wpAny_call (codeAny_mono (R := CR (L2.CX X.prog X.w) (envOfC qg sg s.heap.objs.size g cdg :: X.stack) X.prog X.w H1 s1 Qn Ech) ?_ fun r s' z => ?_))
  · show codeAny _ _ (.call (.ref f) ⟨[], []⟩) _ s1
    refine PySem.W.kla_callFunE room.depth still rfl L.co L.gen rfl ⟨c', oc, ws, t, rfl, e1, e2, e3⟩ ?_
    rw [bd]
    refine wpAny_pure (wpAny_newFunctionEnv (fun y hy => (L.own y hy).2) (fun y hy => absurd hy (by simp)) (fun h₁ ns sb => ⟨I1.nolimit.fresh _ sb, ?_⟩) L.kind)
    have kp : ∀ b o, s1.heap.get? b = some o → h₁.get? b = some o := fun b o e => sb.extBut b o (Nat.ne_of_lt (Heap.lt_size e)) (Heap.get?_push_of_some _ e)
    have J : Inv (lamCx X (X.A.deeper (envOfC qg sg s.heap.objs.size g cdg)) (envOfC qg sg s.heap.objs.size g cdg :: X.stack) s1 H1 Ech scope f c') [] σ H1 { s1 with heap := h₁, toks := s1.toks + ([] : List (Str × Value)).length } := lam_start2 I L I1.env0 room.hd grown ns kp
    exact PySem.W.kla_codeExpr (wpAny_mono ((walk _ _ s1 H1 _ (room.deeper _)).run [] _ _ H1 Qn J want) (fun v s' ⟨w, H', J', rv, q⟩ => ⟨w, H', J'.os, J'.bare, J'.base, J'.hok, rv, q⟩) fun _ _ z => z)
  · match r, z with
    | .error e, z => exact tk e s' (XE.of_call I1 (fun cls d H' h => imp cls d H' h) z)
    | .ok (.ret u), z =>
      obtain ⟨v, H2, J2, rv, q⟩ := I1.after z
      exact ⟨v, H2, J2, rv, impQ v H2 q⟩
    | .ok .next, z => exact z.elim
    | .ok .brk, z => exact z.elim
    | .ok .cont, z => exact z.elim
end
/-- the def that calls what it got, in its slot 0 -/
def GivesS (X : Cx) (Ng : List Str) (x : Str) (sg : Scope) (g : Addr) (cdg : Value) (bg : List Stmt) (a : Str) (q : Str) (TT : (XK → Hp → VK → Prop) → Hp → VK → Prop) : Prop :=
  ∀ (f c' : Addr) (s : Shared) (H : Hp) (Q : VK) (tl : XK → Hp → VK → Prop),
    (∀ (W : WX) (pn : List (Addr × Obj)) (xe : Value → Shared → Prop) (p1 p2 : Pos), Takes ((cxOf C8.CX0 X.prog X.w X.K X.mg X.base Ng x sg g cdg X.A X.stack s H C8.E0).tr pn xe) W →
      PE ((cxOf C8.CX0 X.prog X.w X.K X.mg X.base Ng x sg g cdg X.A X.stack s H C8.E0).tr pn xe) (.Call (.Name a p1) [] [] p2) (fun τ HZ Q => ∃ (Ech : XK) (Qn : VK), (∀ cls d H', Ech cls d H' → W cls d τ H') ∧ (∀ v H', Qn v H' → Q v H') ∧ τ[0]? = some (some (.ref f)) ∧ HZ c' = some (CodeO c' q) ∧ tl Ech HZ Qn)) →
    H c' = some (CodeO c' q) → TT tl H Q → ∃ t, PSs (cxOf C8.CX0 X.prog X.w X.K X.mg X.base Ng x sg g cdg X.A X.stack s H C8.E0).nox bg t ∧ t { nx := fun _ H' => Q .non H', rt := Q } (L2.start Ng [.ref f]) H
/-- x(lambda: body), x such a def -/
theorem pe_lamS {X : Cx} {T : List (Addr × Str)} {TT : (XK → Hp → VK → Prop) → Hp → VK → Prop} {x a : Str} {g c P : Addr} {k : Nat} {st : Stmt} {fd : FuncData} {Ng : List Str} {params : Arguments} {body : Expr} {scope : Scope} {t : XK → TE} {p lpos pos : Pos} (hg : Gl X x) (hm : X.mg x = some (.ref g))
    (F : Fun X.K x x st g fd) (hb : Binds X.K fd [a] []) (Sg : FnScope Ng [a] (defScope st)) (hNg : Ng[0]? = some a) (hva : Vis (defScope st) a) (gives : ∀ cdg, GivesS X Ng x (defScope st) g cdg (defBody st) a (X.env.qual ++ "<lambda>") TT)
    (TB : TabB X.base X.mg c P) (code : X.env.code = .ref c) (mT : (P, X.env.qual ++ "<lambda>") ∈ T) (uT : ∀ p ∈ T, p.1 = P → p.2 = X.env.qual ++ "<lambda>") (room : Room (k + 2) X.A) (L : LamS X.env.scope scope) (dfl : defaultsOf params X.env = ([], []))
    (bd : ∀ (q : Str) (cl : List (Str × Addr)) (pm cv ctv : Value), bindArgs (PySem.W.kla_fn "<lambda>" q params body scope cl pm cv ctv) ⟨[], []⟩ = pure [])
    (walk : ∀ (A : Around) (outer : List Env) (s : Shared) (H : Hp) (E : XK) (f c' : Addr), Room k (A.deeper (lamEnv X scope s.heap.objs.size f c')) → PE (lamCx X A outer s H E scope f c') body (t E))
    (hdb : (x == ("__debug__" : Str)) = false := by decide) (hd : (a == ("__debug__" : Str)) = false := by decide) (hcd : (a == ("__classdict__" : Str)) = false := by decide) : PE X (.Call (.Name x p) [.Lambda params body scope lpos] [] pos) (tLam T TT t) := by
  constructor
  intro pins s σ H Q I ⟨hT, want⟩
  refine wpAny_Call_Name_kw (ld_glob I hg hm ?_ hdb)
  refine PySem.W.callWith_K (h₀ := X.base) I.ok.mod.kin F.kp (pos := pos) ?_ (by rfl) (by rfl)
  show wpAny _ _ (spliced ((false, eval (.Lambda params body scope lpos) X.env) :: backTo pos (starEach [] X.env))) _ _ s
  refine Calls.spliced_cons (lam_make2 I TB code mT uT hT dfl (L.has I.ok) fun f c' pm' ctv H1 s' I1 eN T1 of fn fr co => Calls.spliced_nil ⟨I1.kIn, wpAny_call (codeAny_mono (R := CR C8.CX0 X.stack X.prog X.w H1 s' Q C8.E0) ?_ fun r s2 z => ?_)⟩)
  · obtain ⟨oc, od, kV, doc, pm, an, cdv, ct, osl, rfl, lk, cin⟩ := F.ex
    refine run_ofS (N := Ng) (ps := [a]) (us := [.ref f]) (vs := [.ref f]) lk cin Sg room I1.env0 (hb s' [.ref f] I1.kIn rfl) (.cons rfl .nil) rfl fun room' => ?_
    obtain ⟨t', term, q⟩ := gives cdv f c' s' H1 Q (fun E H' Q' => t E σ H' Q') (fun W pn xe p1 p2 tk => pe_actS (i := 0) I1 L of fn fr (bd _ _ _ _ _) tk room' (fun A outer s H E hr2 => walk A outer s H E f c' hr2) hNg hva hd hcd) co (want H1 eN T1)
    exact ⟨t', term.nox, q⟩
  · match r, z with
    | .error e, z => exact (show False from z).elim
    | .ok (.ret u), z => exact I1.after z
    | .ok .next, z => exact z.elim
    | .ok .brk, z => exact z.elim
    | .ok .cont, z => exact z.elim
end L2


/-! what stands while a law with lambdas draws (cut from K18P) -/
namespace FT
open PySem L2 TL ClX LiI LamX
/-- an object that is no table and none of one's own kind -/
def Solid (H : Hp) (b : Addr) : Prop := ∃ u, H b = some u ∧ (∀ ps, u ≠ .tbl ps) ∧ ∀ φ, u ≠ .ext φ
theorem Tabs.kx {T : List (Addr × Str)} {Z : List Addr} {H H' : Hp} (k : KeepX Z H H') (hz : ∀ b ∈ Z, Solid H b) (tb : Tabs T H) : Tabs T H' := fun p hp => by
  obtain ⟨ps, e1, e2, e3⟩ := tb p hp
  have off : ∀ {b : Addr} {o : HO}, H b = some o → ((∃ ps, o = .tbl ps) ∨ ∃ φ, o = .ext φ) → H' b = some o := fun {b o} e n => k _ _ (fun m => by
    obtain ⟨u, h1, h2, h3⟩ := hz b m
    rw [e] at h1
    cases h1
    rcases n with ⟨ps, n⟩ | ⟨φ, n⟩
    · exact h2 ps n
    · exact h3 φ n) e
  refine ⟨ps, off e1 (.inl ⟨ps, rfl⟩), e2, fun pos cv hc => ?_⟩
  obtain ⟨c', q1, q2⟩ := e3 pos cv hc
  exact ⟨c', q1, off q2 (.inr ⟨_, rfl⟩)⟩
theorem DrawB.ext {H H' : Hp} {d l i : Addr} {b : Int} (k : ExtN H H') (x : DrawB H d l i b) : DrawB H' d l i b := by
  obtain ⟨lf, tn, lg, it, a1, a2, a3, r⟩ := x
  exact ⟨lf, tn, lg, it, k _ _ a1 (by intro _ z; cases z), k _ _ a2 (by intro _ z; cases z), k _ _ a3 (by intro _ z; cases z), r⟩
theorem DrawB.solid {H : Hp} {d l i : Addr} {b : Int} (x : DrawB H d l i b) : Solid H d ∧ Solid H l ∧ Solid H i := by
  obtain ⟨lf, tn, lg, it, a1, a2, a3, _⟩ := x
  exact ⟨⟨_, a1, (by intro _ z; cases z), (by intro _ z; cases z)⟩, ⟨_, a2, (by intro _ z; cases z), (by intro _ z; cases z)⟩, ⟨_, a3, (by intro _ z; cases z), (by intro _ z; cases z)⟩⟩
theorem Solid.some {H : Hp} {b : Addr} (h : Solid H b) : ∃ u, H b = some u := let ⟨u, e, _⟩ := h; ⟨u, e⟩
theorem IsDat.ext {K : PySem.W.Frag} {H H' : Hp} {v : V} {T : String} (k : ExtN H H') (d : Dat K H v T) : Dat K H' v T := by
  cases d with
  | non => exact .non
  | bl b => exact .bl b
  | int i => exact .int i
  | str z => exact .str z
  | lst h => exact .lst (k _ _ h (by intro _ z; cases z))
  | tup h => exact .tup (k _ _ h (by intro _ z; cases z))
  | dct h => exact .dct (k _ _ h (by intro _ z; cases z))
theorem SzM.ext {K : PySem.W.Frag} {H H' : Hp} {m : Nat} {sv : V} {o : Option (List (Key × V))} (k : ExtN H H') (h : SzM K H m sv o) : SzM K H' m sv o := by
  rcases h with h | ⟨e, b, rows, e1, e2, e3⟩
  · cases o with
    | none => exact let ⟨T, d, n⟩ := h; .inl ⟨T, IsDat.ext k d, n⟩
    | some kvs => exact let ⟨q, e, h, a⟩ := h; .inl ⟨q, e, k _ _ h (by intro _ z; cases z), fun p hp => let ⟨T, d⟩ := a p hp; ⟨T, IsDat.ext k d⟩⟩
  · exact .inr ⟨e, b, rows, e1, k _ _ e2 (by intro _ z; cases z), e3⟩
theorem FAt.extS {CF x : Addr} {H H' : Hp} {ts : List (Str × Str)} (k : ExtN H H') (h : FAt CF H x ts) : FAt CF H' x ts := let ⟨dx, dq, e1, e2⟩ := h; ⟨dx, dq, k _ _ e1 (by intro _ z; cases z), k _ _ e2 (by intro _ z; cases z)⟩
/-- the draws, the lambdas, the parents, the forest -/
structure S23 (T : List (Addr × Str)) (CF d l i q x : Addr) (t ts : List (Str × Str)) (b : Int) (H : Hp) : Prop where
  dr : DrawB H d l i b
  tb : Tabs T H
  hq : H q = some (.dK (prs t))
  fa : FAt CF H x ts
section
variable {T : List (Addr × Str)} {CF d l i q x : Addr} {t ts : List (Str × Str)} {b : Int} {H H' : Hp}
theorem S23.more {b' : Int} (s : S23 T CF d l i q x t ts b H) (h : b ≤ b') : S23 T CF d l i q x t ts b' H := ⟨s.dr.more h, s.tb, s.hq, s.fa⟩
theorem S23.same (s : S23 T CF d l i q x t ts b H) (k : Same H H') : S23 T CF d l i q x t ts b H' := ⟨s.dr.mono k, s.tb.ext k, k _ _ s.hq, s.fa.mono k⟩
theorem S23.ext (s : S23 T CF d l i q x t ts b H) (k : ExtN H H') (tb : Tabs T H') : S23 T CF d l i q x t ts b H' := ⟨s.dr.ext k, tb, k _ _ s.hq (by intro _ z; cases z), s.fa.extS k⟩
end
end FT


/-! _law_result: what it makes of a lambda -/
namespace FT
open PySem L2 TL ClX LamX NdefX
abbrev lamQ (x : Str) : Str := x ++ ".<locals>." ++ "<lambda>"
structure Ge (K : PySem.W.Frag) (mg : Str → Option Value) (x : Str) (st : Stmt) (f : Addr) (fd : FuncData) : Prop where
  fn : Fun K x x st f fd
  bn : Binds K fd ["_law_work"] []
  mgn : mg x = some (.ref f)
def cnR (i : Nat) : Str := (["InvalidSizes", "UnknownName", "InvalidUsers", "InvalidLists", "NeedsMemory", "InvalidLimits", "TooMany"] : List Str).getD i ""
def wdR (i : Nat) : Str := (["sizes", "name", "users", "lists", "memory", "limits", "many"] : List Str).getD i ""
def flR (i : Nat) : Option Str := ([some ("place" : Str), some ("name" : Str), none, none, none, some ("name" : Str), some ("most" : Str)] : List (Option Str)).getD i none
/-- the attribute that is told -/
def FldR (H : Hp) (d : Option Addr) (v : V) : Option Str → Prop
  | some f => ∃ dd, d = some dd ∧ H dd = some (.xd [(f, v)])
  | none => v = .non ∧ (d = none ∨ ∃ dd fs, d = some dd ∧ H dd = some (.xd fs))
def TRes (C : Nat → Addr) : (XK → Hp → VK → Prop) → Hp → VK → Prop := fun tl H Q =>
  ∀ H1, Same H H1 → tl (fun cls d H' => ∃ i v, i < 7 ∧ cls = .ref (C i) ∧ FldR H' d v (flR i) ∧ ∀ p H'', Same H' H'' → H' p = none → H'' p = some (.tup [.str (wdR i), v]) → Q (.ref p) H'') H1
    fun v H' => ∀ p H'', Same H' H'' → H' p = none → H'' p = some (.tup [.str "value", v]) → Q (.ref p) H''
structure Cl7 (K : PySem.W.Frag) (mg : Str → Option Value) (R : Addr) (C : Nat → Addr) : Prop where
  gR : mg "RolloutError" = some (.ref R)
  g : ∀ i, i < 7 → mg (cnR i) = some (.ref (C i))
  x : ∀ i, i < 7 → XCls K (C i)
  kit : ∀ i j, i < 7 → j < 7 → PySem.W.kitOne K (.ref (C i)) (.ref (C j)) = some (decide (i = j))
  kitV : ∀ i, i < 7 → PySem.W.kitOne K (.ref (C i)) (.type "ValueError") = some true
  te : ∀ i, i < 7 → PySem.W.exmOne K (.ref (C i)) (.ref R) = some true
  no : ∀ i f, i < 7 → flR i = some f → PySem.W.findIn K (.ref (C i)) f = some none
theorem XV_monoR {H H' : Hp} {a C : Addr} {fs : List (Str × V)} (s : Same H H') (x : XV H a C fs) : XV H' a C fs := by
  rcases x with ⟨x, e⟩ | ⟨dx, x, y⟩
  · exact .inl ⟨x.elim (fun q => .inl (s _ _ q)) (fun q => .inr (s _ _ q)), e⟩
  · exact .inr ⟨dx, x.elim (fun q => .inl (s _ _ q)) (fun q => .inr (s _ _ q)), y.elim (fun q => .inl (s _ _ q)) (fun q => .inr (s _ _ q))⟩
def marks7 (i : Nat) : List V := (List.range 7).map fun j => .bl (decide (i = j))
theorem upTo7 {Pr : Nat → Prop} (h0 : Pr 0) (h1 : Pr 1) (h2 : Pr 2) (h3 : Pr 3) (h4 : Pr 4) (h5 : Pr 5) (h6 : Pr 6) : ∀ i, i < 7 → Pr i := by
  intro i hi
  match i, hi with
  | 0, _ => exact h0
  | 1, _ => exact h1
  | 2, _ => exact h2
  | 3, _ => exact h3
  | 4, _ => exact h4
  | 5, _ => exact h5
  | 6, _ => exact h6
theorem marks7_flat (i : Nat) : (marks7 i).all flatV = true := rfl
theorem marks7_count : ∀ i, i < 7 → (marks7 i).countP (fun z => eqV z (.bl true)) = 1 := upTo7 rfl rfl rfl rfl rfl rfl rfl
theorem marks7_get (i : Nat) : ∀ m, m < 7 → (marks7 i)[m]? = some (.bl (decide (i = m))) := upTo7 rfl rfl rfl rfl rfl rfl rfl
theorem marks7_at : ∀ i, i < 7 → (marks7 i)[i]? = some (.bl true) ∧ ∀ (m : Nat) (z' : V), m < i → (marks7 i)[m]? = some z' → eqV z' (.bl true) = false := fun i hi => by
  refine ⟨by rw [marks7_get i i hi, decide_eq_true rfl], fun m z' lt h => ?_⟩
  rw [marks7_get i m (by omega), decide_eq_false (by omega)] at h
  cases h
  rfl
/-- [..] + [..]: the second list new -/
theorem cat_segR {H : Hp} {l : Addr} {xs ys : List V} {Q : VK} (hl : H l = some (.lst xs)) (few : xs.length + ys.length ≤ 1000) (k : ∀ p H', Same H H' → H p = none → H' p = some (.lst (xs ++ ys)) → Q (.ref p) H') :
    ys.length ≤ sizeLine ∧ ∀ q, H q = none → rCat (.ref l) (.ref q) (upd H q (.lst ys)) Q := by
  have big : 1000 ≤ sizeLine := by decide
  refine ⟨by omega, fun q nq => ⟨l, q, xs, ys, rfl, rfl, by rw [upd_ne (ne_of_none hl nq)]; exact hl, upd_same, by omega, fun p np => ?_⟩⟩
  have s1 := same_new (o := .lst ys) nq
  exact k p _ (s1.trans (same_new np)) (s1.free np) upd_same
abbrev NRs : List Str := ["_law_work", "_law_error", "_law_result_here", "e", "_law_marks"]
theorem scRs : FnScope NRs ["_law_work"] (defScope s__law_result) := ⟨rfl, rfl, rfl, by decide +kernel, rfl, by decide +kernel, by decide +kernel⟩
theorem isi_rdR {K : PySem.W.Frag} {σ : St} {H : Hp} {a Ci D : Addr} {fs : List (Str × V)} {b : Bool} {Q : VK} (h0 : σ[1]? = some (some (.ref a))) (X : XCls K Ci) (xv : XV H a Ci fs) (kit : PySem.W.kitOne K (.ref Ci) (.ref D) = some b) (q : Q (.bl b) H) :
    tCB (rIsX K) (tCons (tVar 1) (tCons (tC (.ref D)) tNil)) σ H Q := ⟨_, h0, a, Ci, fs, .ref D, _, b, rfl, .own _, X, xv, kit, q⟩
theorem result_gives {X : Cx} {g R : Addr} {C : Nat → Addr} {cdg : Value} {q : Str} (N : Nm X.mg) (L : Cl7 X.K X.mg R C) : GivesS X NRs "_law_result" (defScope s__law_result) g cdg (defBody s__law_result) "_law_work" q (TRes C) := by
  intro f c' s H Q tl act hc h
  refine ⟨_, pss_cons (ps_asg (pe_tup (pa_cons pe_non (pa_cons pe_non pa_nil))) (pg_tup rfl (pgs_cons (pg_name (i := 1) scRs.nd rfl (.inl rfl)) (pgs_cons (pg_name (i := 2) scRs.nd rfl (.inl rfl)) pgs_nil))))
    (pss_cons (ps_try_keep (X := (cxOf C8.CX0 X.prog X.w X.K X.mg X.base NRs "_law_result" (defScope s__law_result) g cdg X.A X.stack s H C8.E0).nox) (c := .ref R) (i := 3)
      rfl rfl rfl scRs.nd rfl rfl ⟨rfl, by decide, .inl L.gR⟩ LamX.takes0 (fun W pn xe tk _ => pss_one (ps_set (i := 2) scRs.nd rfl (.inl rfl) (act W pn xe _ _ tk))) (fun a oe cls d pn hz hf => pss_one (ps_set (i := 1) scRs.nd rfl (.inl rfl) (pv 3))))
    (pss_cons (ps_if (pt_cmpR op_isN (pv 1) pe_non (nomark _)) (pss_one (ps_ret (pe_tup (pa_cons pe_str (pa_cons (pv 2) pa_nil))))) pss_nil)
    (pss_cons (ps_set (i := 4) scRs.nd rfl (.inl rfl) (pe_lst (pa_cons (pe_callB call_isX (by rfl) N.isi (by decide +kernel) (pa_cons (pv 1) (pa_cons (pe_glob (v := .ref (C 0)) rfl (L.g 0 (by decide)) rfl) pa_nil))) (pa_cons (pe_callB call_isX (by rfl) N.isi (by decide +kernel) (pa_cons (pv 1) (pa_cons (pe_glob (v := .ref (C 1)) rfl (L.g 1 (by decide)) rfl) pa_nil)))
      (pa_cons (pe_callB call_isX (by rfl) N.isi (by decide +kernel) (pa_cons (pv 1) (pa_cons (pe_glob (v := .ref (C 2)) rfl (L.g 2 (by decide)) rfl) pa_nil))) pa_nil)))))
    (pss_cons (ps_set (i := 4) scRs.nd rfl (.inl rfl) (pe_op op_cat (pv 4) (pe_lst (pa_cons (pe_callB call_isX (by rfl) N.isi (by decide +kernel) (pa_cons (pv 1) (pa_cons (pe_glob (v := .ref (C 3)) rfl (L.g 3 (by decide)) rfl) pa_nil))) (pa_cons (pe_callB call_isX (by rfl) N.isi (by decide +kernel) (pa_cons (pv 1) (pa_cons (pe_glob (v := .ref (C 4)) rfl (L.g 4 (by decide)) rfl) pa_nil)))
      (pa_cons (pe_callB call_isX (by rfl) N.isi (by decide +kernel) (pa_cons (pv 1) (pa_cons (pe_glob (v := .ref (C 5)) rfl (L.g 5 (by decide)) rfl) pa_nil))) pa_nil))))))
    (pss_cons (ps_expr (pe_bm PySem.F.plainAttrs_list PySem.F.slot_list_append PySem.F.type_list_append mt_append (pv 4) (pa_cons (pe_callB call_isX (by rfl) N.isi (by decide +kernel) (pa_cons (pv 1) (pa_cons (pe_glob (v := .ref (C 6)) rfl (L.g 6 (by decide)) rfl) pa_nil))) pa_nil)))
    (pss_cons (ps_if (PW.pt (pw_or (pt_cmpR op_ne (pe_bm PySem.F.plainAttrs_list PySem.F.slot_list_count PySem.F.type_list_count mt_countF (pv 4) (pa_cons pe_bl pa_nil)) pe_int (nomark _)) (pw_or1 (pt_not (pt_val (pe_callB call_isX (by rfl) N.isi (by decide +kernel) (pa_cons (pv 1) (pa_cons (pe_bltn (v := .ty "ValueError") (u := .type "ValueError") (by rfl) N.vE (by decide +kernel) rfl) pa_nil)))))))) (pss_one (ps_ret (pe_tup (pa_cons pe_str (pa_cons pe_non pa_nil))))) pss_nil)
    (pss_cons (ps_if (pt_val (pe_ix ix_list (pv 4) pe_int (fun _ _ => rfl))) (pss_one (ps_ret (pe_tup (pa_cons pe_str (pa_cons (pe_xfld (pv 1)) pa_nil))))) pss_nil)
    (pss_cons (ps_if (pt_val (pe_ix ix_list (pv 4) pe_int (fun _ _ => rfl))) (pss_one (ps_ret (pe_tup (pa_cons pe_str (pa_cons (pe_xfld (pv 1)) pa_nil))))) pss_nil)
    (pss_cons (ps_if (pt_val (pe_ix ix_list (pv 4) pe_int (fun _ _ => rfl))) (pss_one (ps_ret (pe_tup (pa_cons pe_str (pa_cons (pe_xfld (pv 1)) pa_nil))))) pss_nil)
    (pss_cons (ps_if (pt_val (pe_ix ix_list (pv 4) pe_int (fun _ _ => rfl))) (pss_one (ps_ret (pe_tup (pa_cons pe_str (pa_cons (pe_xfld (pv 1)) pa_nil))))) pss_nil)
    (pss_one (ps_ret (pe_tup (pa_cons (pe_ix ix_list (pe_lst (pa_cons pe_str (pa_cons pe_str (pa_cons pe_str (pa_cons pe_str (pa_cons pe_str pa_nil)))))) (pe_bm PySem.F.plainAttrs_list PySem.F.slot_list_index PySem.F.type_list_index mt_index (pv 4) (pa_cons pe_bl pa_nil)) (fun _ _ => rfl)) (pa_cons pe_non pa_nil))))))))))))))), ?_⟩
  have big : 1000 ≤ sizeLine := by decide
  refine ⟨by show 2 ≤ sizeLine; omega, fun p0 np0 => ?_⟩
  have s0 := same_new (o := .tup [.non, .non]) np0
  refine ⟨p0, [.non, .non], rfl, .inl (.inl upd_same), rfl, _, _, rfl, _, _, rfl, rfl, ?_⟩
  refine ⟨_, _, fun cls d H' z => ?_, fun v H' z => ?_, rfl, s0 _ _ hc, h _ s0⟩
  · obtain ⟨i, v, hi, rfl, hd, k⟩ := z
    refine ⟨true, C i, rfl, L.te i hi, fun _ a ha => ⟨_, rfl, ?_⟩, fun z => nomatch z⟩
    obtain ⟨H2, e2⟩ : ∃ X, X = upd H' a (exg a (C i) d) := ⟨_, rfl⟩
    have s2 : Same H' H2 := e2 ▸ same_new ha
    obtain ⟨fs, xv, hfs⟩ : ∃ fs, XV H2 a (C i) fs ∧ ∀ f, flR i = some f → fs.lookup f = some v := by
      cases ef : flR i with
      | some f =>
        rw [ef] at hd
        obtain ⟨dd, rfl, hdd⟩ := hd
        refine ⟨[(f, v)], .inr ⟨dd, .inr (by rw [e2]; exact upd_same), .inr (s2 _ _ hdd)⟩, fun f' e => ?_⟩
        rw [← Option.some.inj e]
        simp [List.lookup]
      | none =>
        rw [ef] at hd
        obtain ⟨_, hd⟩ := hd
        rcases hd with rfl | ⟨dd, fs, rfl, hdd⟩
        · exact ⟨[], .inl ⟨.inr (by rw [e2]; exact upd_same), rfl⟩, fun f' e => by cases e⟩
        · exact ⟨fs, .inr ⟨dd, .inr (by rw [e2]; exact upd_same), .inr (s2 _ _ hdd)⟩, fun f' e => by cases e⟩
    subst e2
    have Xi := L.x i hi
    refine ⟨_, rfl, rfl, _, rfl, iteF ?_⟩
    refine isi_rdR rfl Xi xv (L.kit i 0 hi (by decide)) (isi_rdR rfl Xi xv (L.kit i 1 hi (by decide)) (isi_rdR rfl Xi xv (L.kit i 2 hi (by decide)) ⟨by show 3 ≤ sizeLine; omega, fun p1 n1 => ?_⟩))
    have s3 := same_new (o := .lst ([.bl (decide (i = 0)), .bl (decide (i = 1)), .bl (decide (i = 2))] : List V)) n1
    have a3 := upd_same (H := upd H' a (exg a (C i) d)) (a := p1) (o := .lst ([.bl (decide (i = 0)), .bl (decide (i = 1)), .bl (decide (i = 2))] : List V))
    have xv3 := XV_monoR s3 xv
    refine ⟨_, rfl, isi_rdR rfl Xi xv3 (L.kit i 3 hi (by decide)) (isi_rdR rfl Xi xv3 (L.kit i 4 hi (by decide)) (isi_rdR rfl Xi xv3 (L.kit i 5 hi (by decide)) (cat_segR a3 (by show 3 + 3 ≤ 1000; omega) fun p2 H4 s4 n2 a4 => ?_)))⟩
    have xv4 := XV_monoR s4 xv3
    have s04 : Same H' H4 := (s2.trans s3).trans s4
    refine ⟨_, rfl, .inl ⟨rfl, _, SqL.of a4⟩, isi_rdR rfl Xi xv4 (L.kit i 6 hi (by decide)) ⟨p2, _, _, rfl, rfl, a4, (by show 6 < sizeLine; omega), ?_⟩⟩
    obtain ⟨H5, e5⟩ : ∃ X, X = upd H4 p2 (.lst (marks7 i)) := ⟨_, rfl⟩
    have a5 : H5 p2 = some (.lst (marks7 i)) := by rw [e5]; exact upd_same
    have s05 : Same H' H5 := by
      rw [e5]
      exact s04.put ((s2.trans s3).free n2)
    have xv5 : XV H5 a (C i) fs := by
      have off : ∀ {b : Addr} {u : HO}, H4 b = some u → (∀ xs, u ≠ .lst xs) → H5 b = some u := fun {b u} e n => by
        rw [e5, upd_ne fun z => by rw [z, a4] at e; exact n _ (Option.some.inj e).symm]
        exact e
      rcases xv4 with ⟨x, e⟩ | ⟨dx, x, y⟩
      · exact .inl ⟨x.elim (fun q => .inl (off q fun xs z => by cases z)) (fun q => .inr (off q fun xs z => by cases z)), e⟩
      · exact .inr ⟨dx, x.elim (fun q => .inl (off q fun xs z => by cases z)) (fun q => .inr (off q fun xs z => by cases z)), y.elim (fun q => .inl (off q fun xs z => by cases z)) (fun q => .inr (off q fun xs z => by cases z))⟩
    show (_ : St → Hp → Prop) _ (upd H4 p2 (.lst (marks7 i)))
    rw [← e5]
    refine ⟨_, rfl, .inl ⟨rfl, _, SqL.of a5⟩, p2, marks7 i, .bl true, rfl, rfl, SqL.of a5, rfl, marks7_flat i, rfl, _, rfl, ?_⟩
    rw [marks7_count i hi]
    refine iteF ?_
    refine ⟨_, rfl, a, C i, fs, .ty "ValueError", .type "ValueError", true, rfl, .ty _, Xi, xv5, L.kitV i hi, true, rfl, iteF ?_⟩
    have tell : ∀ r, H5 r = none → Q (.ref r) (upd H5 r (.tup [.str (wdR i), v])) := fun r nr => k r _ (s05.trans (same_new nr)) (s05.free nr) upd_same
    by_cases i0 : i = 0
    · subst i0
      exact ⟨_, rfl, p2, marks7 0, 0, .bl true, rfl, rfl, SqL.of a5, atI_nat (j := 0) rfl, true, rfl, iteT ⟨_, rfl, a, C 0, fs, v, rfl, xv5, Xi, L.no 0 _ hi rfl, hfs _ rfl, by show 2 ≤ sizeLine; omega, tell⟩⟩
    refine ⟨_, rfl, p2, marks7 i, 0, .bl (decide (i = 0)), rfl, rfl, SqL.of a5, atI_nat (j := 0) (marks7_get i 0 (by decide)), _, rfl, ?_⟩
    rw [decide_eq_false i0]
    refine iteF ?_
    by_cases i1 : i = 1
    · subst i1
      exact ⟨_, rfl, p2, marks7 1, 1, .bl true, rfl, rfl, SqL.of a5, atI_nat (j := 1) rfl, true, rfl, iteT ⟨_, rfl, a, C 1, fs, v, rfl, xv5, Xi, L.no 1 _ hi rfl, hfs _ rfl, by show 2 ≤ sizeLine; omega, tell⟩⟩
    refine ⟨_, rfl, p2, marks7 i, 1, .bl (decide (i = 1)), rfl, rfl, SqL.of a5, atI_nat (j := 1) (marks7_get i 1 (by decide)), _, rfl, ?_⟩
    rw [decide_eq_false i1]
    refine iteF ?_
    by_cases i5 : i = 5
    · subst i5
      exact ⟨_, rfl, p2, marks7 5, 5, .bl true, rfl, rfl, SqL.of a5, atI_nat (j := 5) rfl, true, rfl, iteT ⟨_, rfl, a, C 5, fs, v, rfl, xv5, Xi, L.no 5 _ hi rfl, hfs _ rfl, by show 2 ≤ sizeLine; omega, tell⟩⟩
    refine ⟨_, rfl, p2, marks7 i, 5, .bl (decide (i = 5)), rfl, rfl, SqL.of a5, atI_nat (j := 5) (marks7_get i 5 (by decide)), _, rfl, ?_⟩
    rw [decide_eq_false i5]
    refine iteF ?_
    by_cases i6 : i = 6
    · subst i6
      exact ⟨_, rfl, p2, marks7 6, 6, .bl true, rfl, rfl, SqL.of a5, atI_nat (j := 6) rfl, true, rfl, iteT ⟨_, rfl, a, C 6, fs, v, rfl, xv5, Xi, L.no 6 _ hi rfl, hfs _ rfl, by show 2 ≤ sizeLine; omega, tell⟩⟩
    refine ⟨_, rfl, p2, marks7 i, 6, .bl (decide (i = 6)), rfl, rfl, SqL.of a5, atI_nat (j := 6) (marks7_get i 6 (by decide)), _, rfl, ?_⟩
    rw [decide_eq_false i6]
    refine iteF ?_
    refine ⟨by show 5 ≤ sizeLine; omega, fun pl npl => ?_⟩
    have s6 : Same H5 (upd H5 pl (.lst [.str "", .str "", .str "users", .str "lists", .str "memory"])) := same_new npl
    obtain ⟨m1, m2⟩ := marks7_at i hi
    have three : i = 2 ∨ i = 3 ∨ i = 4 := by omega
    have vn : v = .non := by
      rcases three with rfl | rfl | rfl <;> exact hd.1
    subst vn
    have wd : ([V.str "", .str "", .str "users", .str "lists", .str "memory"] : List V)[i]? = some (.str (wdR i)) := by
      rcases three with rfl | rfl | rfl <;> rfl
    refine ⟨_, rfl, .inl ⟨rfl, _, SqL.of (s6 _ _ a5)⟩, p2, marks7 i, .bl true, i, .bl true, rfl, rfl, SqL.of (s6 _ _ a5), rfl, marks7_flat i, m1, rfl, m2, ?_⟩
    refine ⟨pl, _, _, .str (wdR i), rfl, rfl, SqL.of upd_same, atI_nat wd, by show 2 ≤ sizeLine; omega, fun r nr => ?_⟩
    exact k r _ ((s05.trans s6).trans (same_new nr)) ((s05.trans s6).free nr) upd_same
  · refine ⟨_, rfl, rfl, _, rfl, iteT ⟨_, rfl, by show 2 ≤ sizeLine; omega, fun p np => z p _ (same_new np) np upd_same⟩⟩
end FT


/-! _law_refusals_right of k23 -/
namespace FT
open PySem L2 TL ClX LiI LamX
/-- a word and a datum, told as a pair -/
theorem pairW {K : PySem.W.Frag} {H : Hp} {r : Addr} {w : Str} (h : H r = some (.tup [.str w, .non])) : Dp K H (.ref r) (.tuple [.str w, .none]) := .tup (SqT.of h) (.cons (.str _) (.cons .non .nil))
structure WRf (P : Program) (w : World) (K : PySem.W.Frag) (mg : Str → Option Value) (base : Heap) (CF CA CS CU CN : Addr) (f : Nat → Addr) (fd : Nat → FuncData) : Prop where
  dt : Dn P w K mg base CX0 2 "_law_take" ["_law_draw", "_law_size"] spTakeB (f 0) (fd 0)
  dp : Dn P w K mg base CX0 3 "_law_pick" ["_law_draw", "_law_some"] spPickB (f 1) (fd 1)
  fx : Dn P w K mg base (L2.CX P w) 17 "fixed" ["forest", "users", "sizes"] (spFixed K CF CA CS CU CN) (f 2) (fd 2)
  me : Dn P w K mg base (L2.CX P w) 4 "is_memoryless" ["forest", "users"] (spMem K CF CU) (f 3) (fd 3)
  ic : Dn P w K mg base CX0 1 "_law_is_chains" ["_law_parents"] spIsChains (f 4) (fd 4)
def spRefu (T : List (Addr × Str)) (CF : Addr) : Sp := fun vs H Q _ => ∃ (d l i q x : Addr) (t ts : List (Str × Str)) (b : Int), vs = [.ref d, .ref x, .ref q] ∧ S23 T CF d l i q x t ts b H ∧ b + 10 ≤ 10 ^ 12 ∧ TreeOk t ∧ ts.Perm t ∧
  ∀ H', S23 T CF d l i q x t ts (b + 10) H' → Q (.bl true) H'
abbrev NRu : List Str := ["_law_draw", "_law_wood", "_law_parents", "_law_many", "_law_odd"]
section
variable {P : Program} {w : World} {K : PySem.W.Frag} {mg : Str → Option Value} {base : Heap}
end
end FT


/-! the law of k24 -/
namespace FT
open PySem L2 TL ClX LiI LamX
def rDClear : V → List V → Hp → VK → Prop := fun x vs H Q => ∃ (d : Addr) (kvs : List (Key × V)), x = .ref d ∧ vs = [] ∧ H d = some (.dK kvs) ∧ Q .non (upd H d (.dK []))
theorem mt_dclear {X : Cx} : MtR X "dict.clear" rDClear := by
  intro pins s σ H x vs v us Q I rx rv h
  obtain ⟨d, kvs, rfl, rfl, hd, q⟩ := h
  cases rx
  have hus := rv.zero
  subst hus
  exact d_clear I hd fun s' I' => ⟨.non, _, I', rfl, q⟩
theorem pe_impK {X : Cx} {e : Expr} {te te' : TE} (h : PE X e te) (m : ∀ σ H Q, te' σ H Q → te σ H Q) : PE X e te' := ⟨fun pins s σ H Q I q => h.run pins s σ H Q I (m _ _ _ q)⟩
theorem ps_impK {X : Cx} {st : Stmt} {t t' : TS} (h : PS X st t) (m : ∀ D σ H, t' D σ H → t D σ H) : PS X st t' := ⟨fun pins s σ H D I q => h.run pins s σ H D I (m _ _ _ q)⟩
/-- what the law of k24 leans on -/
structure W24 (P : Program) (w : World) (K : PySem.W.Frag) (mg : Str → Option Value) (base : Heap) (CF CU : Addr) (mc : Value) (f : Nat → Addr) (fd : Nat → FuncData) : Prop where
  Z : Fc K mg CF mc
  bg : Dn P w K mg base CX0 1 "_law_begin" ["_law_script"] (spBeginB K) (f 0) (fd 0)
  dt : Dn P w K mg base CX0 2 "_law_take" ["_law_draw", "_law_size"] spTakeB (f 1) (fd 1)
  dp : Dn P w K mg base CX0 3 "_law_pick" ["_law_draw", "_law_some"] spPickB (f 2) (fd 2)
  fo : Dn P w K mg base CX0 4 "_law_forest" ["_law_draw", "_law_most"] spForB (f 3) (fd 3)
  fi : FnOk P w K mg base CX0 3 (f 4) (fd 4) ["self", "parents"] (spFInit CF)
  fim : Mk K CF (f 4)
  fib : Binds K (fd 4) ["self", "parents"] []
  wi : Dn P w K mg base (L2.CX P w) 5 "witness" ["forest", "users"] (spWit K CF CU) (f 5) (fd 5)
  wik : KBn K (fd 5) ["forest", "users"] 0 ["users", "forest"] (tn2 Value) (tn2 V)
  iw : Dn P w K mg base CX0 13 "_law_is_witness" ["_law_parents", "_law_folk", "_law_three"] spIsWit (f 6) (fd 6)
  fl : Dn P w K mg base CX0 1 "_law_flipped" ["_law_some"] spFlipP (f 7) (fd 7)
def spLaw24 (K : PySem.W.Frag) (T : List (Addr × Str)) : Sp := fun vs H Q _ => ∃ (a : Addr) (ns : List Int), vs = [.ref a] ∧ SqL K H a (ns.map V.int) ∧ ns.length ≤ 63 ∧ Tabs T H ∧ ∀ H', Q (.bl true) H'
abbrev N24 : List Str := ["_law_script", "_law_draw", "_law_turn", "_law_parents", "_law_folk", "_law_above", "_law_is_chains", "_law_copies", "_law_again", "_law_told", "_law_odd", "_law_name"]
/-- are the parents two chains -/
def tChn : TE := fun σ H Q => ∃ (u0 u1 u2 u4 u6 u7 u8 u9 u10 u11 : Option V) (q p : Addr) (t : List (Str × Str)), σ = [u0, u1, u2, some (.ref q), u4, some (.ref p), u6, u7, u8, u9, u10, u11] ∧ H q = some (.dK (prs t)) ∧ H p = some (.lst ((t.map Prod.snd).map V.str)) ∧ t.length ≤ 12 ∧ ∀ H', Same H H' → Q (.bl (twoC t)) H'
/-- the two askings -/
def tAgain (K : PySem.W.Frag) : TS := fun D σ H => ∃ (u0 u1 u2 u8 u9 u10 : Option V) (q p C : Addr) (n : Int) (t ts : List (Str × Str)), σ = [u0, u1, u2, some (.ref q), some (.int n), some (.ref p), some (.bl (twoC t)), some (.ref C), u8, u9, u10, none] ∧ H q = some (.dK (prs t)) ∧ TreeOk t ∧ ts.Perm t ∧ Asc ts ∧ 2 ≤ n ∧ n ≤ 10 ^ 30 ∧ H C = some (.lst []) ∧
  ∀ (H' : Hp) (u8' u9' : Option V), (∀ b u, b ≠ C → H b = some u → H' b = some u) → H' C = some (.lst [.str (dvT ts n).shown, .str (dvT ts n).shown]) → D.nx [u0, u1, u2, some (.ref q), some (.int n), some (.ref p), some (.bl (twoC t)), some (.ref C), u8', u9', u10, none] H'
/-- after the askings -/
def tRest24 (T : List (Addr × Str)) (CF : Addr) : TS := fun D σ H => ∃ (u0 u2 u6 u8 u9 u10 : Option V) (d l i q p C : Addr) (b n : Int) (t ts : List (Str × Str)), σ = [u0, some (.ref d), u2, some (.ref q), some (.int n), some (.ref p), u6, some (.ref C), u8, u9, u10, none] ∧ DrawB H d l i b ∧ b + 100 ≤ 10 ^ 12 ∧ Tabs T H ∧ H q = some (.dK (prs t)) ∧ TreeOk t ∧ ts.Perm t ∧ Asc ts ∧ 2 ≤ n ∧ n ≤ 10 ^ 30 ∧
  H C = some (.lst [.str (dvT ts n).shown, .str (dvT ts n).shown]) ∧ ∀ (H' : Hp) (u10' : Option V), DrawB H' d l i (b + 100) → Tabs T H' → D.nx [u0, some (.ref d), u2, some (.ref q), some (.int n), some (.ref p), u6, some (.ref C), u8, u9, u10', none] H'
section
variable {P : Program} {w : World} {K : PySem.W.Frag} {mg : Str → Option Value} {base : Heap}
theorem sc24 : FnScope N24 ["_law_script"] (defScope s_law) := ⟨rfl, rfl, rfl, by decide +kernel, rfl, by decide +kernel, by decide +kernel⟩
theorem ok_law24 {f0 fRs CF CU R0 co ta : Addr} {mc : Value} {CC : Nat → Addr} {T : List (Addr × Str)} {f : Nat → Addr} {fd : Nat → FuncData} {fd0 fdRs : FuncData} (F : FunC K "law" "law" s_law f0 fd0 co) (N : Nm mg) (L : W24 P w K mg base CF CU mc f fd)
    (GE : Ge K mg "_law_result" s__law_result fRs fdRs) (C : Cl7 K mg R0 CC) (eU : CC 2 = CU) (TB : TabB base mg co ta) (hmT : (ta, lamQ "law") ∈ T) (hut : ∀ p ∈ T, p.1 = ta → p.2 = lamQ "law") : FnG P w K mg base CX0 14 f0 fd0 ["_law_script"] (spLaw24 K T) := by
  refine F.okG sc24 (fun vs H Q E h => ?_) (fun A outer s H vs Q E clr hr h => ?_)
  · obtain ⟨a, ns, rfl, _⟩ := h
    rfl
  · obtain ⟨a, ns, rfl, hS, hlen, tT, k⟩ := h
    have hu := hu_of hr
    have hr1 : Room 1 _ := hr.mono (by decide)
    have hr2 : Room 2 _ := hr.mono (by decide)
    have hr3 : Room 3 _ := hr.mono (by decide)
    have hr4 : Room 4 _ := hr.mono (by decide)
    have hr5 : Room 5 _ := hr.mono (by decide)
    have hr7 : Room 7 _ := hr.mono (by decide)
    have nd := sc24.nd
    have big : 1000 ≤ sizeLine := by decide
    refine ⟨_, (pss_cons (ps_set (i := 1) nd rfl (.inl rfl) (pe_call L.bg.ok hr1 rfl L.bg.mgn L.bg.kp L.bg.bn .nil pass0 (pa_cons (pv 0) pa_nil)))
(pss_cons (ps_for PassesOwn.never rfl (pi_range1 (by rfl) N.rng (pa_cons (pe_op op_add pe_int (pe_callB (call_min2 rfl) (by rfl) N.min (by decide +kernel) (pa_cons (pe_callB call_len_seq (by rfl) N.len PySem.boot_len (pa_cons (pv 0) pa_nil)) (pa_cons pe_int pa_nil)))) pa_nil)) (pg_name (i := 2) nd rfl (.inl rfl)) (pss_cons (ps_set (i := 3) nd rfl (.inr rfl) (pe_call L.fo.ok hr4 rfl L.fo.mgn L.fo.kp L.fo.bn .nil pass0 (pa_cons (pv 1) (pa_cons pe_int pa_nil))))
(pss_cons (ps_set (i := 4) nd rfl (.inl rfl) (pe_op op_add pe_int (pe_call L.dt.ok hr2 rfl L.dt.mgn L.dt.kp L.dt.bn .nil pass0 (pa_cons (pv 1) (pa_cons (pe_call L.dp.ok hr3 rfl L.dp.mgn L.dp.kp L.dp.bn .nil pass0 (pa_cons (pv 1) (pa_cons (pe_lst (pa_cons pe_int (pa_cons pe_int (pa_cons pe_int (pa_cons pe_int (pa_cons pe_int (pa_cons (pe_op op_sub (pe_op op_pow pe_int pe_int) pe_int) pa_nil))))))) pa_nil))) pa_nil)))))
(pss_cons (ps_set (i := 5) nd rfl (.inr rfl) (pe_callTy (call_listV rfl) (by rfl) N.lst (by decide +kernel) (pa_cons (pe_bm0 PySem.F.plainAttrs_dict PySem.F.slot_dict_values PySem.F.type_dict_values mt_dvals (pv 3)) pa_nil)))
(pss_cons (ps_set (i := 6) nd rfl (.inl rfl) (pe_impK (te' := tChn) (pe_and (pe_cmpR op_lt (pe_bm PySem.F.plainAttrs_list PySem.F.slot_list_count PySem.F.type_list_count mt_countF (pv 5) (pa_cons pe_str pa_nil)) pe_int (nomark _)) (pe_one (pe_cmpR (op_eqNil hr.units) (pe_lock (pe_lc (own := [("_law_name", 11)]) (g := gName 11) (tt := tTest (tOp (rI0 fun i j => .bl (decide (j < i))) (tBM K "list" (rCntF K) (tVar 5) (tCons (tVar 11) tNil)) (tC (.int 1)))) (te := tVar 11) rfl nd (pi_keys (pv 3)) (blkOk_by (N := N24) (sc := defScope s_law) (by decide +kernel)) (fun _ _ _ _ _ => pg_name (i := 11) nd rfl (Or.inl rfl)) (fun _ _ _ _ _ => pts_one (pt_cmpR op_gt (pe_bm PySem.F.plainAttrs_list PySem.F.slot_list_count PySem.F.type_list_count mt_countF (pv 5) (pa_cons (pv 11) pa_nil)) pe_int (nomark _))) (fun _ _ _ _ _ => pv 11))) (pe_lst pa_nil) (nomark _)))) ?_))
(pss_cons (ps_set (i := 7) nd rfl (.inl rfl) (pe_lst pa_nil))
(pss_cons (ps_impK (t' := tAgain K) (ps_for PassesOwn.never rfl (pi_range1 (by rfl) N.rng (pa_cons pe_int pa_nil)) (pg_name (i := 8) nd rfl (.inl rfl)) (pss_cons (ps_set (i := 9) nd rfl (.inl rfl) (pe_callK0 (E := E0) L.wi.ok hr5 rfl L.wi.mgn L.wi.kp L.wik L2.passL (pk_cons (pv 4) (pk_cons (pe_make L.fim L.fi hr4 (by rfl) L.Z.gF L.fib .nil pass0 (pa_cons (pv 3) pa_nil)) pk_nil))))
(pss_cons (ps_expr (pe_bm PySem.F.plainAttrs_list PySem.F.slot_list_append PySem.F.type_list_append mt_append (pv 7) (pa_cons (pe_callB (call_reprR clr.deeper hr.units) (by rfl) N.rep (by decide +kernel) (pa_cons (pv 9) pa_nil)) pa_nil)))
(pss_cons (ps_if (PW.pt (pw_and (pt_val (pv 6)) (pw_and1 (pt_cmpR op_notN (pv 9) pe_non (nomark _))))) (pss_one (ps_ret pe_bl)) pss_nil)
(pss_one (ps_if (pt_not (pt_val (pv 6))) (pss_cons (ps_if (PW.pt (pw_or (pt_not (pt_val (pe_callB call_isi (by rfl) N.isi (by decide +kernel) (pa_cons (pv 9) (pa_cons (pe_bltn (v := .ty "list") (u := .type "list") (by rfl) N.lst (by decide +kernel) rfl) pa_nil))))) (pw_or (pt_cmpR op_ne (pe_callB call_len_seq (by rfl) N.len PySem.boot_len (pa_cons (pv 9) pa_nil)) pe_int (nomark _)) (pw_or1 (pt_not (pt_val (pe_call L.iw.ok hr rfl L.iw.mgn L.iw.kp L.iw.bn .nil pass0 (pa_cons (pv 3) (pa_cons (pv 4) (pa_cons (pv 9) pa_nil)))))))))) (pss_one (ps_ret pe_bl)) pss_nil)
(pss_cons (ps_expr (pe_bm0 PySem.F.plainAttrs_dict PySem.F.slot_dict_clear PySem.F.type_dict_clear mt_dclear (pe_ix ix_list (pv 9) pe_int (fun _ _ => rfl))))
(pss_one (ps_expr (pe_bm0 PySem.F.plainAttrs_list PySem.F.slot_list_clear PySem.F.type_list_clear mt_clear (pv 9)))))) pss_nil)))))) ?_)
(pss_imp22 (t' := tRest24 T CF) (pss_cons (ps_if (PW.pt (pw_or (pt_cmpR op_ne (pe_ix ix_list (pv 7) pe_int (fun _ _ => rfl)) (pe_ix ix_list (pv 7) pe_int (fun _ _ => rfl)) (nomark _)) (pw_or1 (pt_cmpR op_ne (pe_callB (call_reprR clr.deeper hr.units) (by rfl) N.rep (by decide +kernel) (pa_cons (pe_call (E := E0) L.wi.ok hr5 rfl L.wi.mgn L.wi.kp L.wi.bn .nil L2.passL (pa_cons (pe_make L.fim L.fi hr4 (by rfl) L.Z.gF L.fib .nil pass0 (pa_cons (pe_call L.fl.ok hr1 rfl L.fl.mgn L.fl.kp L.fl.bn .nil pass0 (pa_cons (pv 3) pa_nil)) pa_nil)) (pa_cons (pv 4) pa_nil))) pa_nil)) (pe_ix ix_list (pv 7) pe_int (fun _ _ => rfl)) (nomark _))))) (pss_one (ps_ret pe_bl)) pss_nil)
(pss_cons (ps_set (i := 10) nd rfl (.inr rfl) (pe_call L.dp.ok hr3 rfl L.dp.mgn L.dp.kp L.dp.bn .nil pass0 (pa_cons (pv 1) (pa_cons (pe_lst (pa_cons pe_int (pa_cons (pe_un un_neg pe_int) (pa_cons (pe_op op_add (pe_op op_pow pe_int pe_int) pe_int) (pa_cons pe_non (pa_cons pe_bl (pa_cons pe_str (pa_cons (pe_lst (pa_cons pe_int pa_nil)) (pa_cons pe_dnewK pa_nil))))))))) pa_nil))))
(pss_cons (ps_if (pt_cmpR (op_neD hr.units) (pe_lamS (T := T) (k := 5) (t := fun E => tCall (spWit K CF CU) [] E (tCons (tMake CF (spFInit CF) [] E0 (tCons (tVar 3) tNil)) (tCons (tVar 10) tNil))) rfl GE.mgn GE.fn GE.bn scRs rfl (.inl rfl) (fun cdg => result_gives N C) TB rfl hmT hut hr7 (lamS_by (sc := defScope s_law) (by decide +kernel)) rfl (fun _ _ _ _ _ => rfl) (fun A outer s H E f c' hr2 => pe_call L.wi.ok hr2 rfl L.wi.mgn L.wi.kp L.wi.bn .nil (passes_call (takes_of rfl rfl rfl rfl) (fun _ _ _ _ h => h)) (pa_cons (pe_make L.fim L.fi (hr2.mono (by decide)) (by rfl) L.Z.gF L.fib .nil pass0 (pa_cons (pv 3) pa_nil)) (pa_cons (pv 10) pa_nil)))) (pe_tup (pa_cons pe_str (pa_cons pe_non pa_nil))) (nomark _)) (pss_one (ps_ret pe_bl)) pss_nil)
(pss_one (ps_if (pt_cmpR op_notN (pe_call (E := E0) L.wi.ok hr5 rfl L.wi.mgn L.wi.kp L.wi.bn .nil L2.passL (pa_cons (pe_make L.fim L.fi hr4 (by rfl) L.Z.gF L.fib .nil pass0 (pa_cons (pv 3) pa_nil)) (pa_cons pe_int pa_nil))) pe_non (nomark _)) (pss_one (ps_ret pe_bl)) pss_nil))))) ?_))))))))
(pss_one (ps_ret pe_bl)))), ?_⟩
    · intro σ H Q ⟨u0, u1, u2, u4, u6, u7, u8, u9, u10, u11, q, p, ts, e, hq, hp, few, k⟩
      subst e
      refine ⟨_, rfl, .inl ⟨rfl, _, SqL.of hp⟩, p, _, .str "", rfl, rfl, SqL.of hp, rfl, flat_strs _, _, _, rfl, rfl, _, rfl, ?_⟩
      rw [above_count]
      refine ite2 (fun yes => ?_) (fun no => ?_)
      rotate_left
      · have e : twoC ts = false := by
          unfold twoC
          rw [decide_eq_false (fun z => no (decide_eq_true (by omega))), Bool.false_and]
        rw [e] at k
        exact k _ Same.refl
      have hq1 := hq
      refine ⟨q, .dK (prs ts), hq1, trivial, fun od => ⟨_, rfl, q, od, rfl, .inl ⟨prs ts, upd_same, fun D nD => ?_⟩⟩⟩
      have Dq : D ≠ q := (ne_of_none upd_same nD).symm
      have hp1 : (upd H q (.frz od (.dK (prs ts)))) p = some (.lst ((ts.map Prod.snd).map V.str)) := by rw [upd_ne (ne_of hp hq1 (by intro z; cases z))]; exact hp
      refine lc_it walk_keys (fun i H' => Same (upd H q (.frz od (.dK (prs ts)))) H' ∧ H' D = some (.lst ((((ts.map Prod.fst).take i).filter fun n => decide (1 < (kids ts n).length)).map V.str))) ⟨same_new nD, upd_same⟩ (fun i H' _ z => z.1 _ _ upd_same) ?_ ?_
      · intro i y Ha Hb hi ⟨q1, q2⟩ ⟨eb, kk, vv, hk, ey⟩
        subst eb
        subst ey
        obtain ⟨⟨b, pb⟩, hb', ee⟩ : ∃ z : Str × Str, ts[i]? = some z ∧ (kk, vv) = (Sum.inr z.1, V.str z.2) := by
          unfold prs kvT at hk
          rw [List.map_map, List.getElem?_map] at hk
          obtain ⟨z, hz, e⟩ := Option.map_eq_some_iff.mp hk
          exact ⟨z, hz, e.symm⟩
        cases ee
        rw [show kV (Sum.inr b) = V.str b from rfl]
        have hb : (ts.map Prod.fst)[i]? = some b := by rw [List.getElem?_map, hb'] <;> rfl
        have more := filter_more (c := fun n => decide (1 < (kids ts n).length)) hb
        have lf := List.length_filter_le (fun n => decide (1 < (kids ts n).length)) ((ts.map Prod.fst).take i)
        rw [List.length_take] at lf
        have il := (List.getElem?_eq_some_iff.mp hb').1
        refine ⟨rfl, ?_⟩
        refine ⟨_, rfl, .inl ⟨rfl, _, SqL.of (q1 _ _ hp1)⟩, _, rfl, p, _, .str b, rfl, rfl, SqL.of (q1 _ _ hp1), rfl, flat_strs _, _, _, rfl, rfl, _, rfl, ?_⟩
        rw [above_count]
        refine ite2 (fun yes => ?_) (fun no => ?_)
        · have c : decide (1 < (kids ts b).length) = true := decide_eq_true (by have := of_decide_eq_true yes; omega)
          rw [if_pos c] at more
          refine ⟨_, rfl, _, q2, by rw [List.length_map]; omega, q1.put nD, by rw [upd_same, more, List.map_append] <;> rfl⟩
        · have c : ¬ decide (1 < (kids ts b).length) = true := fun z => no (decide_eq_true (by have := of_decide_eq_true z; omega))
          rw [if_neg c, List.append_nil] at more
          exact ⟨q1, by rw [more]; exact q2⟩
      · intro H' ⟨q1, q2⟩
        rw [prs_len, ← List.length_map (f := Prod.fst) (as := ts), List.take_length] at q2
        refine ⟨q1 _ _ upd_same, ?_⟩
        have su := unlock_same hq1 q1
        obtain ⟨H3, e3⟩ : ∃ X, X = upd H' q (.dK (prs ts)) := ⟨_, rfl⟩
        have hD3 : H3 D = some (.lst (((ts.map Prod.fst).filter fun n => decide (1 < (kids ts n).length)).map V.str)) := by rw [e3, upd_ne Dq]; exact q2
        rw [← e3] at su ⊢
        refine ⟨by show 0 ≤ sizeLine; omega, fun e0 ne0 => ?_⟩
        have te := same_new (o := .lst ([] : List V)) ne0
        refine ⟨D, e0, _, rfl, rfl, te _ _ hD3, upd_same, ?_⟩
        have e : twoC ts = decide ((((ts.map Prod.fst).filter fun n => decide (1 < (kids ts n).length)).map V.str).length = 0) := by
          unfold twoC
          rw [decide_eq_true (by have := of_decide_eq_true yes; omega), Bool.true_and, List.length_map, Bool.eq_iff_iff, decide_eq_true_iff, List.length_eq_zero_iff, List.filter_eq_nil_iff, List.all_eq_true]
          constructor
          · intro h n hn c
            have := of_decide_eq_true (h n hn)
            have := of_decide_eq_true c
            omega
          · intro h n hn
            have := h n hn
            exact decide_eq_true (by
              by_cases c : 1 < (kids ts n).length
              · exact absurd (decide_eq_true c) this
              · omega)
        rw [e] at k
        exact k _ (su.trans te)
    · intro D σ H ⟨u0, u1, u2, u8, u9, u10, q, p, C0, n, t, ts, e, hq, o, pts, asc, n2, n30, hC, kk⟩
      subst e
      have ot : TreeOk ts := o.perm pts.symm
      have uo : usersOk (.int n) (10 ^ 30) = true := by
        show (decide (1 ≤ n) && decide (n ≤ 10 ^ 30)) = true
        rw [decide_eq_true (by omega), decide_eq_true n30] <;> rfl
      have emc : memC ts (.int n) = twoC t := by
        unfold memC
        rw [decide_eq_false (fun w => by have := V.int.inj w; omega), Bool.false_or]
        exact twoC_perm pts
      have qC : q ≠ C0 := ne_of hq hC (by intro z; cases z)
      obtain ⟨txt, etx⟩ : ∃ txt, txt = (dvT ts n).shown := ⟨_, rfl⟩
      refine ⟨2, rfl, by decide, by decide, ?_⟩
      refine for_it (walk_range (lo := 0) (n := 2)) (fun j σ' H' => (∃ u8 u9, σ' = [u0, u1, u2, some (.ref q), some (.int n), some (.ref p), some (.bl (twoC t)), some (.ref C0), u8, u9, u10, none]) ∧ (∀ b u, b ≠ C0 → H b = some u → H' b = some u) ∧ H' C0 = some (.lst (List.replicate j (V.str txt)))) ⟨⟨_, _, rfl⟩, fun b u _ e => e, hC⟩ (fun _ _ _ _ _ => trivial) ?_ ?_
      · intro jj xj σ' Ha Hb hj ⟨⟨v8, v9, e⟩, kx, hCb⟩ ⟨e1, e2⟩
        subst e
        subst e1
        subst e2
        have hqb := kx q _ qC hq
        refine ⟨_, rfl, _, rfl, fun x dx nx ndx nxd => ?_⟩
        have sM : Same Hb (upd (upd Hb dx (.own x)) x (.ins CF dx [])) := fun b u e => by
          rw [upd_ne (ne_of_none e nx), upd_ne (ne_of_none e ndx)]
          exact e
        refine ⟨x, q, dx, t, rfl, upd_same, sM _ _ hqb, o, fun H3 us pus ascu fx3 oth3 => ⟨rfl, ?_⟩⟩
        have s3 : Same Hb H3 := fun b u e => oth3 b u (ne_of_none e nx) (sM _ _ e)
        have eus : us = ts := ascOne (o.perm pus.symm) (pus.trans pts.symm) ascu asc
        subst eus
        refine ⟨rfl, x, us, .int n, rfl, fx3, ot, ⟨_, .int _⟩, ?_⟩
        rw [if_pos uo]
        have more : ∀ {H' : Hp} {v9' : Option V}, (∀ b u, b ≠ C0 → Hb b = some u → H' b = some u) → H' C0 = some (.lst (List.replicate jj (V.str txt) ++ [V.str txt])) → (∃ u8 u9, ([u0, u1, u2, some (.ref q), some (.int n), some (.ref p), some (.bl (twoC t)), some (.ref C0), some (.int (0 + (jj : Int))), v9', u10, none] : St) = [u0, u1, u2, some (.ref q), some (.int n), some (.ref p), some (.bl (twoC t)), some (.ref C0), u8, u9, u10, none]) ∧ (∀ b u, b ≠ C0 → H b = some u → H' b = some u) ∧ H' C0 = some (.lst (List.replicate (jj + 1) (V.str txt))) := fun {H' v9'} kb hc =>
          ⟨⟨_, _, rfl⟩, fun b u nb e => kb b u nb (kx b u nb e), by rw [hc, List.replicate_succ'] <;> rfl⟩
        by_cases em : memC us (.int n) = true
        · rw [if_pos em]
          intro H4 s4
          have edv : dvT us n = .none := if_pos em
          have td : Told us n H4 .non (dvT us n) := by rw [edv]; exact .none em
          obtain ⟨r1, r2, r3, r4⟩ := td.reprK (K := K) ot (by omega) n30
          have hC4 := s4 _ _ (s3 _ _ hCb)
          have et : twoC t = true := emc.symm.trans em
          refine ⟨_, rfl, .inl ⟨rfl, _, SqL.of hC4⟩, _, rfl, _, _, rfl, r1, r2, r3, r4, C0, _, _, rfl, rfl, hC4, by rw [List.length_replicate]; omega, ?_⟩
          rw [← etx, et]
          rw [et] at more
          refine ⟨_, rfl, _, rfl, ?_⟩
          refine iteT ⟨_, rfl, rfl, _, rfl, ?_⟩
          rw [decide_eq_true (show V.non = V.non from rfl)]
          refine iteF ⟨_, rfl, _, rfl, iteF ?_⟩
          exact more (fun b u nb e => by rw [upd_ne nb]; exact s4 _ _ (s3 _ _ e)) upd_same
        · rw [if_neg em]
          have em : memC us (.int n) = false := Bool.eq_false_iff.mpr em
          have et : twoC t = false := emc.symm.trans em
          have nt : twoC us = false := (twoC_perm pts).trans et
          refine ⟨n, rfl, fun R q0 q1 q2 H4 s4 wt => ?_⟩
          have edv : dvT us n = wD us n := if_neg (by rw [em]; decide)
          have td : Told us n H4 (.ref R) (dvT us n) := by rw [edv]; exact .some em wt.hR wt.h0 wt.h1 wt.h2
          obtain ⟨r1, r2, r3, r4⟩ := td.reprK (K := K) ot (by omega) n30
          have s34 := s3.trans s4
          have hC4 := s34 _ _ hCb
          have C3 := s3 _ _ hCb
          have CR : C0 ≠ R := ne_of_none C3 wt.nR
          have C0' : C0 ≠ q0 := ne_of_none C3 wt.n0
          have C1' : C0 ≠ q1 := ne_of_none C3 wt.n1
          have C2' : C0 ≠ q2 := ne_of_none C3 wt.n2
          have R0 : R ≠ q0 := ne_of wt.hR wt.h0 (by intro z; cases z)
          refine ⟨_, rfl, .inl ⟨rfl, _, SqL.of hC4⟩, _, rfl, _, _, rfl, r1, r2, r3, r4, C0, _, _, rfl, rfl, hC4, by rw [List.length_replicate]; omega, ?_⟩
          rw [← etx, et]
          rw [et] at more
          obtain ⟨H5, e5⟩ : ∃ X, X = upd H4 C0 (.lst (List.replicate jj (V.str txt) ++ [V.str txt])) := ⟨_, rfl⟩
          have at5 : ∀ {b : Addr} {u : HO}, b ≠ C0 → H4 b = some u → H5 b = some u := fun nb e => by rw [e5, upd_ne nb]; exact e
          have hC5 : H5 C0 = some (.lst (List.replicate jj (V.str txt) ++ [V.str txt])) := by rw [e5]; exact upd_same
          have hR5 := at5 CR.symm wt.hR
          rw [← e5]
          refine ⟨_, rfl, _, rfl, iteF (iteF ?_)⟩
          refine ⟨_, rfl, _, rfl, iteT ?_⟩
          refine ⟨_, rfl, .ref R, .ty "list", _, _, true, rfl, .ty _, .base (.lst hR5), kit_ty (r := true) (by decide +kernel), true, rfl, iteF ?_⟩
          refine ⟨_, rfl, R, _, rfl, .inl (SqL.of hR5), rfl, _, rfl, ?_⟩
          rw [decide_eq_true (show V.int (([V.ref q0, .ref q1, .ref q2] : List V).length : Int) = V.int 3 from rfl)]
          refine iteF ?_
          have hq5 := at5 qC (s34 _ _ hqb)
          have th : Three (us.map Prod.fst) (fun i => wW us n i) H5 R (fun i => match i with | 0 => q0 | 1 => q1 | _ => q2) := ⟨hR5, fun i hi => match i, hi with
            | 0, _ => at5 C0'.symm wt.h0
            | 1, _ => at5 C1'.symm wt.h1
            | 2, _ => at5 C2'.symm wt.h2⟩
          refine ⟨_, rfl, _, rfl, _, rfl, q, R, _, n, t, us, rfl, hq5, o, pts, n2, nt, th, fun H6 s6 => ⟨_, rfl, iteF ?_⟩⟩
          have hR6 := s6 _ _ hR5
          have h06 := s6 _ _ (at5 C0'.symm wt.h0)
          refine ⟨_, rfl, R, _, 0, .ref q0, rfl, rfl, SqL.of hR6, atI_nat (j := 0) rfl, .inr (.inr (.inl ⟨rfl, .inl ⟨_, h06⟩⟩)), q0, _, rfl, rfl, h06, ?_⟩
          have hR7 : (upd H6 q0 (.dK [])) R = some (.lst [.ref q0, .ref q1, .ref q2]) := by rw [upd_ne R0]; exact hR6
          refine ⟨_, rfl, .inl ⟨rfl, _, SqL.of hR7⟩, R, _, rfl, rfl, hR7, ?_⟩
          refine more (fun b u nb e => ?_) ?_
          · have e3 := s3 _ _ e
            rw [upd_ne (ne_of_none e3 wt.nR), upd_ne (ne_of_none e3 wt.n0)]
            exact s6 _ _ (at5 nb (s4 _ _ e3))
          · rw [upd_ne CR, upd_ne C0']
            exact s6 _ _ hC5
      · intro σ' H' ⟨⟨v8, v9, e⟩, kx, hC'⟩
        subst e
        exact kk H' _ _ kx (by rw [hC', etx] <;> rfl)
    · intro D σ H ⟨u0, u2, u6, u8, u9, u10, d, l, i, q, p, C0, b, n, t, ts, e, dr, bb, tb, hq, o, pts, asc, n2, n30, hC, kk⟩
      subst e
      have ot : TreeOk ts := o.perm pts.symm
      have uo : usersOk (.int n) (10 ^ 30) = true := by
        show (decide (1 ≤ n) && decide (n ≤ 10 ^ 30)) = true
        rw [decide_eq_true (by omega), decide_eq_true n30] <;> rfl
      have few := o.few
      refine ⟨_, rfl, C0, _, 0, .str (dvT ts n).shown, rfl, rfl, SqL.of hC, atI_nat (j := 0) rfl, _, rfl, C0, _, 1, .str (dvT ts n).shown, rfl, rfl, SqL.of hC, atI_nat (j := 1) rfl, rfl, _, rfl, ?_⟩
      rw [decide_eq_true (show V.str (dvT ts n).shown = V.str (dvT ts n).shown from rfl)]
      refine iteF ?_
      -- turned about
      have sM : ∀ {Hx : Hp} {x dx : Addr}, Hx x = none → Hx dx = none → Same Hx (upd (upd Hx dx (.own x)) x (.ins CF dx [])) := fun nx ndx b u e => by
        rw [upd_ne (ne_of_none e nx), upd_ne (ne_of_none e ndx)]
        exact e
      refine ⟨_, rfl, q, t, rfl, hq, o.nd, by omega, fun pf H1 s1 npf hpf => ?_⟩
      have orv : TreeOk t.reverse := o.perm (List.reverse_perm t).symm
      refine fun x dx nx ndx nxd => ?_
      refine ⟨x, pf, dx, t.reverse, rfl, upd_same, sM nx ndx _ _ hpf, orv, fun H2 us pus ascu fx2 oth2 => ⟨rfl, ?_⟩⟩
      have s12 : Same H1 H2 := fun b u e => oth2 b u (ne_of_none e nx) (sM nx ndx _ _ e)
      have eus : us = ts := ascOne (orv.perm pus.symm) ((pus.trans (List.reverse_perm t)).trans pts.symm) ascu asc
      subst eus
      refine ⟨_, rfl, ?_⟩
      have told_ofK : ∀ {H : Hp} {x : Addr} {n : Int} {Q : VK} {E : XK}, FAt CF H x us → usersOk (.int n) (10 ^ 30) = true → (∀ v d H', Same H H' → Told us n H' v d → Q v H') → spWit K CF CU [.ref x, .int n] H Q E := fun {H x n Q E} fa uo k => by
        refine ⟨x, us, .int n, rfl, fa, ot, ⟨_, .int _⟩, ?_⟩
        rw [if_pos uo]
        by_cases e : memC us (.int n) = true
        · rw [if_pos e]
          exact fun H' s => k _ _ H' s (.none e)
        · rw [if_neg e]
          exact ⟨n, rfl, fun R q0 q1 q2 H' s w => k _ _ H' s (.some (Bool.eq_false_iff.mpr e) w.hR w.h0 w.h1 w.h2)⟩
      simp only [tNil, List.append_nil]
      refine told_ofK fx2 uo fun v2 dv2 H3 s3 td2 => ?_
      obtain rfl := td2.eq
      obtain ⟨r1, r2, r3, r4⟩ := td2.reprK (K := K) ot (by omega) n30
      refine ⟨_, _, rfl, r1, r2, r3, r4, ?_⟩
      have s03 := (s1.trans s12).trans s3
      refine ⟨_, rfl, C0, _, 0, .str (dvT us n).shown, rfl, rfl, SqL.of (s03 _ _ hC), atI_nat (j := 0) rfl, rfl, _, rfl, ?_⟩
      rw [decide_eq_true (show V.str (dvT us n).shown = V.str (dvT us n).shown from rfl)]
      refine iteF ?_
      have dr3 := dr.mono s03
      have tb3 := tb.ext s03
      have hq3 := s03 _ _ hq
      -- users that are refused
      refine ⟨_, rfl, 1, rfl, _, _, rfl, rfl, ⟨by decide, by decide, by decide⟩, _, _, rfl, rfl, by show 1 ≤ sizeLine; omega, fun p1 np1 => fun pd npd => ⟨by show 8 ≤ sizeLine; omega, fun pl npl => ?_⟩⟩
      have s4 := same_new (o := .lst [.int 1]) np1
      have s4' := same_new (o := .dK []) npd
      obtain ⟨xs, exs⟩ : ∃ xs : List V, xs = [.int 0, .int (-1), .int (10 ^ (30 : Int).toNat + 1), .non, .bl true, .str "1", .ref p1, .ref pd] := ⟨_, rfl⟩
      have s5 : Same (upd (upd H3 p1 (.lst [.int 1])) pd (.dK [])) (upd (upd (upd H3 p1 (.lst [.int 1])) pd (.dK [])) pl (.lst xs)) := same_new npl
      obtain ⟨H5, e5⟩ : ∃ X, X = upd (upd (upd H3 p1 (.lst [.int 1])) pd (.dK [])) pl (.lst xs) := ⟨_, rfl⟩
      have s35 : Same H3 H5 := e5 ▸ (s4.trans s4').trans s5
      have h1 : H5 p1 = some (.lst [.int 1]) := by rw [e5]; exact s5 _ _ (s4' _ _ upd_same)
      have hd5 : H5 pd = some (.dK []) := by rw [e5]; exact s5 _ _ upd_same
      have hl5 : H5 pl = some (.lst xs) := by rw [e5]; exact upd_same
      have dr5 := dr3.mono s35
      have pld := (dr3.mono (s4.trans s4')).apart npl
      have p1d := dr3.apart np1
      have pdd := (dr3.mono s4).apart npd
      subst exs
      rw [← e5]
      clear e5
      refine ⟨d, l, i, pl, _, _, rfl, dr5, by omega, hl5, pld.2.1, List.cons_ne_nil _ _, (by show 8 ≤ 1000; omega), fun xv H6 xm dr6 k6 => ?_⟩
      have h16 := kx_at k6 h1 p1d.1 p1d.2.1
      have hd6 := kx_at k6 hd5 pdd.1 pdd.2.1
      have qd5 := dr5.off_prs (s35 _ _ hq3)
      have hq6 : H6 q = some (.dK (prs t)) := kx_at k6 (s35 _ _ hq3) qd5.1 qd5.2.1
      have tb6 : Tabs T H6 := Tabs.kx k6 (fun c hc => by
        have z := dr5.solid
        simp only [List.mem_cons, List.not_mem_nil, or_false] at hc
        rcases hc with rfl | rfl
        · exact z.1
        · exact z.2.1) (tb3.ext s35)
      have xo : usersOk xv (10 ^ 30) = false ∧ ∃ TT, Dat K H6 xv TT := by
        simp only [List.mem_cons, List.not_mem_nil, or_false] at xm
        rcases xm with rfl | rfl | rfl | rfl | rfl | rfl | rfl | rfl
        · exact ⟨by decide, _, .int _⟩
        · exact ⟨by decide, _, .int _⟩
        · exact ⟨by decide +kernel, _, .int _⟩
        · exact ⟨rfl, _, .non⟩
        · exact ⟨rfl, _, .bl _⟩
        · exact ⟨rfl, _, .str _⟩
        · exact ⟨rfl, _, .lst h16⟩
        · exact ⟨rfl, _, .dct hd6⟩
      obtain ⟨uo', TT, dx⟩ := xo
      clear xm h16 hd6 h1 hl5 hd5
      have shp : SeqAt.shaped (.tuple [.str "users", .none]) = true := by decide +kernel
      refine ⟨tb6, fun H7 e7 t7 H8 s8 => ?_⟩
      have dr8 := (dr6.ext e7).mono s8
      have tb8 := t7.ext s8
      have hq8 := s8 _ _ (e7 _ _ hq6 (by intro _ z; cases z))
      have dx8 : IsDat K H8 xv := ⟨TT, (IsDat.ext e7 dx).mono s8⟩
      refine ⟨_, rfl, fun x dx' nx ndx nxd => ?_⟩
      refine ⟨x, q, dx', t, rfl, upd_same, sM nx ndx _ _ hq8, o, fun H9 us2 pus2 ascu2 fx9 oth9 => ⟨rfl, ?_⟩⟩
      have s89 : Same H8 H9 := fun b u e => oth9 b u (ne_of_none e nx) (sM nx ndx _ _ e)
      have ot2 : TreeOk us2 := o.perm pus2.symm
      refine ⟨_, rfl, x, us2, xv, rfl, fx9, ot2, dx8.mono s89, ?_⟩
      rw [if_neg (by rw [uo']; decide)]
      intro H10 s10
      refine ⟨2, .non, by decide, by rw [eU], ⟨rfl, .inl rfl⟩, fun r H11 s11 nr hr11 => ?_⟩
      have s811 := (s89.trans s10).trans s11
      refine ⟨by show 2 ≤ sizeLine; omega, fun tp ntp => ?_⟩
      have st := same_new (o := .tup [.str "users", .non]) ntp
      refine ⟨.tuple [.str "users", .none], .tuple [.str "users", .none], pairW (st _ _ hr11), pairW upd_same, shp, shp, _, rfl, ?_⟩
      rw [show (!PyData.eqv (.tuple [.str "users", .none]) (.tuple [.str "users", .none])) = false by decide +kernel]
      refine iteF ?_
      have s812 := s811.trans st
      -- one user
      refine ⟨_, rfl, fun x3 dx3 nx3 ndx3 nxd3 => ?_⟩
      refine ⟨x3, q, dx3, t, rfl, upd_same, sM nx3 ndx3 _ _ (s812 _ _ hq8), o, fun H13 us3 pus3 ascu3 fx13 oth13 => ⟨rfl, ?_⟩⟩
      have s13 : Same _ H13 := fun b u e => oth13 b u (ne_of_none e nx3) (sM nx3 ndx3 _ _ e)
      have eus3 : us3 = us := ascOne (o.perm pus3.symm) (pus3.trans pts.symm) ascu3 asc
      subst eus3
      simp only [tCons, tC, tNil, List.append_nil]
      refine told_ofK fx13 (show usersOk (.int (1 : Int)) (10 ^ 30) = true from by decide +kernel) fun v dv H14 s14 td => ?_
      have ev : v = .non := by
        have em : memC us3 (.int 1) = true := by
          unfold memC
          rw [decide_eq_true rfl, Bool.true_or]
        cases td with
        | none e => rfl
        | some e => rw [em] at e; cases e
      subst ev
      refine ⟨trivial, _, rfl, ?_⟩
      rw [decide_eq_true (show V.non = V.non from rfl)]
      refine iteF ?_
      have sE := (s812.trans s13).trans s14
      exact kk _ _ ((dr8.mono sE).more (by omega)) (tb8.ext sE)
    · refine ⟨_, rfl, a, ns, rfl, hS, hlen, fun H0 d l i s0 nd0 nl0 ni0 dr0 => ?_⟩
      refine ⟨_, rfl, a, _, rfl, .inl (Same.sql s0 hS), _, _, rfl, _, _, rfl, rfl, ?_⟩
      obtain ⟨m, em⟩ : ∃ m : Int, m = 2 + (if (4 : Int) < ((ns.map V.int).length : Int) then 4 else ((ns.map V.int).length : Int)) := ⟨_, rfl⟩
      have lm : 0 ≤ m ∧ m ≤ 6 := by
        rw [List.length_map] at em
        subst em
        split <;> constructor <;> omega
      refine ⟨m, by rw [em] <;> rfl, by omega, by omega, ?_⟩
      refine for_it (walk_range (lo := 0) (n := m.toNat)) (fun j σ' H' => (∃ u2 u3 u4 u5 u6 u7 u8 u9 u10, σ' = [some (.ref a), some (.ref d), u2, u3, u4, u5, u6, u7, u8, u9, u10, none]) ∧ DrawB H' d l i (1000 * (j : Int)) ∧ Tabs T H') ⟨⟨_, _, _, _, _, _, _, _, _, rfl⟩, dr0.more (by omega), tT.ext s0⟩ (fun _ _ _ _ _ => trivial) ?_ (fun σ' H' _ => k H')
      intro jj xj σ' Ha Hb hj ⟨⟨u2, u3, u4, u5, u6, u7, u8, u9, u10, e⟩, dr, tb⟩ ⟨e1, e2⟩
      subst e
      subst e1
      subst e2
      obtain ⟨b0, eb0⟩ : ∃ b0 : Int, b0 = 1000 * (jj : Int) := ⟨_, rfl⟩
      rw [← eb0] at dr
      have bb : b0 + 1000 ≤ 10 ^ 12 - 1000 := by omega
      have dlS : ∀ {Hx : Hp} {bx : Int}, DrawB Hx d l i bx → ∀ b ∈ [d, l], Solid Hx b := fun {Hx bx} w b hb => by
        have z := w.solid
        simp only [List.mem_cons, List.not_mem_nil, or_false] at hb
        rcases hb with rfl | rfl
        · exact z.1
        · exact z.2.1
      refine ⟨_, rfl, d, l, i, _, 12, rfl, by decide, by decide, dr, by omega, fun q t H1 o ah nq hq dr1 k1 => ?_⟩
      have few := o.few
      have tb1 := Tabs.kx k1 (dlS dr) tb
      refine ⟨_, rfl, _, rfl, _, _, rfl, rfl, ⟨by decide, by decide, by decide⟩, _, _, rfl, rfl, by show 6 ≤ sizeLine; omega, fun pl npl => ?_⟩
      have s2 := same_new (o := .lst [.int 1, .int 2, .int 7, .int 7, .int 59, .int (10 ^ (30 : Int).toNat - 1)]) npl
      have pld := dr1.apart npl
      refine ⟨d, l, i, pl, _, _, rfl, dr1.mono s2, by omega, upd_same, pld.2.1, List.cons_ne_nil _ _, (by show 6 ≤ 1000; omega), fun fv H3 fm dr3 k3 => ?_⟩
      obtain ⟨mo, rfl, mo1, mo2⟩ : ∃ mo : Int, fv = .int mo ∧ 0 < mo ∧ mo ≤ 10 ^ 30 - 1 := by
        simp only [List.mem_cons, List.not_mem_nil, or_false] at fm
        rcases fm with rfl | rfl | rfl | rfl | rfl | rfl
        · exact ⟨_, rfl, by decide, by decide⟩
        · exact ⟨_, rfl, by decide, by decide⟩
        · exact ⟨_, rfl, by decide, by decide⟩
        · exact ⟨_, rfl, by decide, by decide⟩
        · exact ⟨_, rfl, by decide, by decide⟩
        · exact ⟨_, rfl, by decide +kernel, by decide +kernel⟩
      have mo200 : mo.natAbs < 2 ^ 200 := by
        have z : (10 : Int) ^ 30 - 1 < 2 ^ 200 := by decide +kernel
        have z2 : mo < 2 ^ 200 := Int.lt_of_le_of_lt mo2 z
        omega
      refine ⟨d, l, i, _, mo, rfl, dr3, by omega, by omega, mo200, fun c H4 c0 c1 dr4 k4 => ?_⟩
      refine ⟨_, _, rfl, rfl, ?_⟩
      obtain ⟨n, en⟩ : ∃ n : Int, n = 2 + c := ⟨_, rfl⟩
      have qd1 := dr1.off_prs hq
      have hq4 : H4 q = some (.dK (prs t)) := kx_at k4 (kx_at k3 (s2 _ _ hq) qd1.1 qd1.2.1) qd1.1 qd1.2.1
      have tb4 : Tabs T H4 := Tabs.kx k4 (dlS dr3) (Tabs.kx k3 (dlS (dr1.mono s2)) (tb1.ext s2))
      refine ⟨_, rfl, .inr (.inr (.inl ⟨rfl, .inl ⟨_, hq4⟩⟩)), q, _, rfl, rfl, hq4, fun v nv => ?_⟩
      have tv := same_new (o := VwO v q) nv
      refine ⟨v, q, _, rfl, upd_same, tv _ _ hq4, fun p np => ?_⟩
      rw [show ((prs t).map fun x => x.2) = (t.map Prod.snd).map V.str by unfold prs kvT; rw [List.map_map, List.map_map, List.map_map] <;> rfl]
      have tp := same_new (o := .lst ((t.map Prod.snd).map V.str)) np
      obtain ⟨H5, e5⟩ : ∃ X, X = upd (upd H4 v (VwO v q)) p (.lst ((t.map Prod.snd).map V.str)) := ⟨_, rfl⟩
      have s45 : Same H4 H5 := e5 ▸ tv.trans tp
      have hp : H5 p = some (.lst ((t.map Prod.snd).map V.str)) := by rw [e5, upd_same]
      rw [← e5]
      clear e5
      refine ⟨_, _, _, _, _, _, _, _, _, _, q, p, t, rfl, s45 _ _ hq4, hp, few, fun H6 s6 => ?_⟩
      refine ⟨by show 0 ≤ sizeLine; omega, fun C1 nC => ?_⟩
      have s7 := same_new (o := .lst ([] : List V)) nC
      have s47 := (s45.trans s6).trans s7
      obtain ⟨ts, pts, asc⟩ := asc_ex t
      refine ⟨_, _, _, _, _, _, q, p, C1, n, t, ts, by rw [en] <;> rfl, s47 _ _ hq4, o, pts, asc, by omega, by omega, upd_same, fun H8 u8' u9' kx hC8 => ?_⟩
      have s48 : Same H4 H8 := fun b u e => kx b u (ne_of_none ((s45.trans s6) _ _ e) nC) (s47 _ _ e)
      refine ⟨_, _, _, _, _, _, d, l, i, q, p, C1, _, n, t, ts, rfl, dr4.mono s48, by omega, tb4.ext s48, s48 _ _ hq4, o, pts, asc, by omega, by omega, hC8, fun H9 u10' dr9 tb9 => ?_⟩
      exact ⟨⟨_, _, _, _, _, _, _, _, _, rfl⟩, dr9.more (by omega), tb9⟩
end
end FT


/-! Own: C.m(..) where m is a staticmethod of the class. -/
namespace L2
open PySem PySem.Spec PyProof.Rows
/-- C.m is a staticmethod: its record at p, its def at f -/
structure SMet (K : PySem.W.Frag) (C : Addr) (mc : Value) (m : Str) (p f : Addr) : Prop where
  at_ : PySem.W.findCls K (.ref C) mc m = some (.get (.builtin "staticmethod.__get__") (.ref p) .none (.ref C))
  rc : ∃ rest, PySem.W.recIn K p "staticmethod" = some (.ref f :: rest)
def tSMeth (C : Addr) (sp : Sp) (dvs : List V) (E : XK) (ta : TE) (t : TA) : TE := fun σ H Q => ta σ H fun x H1 => x = .ref C ∧ t σ H1 fun vs H2 => sp (vs ++ dvs) H2 Q E
section
variable {X : Cx} {CX : CXT} {k : Nat} {C p f : Addr} {mc : Value} {fd : FuncData} {ps : List Str} {sp : Sp} {dvs : List V} {ds : List Value} {E : XK} {o e : Expr} {es : List Expr} {m : Str} {pos apos : Pos} {ta : TE} {t : TA} {pl : Sem Bool}
end
end L2


/-! what the module's top says of classes, of defs: the form that the row's end asks for. -/
namespace FT
open PySem L2 TL ClX
abbrev exTail : List Value := [.type "ValueError", .type "Exception", .type "BaseException", .type "object"]
/-- an own class at C, its chain behind it -/
def ClsAt (K : PySem.W.Frag) (C : Addr) (bm : List Value) : Prop := ∃ nm q N bs sn sub ab col dd k0 k1 k2 k3 k5, K.lookup C = some (excClassObj nm q C N bs bm true sn sub ab col dd k0 k1 k2 k3 k5 "ValueError.__new__")
section
variable {K : PySem.W.Frag} {C : Addr} {bm : List Value}
theorem ClsAt.cls (h : ClsAt K C bm) : ∃ cd : ClassData, PySem.W.clsIn K C = some cd ∧ cd.mro = .ref C :: bm ∧ cd.hasDict = true := by
  obtain ⟨nm, q, N, bs, sn, sub, ab, col, dd, k0, k1, k2, k3, k5, e⟩ := h
  refine ⟨{ name := nm, bases := bs, mro := .ref C :: bm, ns := N, qualname := q, hasDict := true, slotNames := sn, subclasses := sub, abstract := ab, collection := col }, ?_, rfl, rfl⟩
  unfold PySem.W.clsIn
  rw [e]
theorem ClsAt.ty (h : ClsAt K C bm) : PySem.W.typeIn K (.ref C) = some (.type "type") := by
  obtain ⟨nm, q, N, bs, sn, sub, ab, col, dd, k0, k1, k2, k3, k5, e⟩ := h
  show (K.lookup C).map (·.cls) = _
  rw [e] <;> rfl
theorem ClsAt.mroIs (h : ClsAt K C bm) (b : Value) : PySem.W.mroIn K C b = some ((Value.ref C :: bm).contains b) := by
  obtain ⟨cd, e1, e2, _⟩ := h.cls
  unfold PySem.W.mroIn
  rw [e1]
  show (if cd.mro.isEmpty then none else some (cd.mro.contains b)) = _
  rw [e2] <;> rfl
theorem ClsAt.sub (h : ClsAt K C bm) (b : Value) : PySem.W.subIn K (.ref C) b = some ((Value.ref C :: bm).contains b) := h.mroIs b
theorem ClsAt.hd (h : ClsAt K C bm) : PySem.W.hasDictIn K C = true := by
  obtain ⟨cd, e1, _, e3⟩ := h.cls
  show (PySem.W.clsIn K C).any (·.hasDict) = true
  rw [e1]
  exact e3
theorem ClsAt.isC (h : ClsAt K C bm) : (PySem.W.clsIn K C).isSome = true := by
  obtain ⟨cd, e1, _⟩ := h.cls
  rw [e1] <;> rfl
/-- isinstance of the class at C against the class at D -/
theorem ClsAt.kit {D : Addr} {bn : List Value} (h : ClsAt K C bm) (g : ClsAt K D bn) : PySem.W.kitOne K (.ref C) (.ref D) = some ((Value.ref C :: bm).contains (.ref D)) := by
  unfold PySem.W.kitOne
  by_cases e : (Value.ref C == Value.ref D) = true
  · rw [if_pos e, beq_iff_eq.mp e, List.contains_cons, beq_self_eq_true] <;> rfl
  · rw [if_neg e]
    have e2 : ((PySem.W.clsIn K D).isSome && PySem.W.typeIn K (.ref D) == some (.type "type")) = true := by rw [g.isC, g.ty] <;> rfl
    show (if _ then PySem.W.subIn K (.ref C) (.ref D) else none) = _
    rw [if_pos e2, h.sub]
theorem ClsAt.exm {D : Addr} {bn : List Value} (h : ClsAt K C bm) (g : ClsAt K D bn) (eD : (Value.ref D :: bn).contains (.type "BaseException") = true) : PySem.W.exmOne K (.ref C) (.ref D) = some ((Value.ref C :: bm).contains (.ref D)) :=
  PySem.W.exm_ref (by rw [g.sub, eD]) g.hd g.ty (h.sub _)
end
/-- what the top says of one error class -/
structure ClsF (K : PySem.W.Frag) (nm f : Str) (C I R : Addr) : Prop where
  nsn : PySem.W.nsIn K mainGlobals nm = some (some (.ref C))
  at_ : ClsAt K C (.ref R :: exTail)
  sa : PySem.W.findIn K (.ref C) "__setattr__" = some (some (.builtin "object.__setattr__"))
  ga : PySem.W.findIn K (.ref C) "__getattribute__" = some (some (.builtin "BaseException.__getattribute__"))
  gg : PySem.W.findIn K (.ref C) "__getattr__" = some none
  ha : PySem.W.findIn K (.ref C) "__class__" = some (some (.builtin "object.__class__"))
  kC : PySem.W.keepIn K (.ref C) = true
  no : PySem.W.findIn K (.ref C) f = some none
  ini : PySem.W.findIn K (.ref C) "__init__" = some (some (.ref I))
  ity : PySem.W.typeIn K (.ref I) = some (.type "function")
/-- and of what they share -/
structure RootF (K : PySem.W.Frag) (R : Addr) : Prop where
  nsn : PySem.W.nsIn K mainGlobals "RolloutError" = some (some (.ref R))
  at_ : ClsAt K R exTail
  rd : PySem.W.readsIn K R (.type "type") = true
  ga : PySem.W.specialIn K (.ref R) "__getattribute__" = some (some (.builtin "type.__getattribute__"))
  ini : PySem.W.findCls K (.ref R) (.type "type") "__init__" = some (.val (.builtin "ValueError.__init__"))
  hn : PySem.W.specialIn K (.builtin "object.__class__") "__get__" = some (some (.builtin "getset_descriptor.__get__"))
  ht : PySem.W.takesIn K (.builtin "object.__class__") = some true
theorem ClsF.x {K : PySem.W.Frag} {nm f : Str} {C I R : Addr} (c : ClsF K nm f C I R) (r : RootF K R) : XCls K C where
  cls := by
    obtain ⟨nm, q, N, bs, sn, sub, ab, col, dd, k0, k1, k2, k3, k5, e⟩ := c.at_
    exact ⟨nm, q, N, bs, _, sn, sub, ab, col, dd, k0, k1, k2, k3, k5, e, rfl⟩
  sa := c.sa
  exC := by rw [c.at_.sub] <;> rfl
  tyC := c.at_.ty
  kC := c.kC
  ga := c.ga
  gg := c.gg
  hdC := c.at_.hd
  ha := c.ha
  hn := r.hn
  ht := r.ht
  hm := by rw [c.at_.mroIs] <;> rfl
theorem has_cls {C R D : Addr} {b : Bool} (h : decide (C = D) = b) (n : R ≠ D) : (Value.ref C :: Value.ref R :: exTail).contains (.ref D) = b := by
  subst h
  by_cases e : C = D
  · subst e
    rw [List.contains_cons, beq_self_eq_true, decide_eq_true rfl] <;> rfl
  · have e1 : (Value.ref D == Value.ref C) = false := beq_eq_false_iff_ne.mpr fun z => e (Value.ref.inj z).symm
    have e2 : (Value.ref D == Value.ref R) = false := beq_eq_false_iff_ne.mpr fun z => n (Value.ref.inj z).symm
    rw [decide_eq_false e, List.contains_cons, e1, List.contains_cons, e2] <;> rfl
theorem has_root {C R : Addr} : (Value.ref C :: Value.ref R :: exTail).contains (.ref R) = true := by
  rw [List.contains_cons, List.contains_cons, beq_self_eq_true, Bool.true_or, Bool.or_true]
theorem kit_bt {K : PySem.W.Frag} {C R : Addr} (c : ClsAt K C (.ref R :: exTail)) : PySem.W.kitOne K (.ref C) (.type "ValueError") = some true := by
  unfold PySem.W.kitOne
  rw [if_neg (show ¬ (Value.ref C == Value.type "ValueError") = true from fun z => nomatch (show false = true from z))]
  have e2 : PySem.W.kitMeta "ValueError" = true := by decide +kernel
  show (if PySem.W.kitMeta "ValueError" = true then PySem.W.subIn K (.ref C) (.type "ValueError") else none) = _
  rw [if_pos e2, c.sub] <;> rfl
/-- what the top says of a class with a constant MOST -/
structure ClsK (K : PySem.W.Frag) (nm : Str) (C : Addr) (n : Int) (t : Nat) : Prop where
  nsn : PySem.W.nsIn K mainGlobals nm = some (some (.ref C))
  rd : PySem.W.readsIn K C (.type "type") = true
  ga : PySem.W.specialIn K (.ref C) "__getattribute__" = some (some (.builtin "type.__getattribute__"))
  most : PySem.W.findCls K (.ref C) (.type "type") "MOST" = some (.val (.int n t))
  pg : PySem.W.plainGet K C Str.empty = true
  hd : PySem.W.hasDictIn K C = true
  po : PySem.W.plainOver K C = true
  sa : PySem.W.findIn K (.ref C) "__setattr__" = some (some (.builtin "object.__setattr__"))
  mks : PySem.W.makesIn K C = true
  kp : PySem.W.keepIn K (.ref C) = true
  ha : PySem.W.findIn K (.ref C) "__class__" = some (some (.builtin "object.__class__"))
  hn : PySem.W.specialIn K (.builtin "object.__class__") "__get__" = some (some (.builtin "getset_descriptor.__get__"))
  ht : PySem.W.takesIn K (.builtin "object.__class__") = some true
  hm : PySem.W.mroIn K C (.type "object") = some true
/-- a method -/
structure MetK (K : PySem.W.Frag) (C : Addr) (m : Str) (f : Addr) : Prop where
  at_ : PySem.W.findIn K (.ref C) m = some (some (.ref f))
  fn : PySem.W.isFn K (.ref f) = true
/-- a property -/
structure PrK (K : PySem.W.Frag) (C : Addr) (m : Str) (p g : Addr) (rest : List Value) : Prop where
  at_ : PySem.W.findIn K (.ref C) m = some (some (.ref p))
  get : PySem.W.specialIn K (.ref p) "__get__" = some (some (.builtin "property.__get__"))
  tak : PySem.W.takesIn K (.ref p) = some true
  rec_ : PySem.W.recIn K p "property" = some (.ref g :: rest)
theorem ClsF.er {K : PySem.W.Frag} {h : Heap} {mg : Str → Option Value} {nm f : Str} {C I R : Addr} (X : K.In h) (G : h.Ns mainGlobals mg) (c : ClsF K nm f C I R) (r : RootF K R) : Er K mg nm f C I :=
  ⟨PySem.W.mg_of X G c.nsn, c.x r, c.ini, c.ity, c.no⟩
theorem RootF.rt {K : PySem.W.Frag} {h : Heap} {mg : Str → Option Value} {R : Addr} (X : K.In h) (G : h.Ns mainGlobals mg) (r : RootF K R) : Rt K mg R := ⟨PySem.W.mg_of X G r.nsn, ⟨r.rd, r.ga, r.ini⟩⟩
theorem ClsK.fc {K : PySem.W.Frag} {h : Heap} {mg : Str → Option Value} {CF : Addr} {t t2 : Nat} (X : K.In h) (G : h.Ns mainGlobals mg) (k : ClsK K "Forest" CF 12 t) (root : PySem.W.findCls K (.ref CF) (.type "type") "ROOT" = some (.val (.str "" t2))) : Fc K mg CF (.type "type") :=
  ⟨PySem.W.mg_of X G k.nsn, ⟨k.rd, k.ga⟩, ⟨_, k.most, ⟨_, rfl⟩⟩, ⟨_, root, ⟨_, rfl⟩⟩⟩
theorem ClsK.cls {K : PySem.W.Frag} {nm : Str} {C : Addr} {n : Int} {t : Nat} (k : ClsK K nm C n t) : Cls K C := ⟨k.pg, k.hd, k.po, k.sa⟩
/-- an int that the top computes -/
theorem loose_int {p : Program} {lv : List (Str × PySem.W.WData)} {mg : Str → Option Value} {h : Heap} {nm : Str} {n : Int} (x : PySem.W.XL p lv mg h) (m : (nm, PySem.W.WData.int n) ∈ lv) : ∃ t, mg nm = some (.int n t) := by
  obtain ⟨v, e, r⟩ := x.2.val _ m
  cases r with
  | int i t => exact ⟨t, e⟩
/-- a def with its code object and the table of that -/
structure TabK (K : PySem.W.Frag) (x : Str) (c P : Addr) : Prop where
  at_ : PySem.W.tabIn K x = some (c, P)
  no : K.lookup P = none
end FT


/-! what the top says of a class without a constant, of a static method -/
namespace FT
open PySem L2 TL ClX
structure ClsN (K : PySem.W.Frag) (nm : Str) (C : Addr) : Prop where
  nsn : PySem.W.nsIn K mainGlobals nm = some (some (.ref C))
  rd : PySem.W.readsIn K C (.type "type") = true
  ga : PySem.W.specialIn K (.ref C) "__getattribute__" = some (some (.builtin "type.__getattribute__"))
  pg : PySem.W.plainGet K C Str.empty = true
  hd : PySem.W.hasDictIn K C = true
  po : PySem.W.plainOver K C = true
  sa : PySem.W.findIn K (.ref C) "__setattr__" = some (some (.builtin "object.__setattr__"))
  mks : PySem.W.makesIn K C = true
  kp : PySem.W.keepIn K (.ref C) = true
theorem ClsN.cls {K : PySem.W.Frag} {nm : Str} {C : Addr} (k : ClsN K nm C) : Cls K C := ⟨k.pg, k.hd, k.po, k.sa⟩
/-- a static method -/
structure StK (K : PySem.W.Frag) (C : Addr) (m : Str) (p f : Addr) (rest : List Value) : Prop where
  at_ : PySem.W.findCls K (.ref C) (.type "type") m = some (.get (.builtin "staticmethod.__get__") (.ref p) .none (.ref C))
  rec_ : PySem.W.recIn K p "staticmethod" = some (.ref f :: rest)
theorem StK.sm {K : PySem.W.Frag} {C p f : Addr} {m : Str} {rest : List Value} (s : StK K C m p f rest) : SMet K C (.type "type") m p f := ⟨s.at_, _, s.rec_⟩
end FT


namespace FT
open PySem PySem.Spec PyProof.Rows L2 TL ClX LamX NdefX
section
variable {q : Program} {l : PySem.W.OpenLaw} {w : World} {K : PySem.W.Frag} {h : Heap} {mg : Str → Option Value} {fa : Addr}
theorem all_mk {f_bg f_mx f_dt f_dp f_fo f_isn f_isa f_nd f_fi f_ii f_nu f_np f_kd f_fl f_tw f_me f_pi f_wit f_fit f_lft f_red f_ph f_agr f_cpl f_isw f_fdP f_re f_law p_fl C_InvalidSizes C_UnknownName C_InvalidUsers C_InvalidLists C_NeedsMemory C_InvalidLimits C_TooMany I_InvalidSizes I_UnknownName I_InvalidUsers I_InvalidLists I_NeedsMemory I_InvalidLimits I_TooMany R c_law t_law CF : Addr} {d_bg d_mx d_dt d_dp d_fo d_isn d_isa d_nd d_fi d_ii d_nu d_np d_kd d_fl d_tw d_me d_pi d_wit d_fit d_lft d_red d_ph d_agr d_cpl d_isw d_fdP d_re d_law D_InvalidSizes D_UnknownName D_InvalidUsers D_InvalidLists D_NeedsMemory D_InvalidLimits D_TooMany : FuncData} {tL tT tR tCF : Nat} {r_fl : List Value} (X : K.In h) (G : h.Ns mainGlobals mg) (hfa : mg "law" = some (.ref fa)) (TO : TabsOf q K h)
    (kCF : ClsK K "Forest" CF 12 tCF)
    (noCF_above : PySem.W.findIn K (.ref CF) "above" = some none)
    (root : PySem.W.findCls K (.ref CF) (.type "type") "ROOT" = some (.val (.str "" tR)))
    (cL : PySem.W.nsIn K mainGlobals "LONGEST" = some (some (.int 8 tL)))
    (cT : PySem.W.nsIn K mainGlobals "LETTERS" = some (some (.str letters tT)))
    (gMC : ∃ t, mg "MOST_COUNTED" = some (.int (10 ^ 30) t))
    (n_bg : PySem.W.nsIn K mainGlobals "_law_begin" = some (some (.ref f_bg)))
    (u_bg : L2.Fun K "_law_begin" "_law_begin" s__law_begin f_bg d_bg)
    (n_mx : PySem.W.nsIn K mainGlobals "_law_mixed" = some (some (.ref f_mx)))
    (u_mx : L2.Fun K "_law_mixed" "_law_mixed" s__law_mixed f_mx d_mx)
    (n_dt : PySem.W.nsIn K mainGlobals "_law_take" = some (some (.ref f_dt)))
    (u_dt : L2.Fun K "_law_take" "_law_take" s__law_take f_dt d_dt)
    (n_dp : PySem.W.nsIn K mainGlobals "_law_pick" = some (some (.ref f_dp)))
    (u_dp : L2.Fun K "_law_pick" "_law_pick" s__law_pick f_dp d_dp)
    (n_fo : PySem.W.nsIn K mainGlobals "_law_forest" = some (some (.ref f_fo)))
    (u_fo : L2.Fun K "_law_forest" "_law_forest" s__law_forest f_fo d_fo)
    (n_isn : PySem.W.nsIn K mainGlobals "is_name" = some (some (.ref f_isn)))
    (u_isn : L2.Fun K "is_name" "is_name" s_is_name f_isn d_isn)
    (n_isa : PySem.W.nsIn K mainGlobals "is_ancestor" = some (some (.ref f_isa)))
    (u_isa : L2.Fun K "is_ancestor" "is_ancestor" s_is_ancestor f_isa d_isa)
    (n_nd : PySem.W.nsIn K mainGlobals "need_parents" = some (some (.ref f_nd)))
    (u_nd : L2.Fun K "need_parents" "need_parents" s_need_parents f_nd d_nd)
    (n_ii : PySem.W.nsIn K mainGlobals "is_integer" = some (some (.ref f_ii)))
    (u_ii : L2.Fun K "is_integer" "is_integer" s_is_integer f_ii d_ii)
    (n_nu : PySem.W.nsIn K mainGlobals "need_users" = some (some (.ref f_nu)))
    (u_nu : L2.Fun K "need_users" "need_users" s_need_users f_nu d_nu)
    (n_np : PySem.W.nsIn K mainGlobals "need_place" = some (some (.ref f_np)))
    (u_np : L2.Fun K "need_place" "need_place" s_need_place f_np d_np)
    (n_tw : PySem.W.nsIn K mainGlobals "has_two_chains" = some (some (.ref f_tw)))
    (u_tw : L2.Fun K "has_two_chains" "has_two_chains" s_has_two_chains f_tw d_tw)
    (n_me : PySem.W.nsIn K mainGlobals "is_memoryless" = some (some (.ref f_me)))
    (u_me : L2.Fun K "is_memoryless" "is_memoryless" s_is_memoryless f_me d_me)
    (n_pi : PySem.W.nsIn K mainGlobals "path_in" = some (some (.ref f_pi)))
    (u_pi : L2.Fun K "path_in" "path_in" s_path_in f_pi d_pi)
    (n_wit : PySem.W.nsIn K mainGlobals "witness" = some (some (.ref f_wit)))
    (u_wit : L2.Fun K "witness" "witness" s_witness f_wit d_wit)
    (n_fit : PySem.W.nsIn K mainGlobals "_law_fits" = some (some (.ref f_fit)))
    (u_fit : L2.Fun K "_law_fits" "_law_fits" s__law_fits f_fit d_fit)
    (n_lft : PySem.W.nsIn K mainGlobals "_law_left" = some (some (.ref f_lft)))
    (u_lft : L2.Fun K "_law_left" "_law_left" s__law_left f_lft d_lft)
    (n_red : PySem.W.nsIn K mainGlobals "_law_reduced" = some (some (.ref f_red)))
    (u_red : L2.Fun K "_law_reduced" "_law_reduced" s__law_reduced f_red d_red)
    (n_ph : PySem.W.nsIn K mainGlobals "_law_path" = some (some (.ref f_ph)))
    (u_ph : L2.Fun K "_law_path" "_law_path" s__law_path f_ph d_ph)
    (n_agr : PySem.W.nsIn K mainGlobals "_law_agree" = some (some (.ref f_agr)))
    (u_agr : L2.Fun K "_law_agree" "_law_agree" s__law_agree f_agr d_agr)
    (n_cpl : PySem.W.nsIn K mainGlobals "_law_can_place" = some (some (.ref f_cpl)))
    (u_cpl : L2.Fun K "_law_can_place" "_law_can_place" s__law_can_place f_cpl d_cpl)
    (n_isw : PySem.W.nsIn K mainGlobals "_law_is_witness" = some (some (.ref f_isw)))
    (u_isw : L2.Fun K "_law_is_witness" "_law_is_witness" s__law_is_witness f_isw d_isw)
    (n_fdP : PySem.W.nsIn K mainGlobals "_law_flipped" = some (some (.ref f_fdP)))
    (u_fdP : L2.Fun K "_law_flipped" "_law_flipped" s__law_flipped f_fdP d_fdP)
    (n_re : PySem.W.nsIn K mainGlobals "_law_result" = some (some (.ref f_re)))
    (u_re : L2.Fun K "_law_result" "_law_result" s__law_result f_re d_re)
    (n_law : PySem.W.nsIn K mainGlobals "law" = some (some (.ref f_law)))
    (u_law : FunC K "law" "law" s_law f_law d_law c_law)
    (t1_law : PySem.W.tabIn K "law" = some (c_law, t_law))
    (t2_law : K.lookup t_law = none)
    (t3_law : ((recsOf q).find? (fun e => e.name == ("law" : Str))).isSome = true)
    (m_fi : MetK K CF "__init__" f_fi)
    (m_kd : MetK K CF "children" f_kd)
    (m_fl : PrK K CF "flags" p_fl f_fl r_fl)
    (u_fi : L2.Fun K "__init__" "Forest.__init__" s_Forest___init__ f_fi d_fi)
    (u_kd : L2.Fun K "children" "Forest.children" s_Forest_children f_kd d_kd)
    (u_fl : L2.Fun K "flags" "Forest.flags" s_Forest_flags f_fl d_fl)
    (rt0 : RootF K R)
    (e_InvalidSizes : ClsF K "InvalidSizes" "place" C_InvalidSizes I_InvalidSizes R)
    (i_InvalidSizes : L2.Fun K "__init__" "InvalidSizes.__init__" s_InvalidSizes___init__ I_InvalidSizes D_InvalidSizes)
    (e_UnknownName : ClsF K "UnknownName" "name" C_UnknownName I_UnknownName R)
    (i_UnknownName : L2.Fun K "__init__" "UnknownName.__init__" s_UnknownName___init__ I_UnknownName D_UnknownName)
    (e_InvalidUsers : ClsF K "InvalidUsers" "" C_InvalidUsers I_InvalidUsers R)
    (i_InvalidUsers : L2.Fun K "__init__" "InvalidUsers.__init__" s_InvalidUsers___init__ I_InvalidUsers D_InvalidUsers)
    (e_InvalidLists : ClsF K "InvalidLists" "" C_InvalidLists I_InvalidLists R)
    (i_InvalidLists : L2.Fun K "__init__" "InvalidLists.__init__" s_InvalidLists___init__ I_InvalidLists D_InvalidLists)
    (e_NeedsMemory : ClsF K "NeedsMemory" "" C_NeedsMemory I_NeedsMemory R)
    (i_NeedsMemory : L2.Fun K "__init__" "NeedsMemory.__init__" s_NeedsMemory___init__ I_NeedsMemory D_NeedsMemory)
    (e_InvalidLimits : ClsF K "InvalidLimits" "name" C_InvalidLimits I_InvalidLimits R)
    (i_InvalidLimits : L2.Fun K "__init__" "InvalidLimits.__init__" s_InvalidLimits___init__ I_InvalidLimits D_InvalidLimits)
    (e_TooMany : ClsF K "TooMany" "most" C_TooMany I_TooMany R)
    (i_TooMany : L2.Fun K "__init__" "TooMany.__init__" s_TooMany___init__ I_TooMany D_TooMany)
    (apart : ∀ i : Fin 7, R ≠ ([C_InvalidSizes, C_UnknownName, C_InvalidUsers, C_InvalidLists, C_NeedsMemory, C_InvalidLimits, C_TooMany] : List Nat).getD i.1 0)
    (dist : ∀ i j : Fin 7, decide (([C_InvalidSizes, C_UnknownName, C_InvalidUsers, C_InvalidLists, C_NeedsMemory, C_InvalidLimits, C_TooMany] : List Nat).getD i.1 0 = ([C_InvalidSizes, C_UnknownName, C_InvalidUsers, C_InvalidLists, C_NeedsMemory, C_InvalidLimits, C_TooMany] : List Nat).getD j.1 0) = decide (i.1 = j.1))
    (z_abs : PySem.W.nsIn K mainGlobals "abs" = some none)
    (z_len : PySem.W.nsIn K mainGlobals "len" = some none)
    (z_rng : PySem.W.nsIn K mainGlobals "range" = some none)
    (z_enu : PySem.W.nsIn K mainGlobals "enumerate" = some none)
    (z_zip : PySem.W.nsIn K mainGlobals "zip" = some none)
    (z_isi : PySem.W.nsIn K mainGlobals "isinstance" = some none)
    (z_all : PySem.W.nsIn K mainGlobals "all" = some none)
    (z_srt : PySem.W.nsIn K mainGlobals "sorted" = some none)
    (z_lst : PySem.W.nsIn K mainGlobals "list" = some none)
    (z_dct : PySem.W.nsIn K mainGlobals "dict" = some none)
    (z_str : PySem.W.nsIn K mainGlobals "str" = some none)
    (z_int : PySem.W.nsIn K mainGlobals "int" = some none)
    (z_tup : PySem.W.nsIn K mainGlobals "tuple" = some none)
    (z_sum : PySem.W.nsIn K mainGlobals "sum" = some none)
    (z_min : PySem.W.nsIn K mainGlobals "min" = some none)
    (z_max : PySem.W.nsIn K mainGlobals "max" = some none)
    (z_rep : PySem.W.nsIn K mainGlobals "repr" = some none)
    (z_bool : PySem.W.nsIn K mainGlobals "bool" = some none)
    (z_any : PySem.W.nsIn K mainGlobals "any" = some none)
    (z_vE : PySem.W.nsIn K mainGlobals "ValueError" = some none)
    : LawTG l w K 14 63 "_law_script" mg fa h := by
  cases hfa.symm.trans (PySem.W.mg_of X G n_law)
  have N : Nm mg := ⟨PySem.W.mg_none_of X G z_abs, PySem.W.mg_none_of X G z_len, PySem.W.mg_none_of X G z_rng, PySem.W.mg_none_of X G z_enu, PySem.W.mg_none_of X G z_zip, PySem.W.mg_none_of X G z_isi, PySem.W.mg_none_of X G z_all, PySem.W.mg_none_of X G z_srt, PySem.W.mg_none_of X G z_lst, PySem.W.mg_none_of X G z_dct, PySem.W.mg_none_of X G z_str, PySem.W.mg_none_of X G z_int, PySem.W.mg_none_of X G z_tup, PySem.W.mg_none_of X G z_sum, PySem.W.mg_none_of X G z_min, PySem.W.mg_none_of X G z_max, PySem.W.mg_none_of X G z_rep, PySem.W.mg_none_of X G z_bool, PySem.W.mg_none_of X G z_any, PySem.W.mg_none_of X G z_vE⟩
  have Cs_ : Cs mg := ⟨⟨_, PySem.W.mg_of X G cL⟩, ⟨_, PySem.W.mg_of X G cT⟩⟩
  obtain ⟨tm, gM⟩ := gMC
  have O : FoC K CF := ⟨kCF.cls, noCF_above⟩
  have Z : Fc K mg CF (.type "type") := kCF.fc X G root
  have b_bg := u_bg.binds (ps := ["_law_script"]) fun _ _ _ _ _ _ us hl => match us, hl with | [_], _ => rfl
  have b_mx := u_mx.binds (ps := ["_law_draw"]) fun _ _ _ _ _ _ us hl => match us, hl with | [_], _ => rfl
  have b_dt := u_dt.binds (ps := ["_law_draw", "_law_size"]) fun _ _ _ _ _ _ us hl => match us, hl with | [_, _], _ => rfl
  have b_dp := u_dp.binds (ps := ["_law_draw", "_law_some"]) fun _ _ _ _ _ _ us hl => match us, hl with | [_, _], _ => rfl
  have b_fo := u_fo.binds (ps := ["_law_draw", "_law_most"]) fun _ _ _ _ _ _ us hl => match us, hl with | [_, _], _ => rfl
  have b_isn := u_isn.binds (ps := ["value"]) fun _ _ _ _ _ _ us hl => match us, hl with | [_], _ => rfl
  have b_isa := u_isa.binds (ps := ["parents", "name"]) fun _ _ _ _ _ _ us hl => match us, hl with | [_, _], _ => rfl
  have b_nd := u_nd.binds (ps := ["parents"]) fun _ _ _ _ _ _ us hl => match us, hl with | [_], _ => rfl
  have b_fi := u_fi.binds (ps := ["self", "parents"]) fun _ _ _ _ _ _ us hl => match us, hl with | [_, _], _ => rfl
  have b_ii := u_ii.binds (ps := ["value", "least"]) fun _ _ _ _ _ _ us hl => match us, hl with | [_, _], _ => rfl
  have b_nu := u_nu.binds (ps := ["users", "most"]) fun _ _ _ _ _ _ us hl => match us, hl with | [_, _], _ => rfl
  have b_np := u_np.binds (ps := ["forest", "place"]) fun _ _ _ _ _ _ us hl => match us, hl with | [_, _], _ => rfl
  have b_kd := u_kd.binds (ps := ["self", "place"]) fun _ _ _ _ _ _ us hl => match us, hl with | [_, _], _ => rfl
  have b_fl := u_fl.binds (ps := ["self"]) fun _ _ _ _ _ _ us hl => match us, hl with | [_], _ => rfl
  have b_tw := u_tw.binds (ps := ["forest"]) fun _ _ _ _ _ _ us hl => match us, hl with | [_], _ => rfl
  have b_me := u_me.binds (ps := ["forest", "users"]) fun _ _ _ _ _ _ us hl => match us, hl with | [_, _], _ => rfl
  have b_pi := u_pi.binds (ps := ["above", "place"]) fun _ _ _ _ _ _ us hl => match us, hl with | [_, _], _ => rfl
  have b_wit := u_wit.binds (ps := ["forest", "users"]) fun _ _ _ _ _ _ us hl => match us, hl with | [_, _], _ => rfl
  have b_fit := u_fit.binds (ps := ["_law_parents", "_law_folk", "_law_wide"]) fun _ _ _ _ _ _ us hl => match us, hl with | [_, _, _], _ => rfl
  have b_lft := u_lft.binds (ps := ["_law_parents", "_law_folk", "_law_wide"]) fun _ _ _ _ _ _ us hl => match us, hl with | [_, _, _], _ => rfl
  have b_red := u_red.binds (ps := ["_law_rows"]) fun _ _ _ _ _ _ us hl => match us, hl with | [_], _ => rfl
  have b_ph := u_ph.binds (ps := ["_law_parents", "_law_place"]) fun _ _ _ _ _ _ us hl => match us, hl with | [_, _], _ => rfl
  have b_agr := u_agr.binds (ps := ["_law_parents", "_law_three", "_law_places"]) fun _ _ _ _ _ _ us hl => match us, hl with | [_, _, _], _ => rfl
  have b_cpl := u_cpl.binds (ps := ["_law_parents", "_law_three", "_law_firsts", "_law_second", "_law_third", "_law_last"]) fun _ _ _ _ _ _ us hl => match us, hl with | [_, _, _, _, _, _], _ => rfl
  have b_isw := u_isw.binds (ps := ["_law_parents", "_law_folk", "_law_three"]) fun _ _ _ _ _ _ us hl => match us, hl with | [_, _, _], _ => rfl
  have b_fdP := u_fdP.binds (ps := ["_law_some"]) fun _ _ _ _ _ _ us hl => match us, hl with | [_], _ => rfl
  have b_re := u_re.binds (ps := ["_law_work"]) fun _ _ _ _ _ _ us hl => match us, hl with | [_], _ => rfl
  have g_bg := PySem.W.mg_of X G n_bg
  have g_mx := PySem.W.mg_of X G n_mx
  have g_dt := PySem.W.mg_of X G n_dt
  have g_dp := PySem.W.mg_of X G n_dp
  have g_fo := PySem.W.mg_of X G n_fo
  have g_isn := PySem.W.mg_of X G n_isn
  have g_isa := PySem.W.mg_of X G n_isa
  have g_nd := PySem.W.mg_of X G n_nd
  have g_ii := PySem.W.mg_of X G n_ii
  have g_nu := PySem.W.mg_of X G n_nu
  have g_np := PySem.W.mg_of X G n_np
  have g_tw := PySem.W.mg_of X G n_tw
  have g_me := PySem.W.mg_of X G n_me
  have g_pi := PySem.W.mg_of X G n_pi
  have g_wit := PySem.W.mg_of X G n_wit
  have g_fit := PySem.W.mg_of X G n_fit
  have g_lft := PySem.W.mg_of X G n_lft
  have g_red := PySem.W.mg_of X G n_red
  have g_ph := PySem.W.mg_of X G n_ph
  have g_agr := PySem.W.mg_of X G n_agr
  have g_cpl := PySem.W.mg_of X G n_cpl
  have g_isw := PySem.W.mg_of X G n_isw
  have g_fdP := PySem.W.mg_of X G n_fdP
  have g_re := PySem.W.mg_of X G n_re
  have rt := rt0.rt X G
  have at_ : ∀ i, i < 7 → ClsAt K (([C_InvalidSizes, C_UnknownName, C_InvalidUsers, C_InvalidLists, C_NeedsMemory, C_InvalidLimits, C_TooMany] : List Nat).getD i 0) (.ref R :: exTail) := fun i hi => match i, hi with
    | 0, _ => e_InvalidSizes.at_
    | 1, _ => e_UnknownName.at_
    | 2, _ => e_InvalidUsers.at_
    | 3, _ => e_InvalidLists.at_
    | 4, _ => e_NeedsMemory.at_
    | 5, _ => e_InvalidLimits.at_
    | 6, _ => e_TooMany.at_
  have xs_ : ∀ i, i < 7 → XCls K (([C_InvalidSizes, C_UnknownName, C_InvalidUsers, C_InvalidLists, C_NeedsMemory, C_InvalidLimits, C_TooMany] : List Nat).getD i 0) := fun i hi => match i, hi with
    | 0, _ => e_InvalidSizes.x rt0
    | 1, _ => e_UnknownName.x rt0
    | 2, _ => e_InvalidUsers.x rt0
    | 3, _ => e_InvalidLists.x rt0
    | 4, _ => e_NeedsMemory.x rt0
    | 5, _ => e_InvalidLimits.x rt0
    | 6, _ => e_TooMany.x rt0
  have kits : ∀ i j, i < 7 → j < 7 → PySem.W.kitOne K (.ref (([C_InvalidSizes, C_UnknownName, C_InvalidUsers, C_InvalidLists, C_NeedsMemory, C_InvalidLimits, C_TooMany] : List Nat).getD i 0)) (.ref (([C_InvalidSizes, C_UnknownName, C_InvalidUsers, C_InvalidLists, C_NeedsMemory, C_InvalidLimits, C_TooMany] : List Nat).getD j 0)) = some (decide (i = j)) := fun i j hi hj => by rw [(at_ i hi).kit (at_ j hj), has_cls (dist ⟨i, hi⟩ ⟨j, hj⟩) (apart ⟨j, hj⟩)]
  have exs : ∀ i j, i < 7 → j < 7 → PySem.W.exmOne K (.ref (([C_InvalidSizes, C_UnknownName, C_InvalidUsers, C_InvalidLists, C_NeedsMemory, C_InvalidLimits, C_TooMany] : List Nat).getD i 0)) (.ref (([C_InvalidSizes, C_UnknownName, C_InvalidUsers, C_InvalidLists, C_NeedsMemory, C_InvalidLimits, C_TooMany] : List Nat).getD j 0)) = some (decide (i = j)) := fun i j hi hj => by rw [(at_ i hi).exm (at_ j hj) rfl, has_cls (dist ⟨i, hi⟩ ⟨j, hj⟩) (apart ⟨j, hj⟩)]
  obtain ⟨T, eT⟩ : ∃ T : List (Addr × Str), T = [(t_law, lamQ "law")] := ⟨_, rfl⟩
  have m_law : (t_law, lamQ "law") ∈ T := by rw [eT]; simp
  have un_law : ∀ p ∈ T, p.1 = t_law → p.2 = lamQ "law" := fun p hp e => by
    rw [eT] at hp
    simp only [List.mem_cons, List.not_mem_nil, or_false] at hp
    rcases hp with rfl
    · rfl
  refine ⟨d_law, ([(c_law, t_law)] : List (Addr × Addr)), spLaw24 K T, fun p hp => ?_, fun s u => ?_, fun H a ns hl hts hS => ?_, fun base KB GB TBs => ?_⟩
  · simp only [List.mem_cons, List.not_mem_nil, or_false] at hp
    rcases hp with rfl
    · exact ⟨(TO _ _ _ t3_law t1_law).1, (TO _ _ _ t3_law t1_law).2, t2_law⟩
  · obtain ⟨oc, od, kV, doc, pm, an, cdv, ct, osl, rfl, lk, hcd⟩ := u_law.fun.ex
    exact .of_eq rfl
  · refine ⟨a, ns, rfl, hS, hl, ?_, fun _ => rfl⟩
    intro p hp
    rw [eT] at hp
    simp only [List.mem_cons, List.not_mem_nil, or_false] at hp
    rcases hp with rfl
    · exact TabS.nil (hts (c_law, t_law) (by simp))
  have E_InvalidUsers : Er0 l.prog w K mg base "InvalidUsers" C_InvalidUsers I_InvalidUsers D_InvalidUsers := ⟨e_InvalidUsers.er X G rt0, ok_InvalidUsers i_InvalidUsers rt (e_InvalidUsers.er X G rt0), i_InvalidUsers.binds (ps := ["self"]) fun _ _ _ _ _ _ us hl => match us, hl with | [_], _ => rfl⟩
  have D_bg : Dn l.prog w K mg base CX0 1 "_law_begin" ["_law_script"] (spBeginB K) f_bg d_bg := ⟨ok_beginB u_bg N, u_bg.kp, b_bg, g_bg⟩
  have D_mx : Dn l.prog w K mg base CX0 1 "_law_mixed" ["_law_draw"] (spMixedB) f_mx d_mx := ⟨ok_mixedB u_mx, u_mx.kp, b_mx, g_mx⟩
  have D_dt : Dn l.prog w K mg base CX0 2 "_law_take" ["_law_draw", "_law_size"] (spTakeB) f_dt d_dt := ⟨ok_takeB u_dt D_mx, u_dt.kp, b_dt, g_dt⟩
  have D_dp : Dn l.prog w K mg base CX0 3 "_law_pick" ["_law_draw", "_law_some"] (spPickB) f_dp d_dp := ⟨ok_pickB u_dp N D_dt, u_dp.kp, b_dp, g_dp⟩
  have D_fo : Dn l.prog w K mg base CX0 4 "_law_forest" ["_law_draw", "_law_most"] (spForB) f_fo d_fo := ⟨ok_forestB u_fo N D_dt D_dp, u_fo.kp, b_fo, g_fo⟩
  have D_isn : Dn l.prog w K mg base CX0 1 "is_name" ["value"] (spIsName) f_isn d_isn := ⟨ok_isName u_isn N Cs_, u_isn.kp, b_isn, g_isn⟩
  have D_isa : Dn l.prog w K mg base CX0 1 "is_ancestor" ["parents", "name"] (spIsAnc) f_isa d_isa := ⟨ok_isAnc u_isa, u_isa.kp, b_isa, g_isa⟩
  have D_nd : Dn l.prog w K mg base CX0 2 "need_parents" ["parents"] (spNeed) f_nd d_nd := ⟨ok_need u_nd N Cs_ Z D_isn D_isa, u_nd.kp, b_nd, g_nd⟩
  have F_fi : FnOk l.prog w K mg base CX0 3 f_fi d_fi ["self", "parents"] (spFInit CF) := ok_finit u_fi N O D_nd
  have MK_fi : Mk K CF f_fi := ⟨kCF.mks, m_fi.at_, m_fi.fn, kCF.kp⟩
  have D_ii : Dn l.prog w K mg base CX0 1 "is_integer" ["value", "least"] (spIsInt K) f_ii d_ii := ⟨ok_isInt u_ii N, u_ii.kp, b_ii, g_ii⟩
  have D_nu : Dn l.prog w K mg base (L2.CX l.prog w) 3 "need_users" ["users", "most"] (spUsers K C_InvalidUsers) f_nu d_nu := ⟨ok_users u_nu N D_ii E_InvalidUsers, u_nu.kp, b_nu, g_nu⟩
  have D_np : Dn l.prog w K mg base CX0 1 "need_place" ["forest", "place"] (spNeedPl CF) f_np d_np := ⟨ok_needPl u_np N O Z, u_np.kp, b_np, g_np⟩
  have F_kd : FnOk l.prog w K mg base CX0 2 f_kd d_kd ["self", "place"] (spKids CF) := ok_kids u_kd O D_np
  have M_kd : Mt l.prog w K mg base CX0 2 CF "children" ["self", "place"] (spKids CF) f_kd d_kd := ⟨⟨m_kd.at_, m_kd.fn, u_kd.kp⟩, F_kd, b_kd⟩
  have P_fl : Pr1 l.prog w K mg base CF "flags" (spFFlags CF) p_fl f_fl d_fl := ⟨⟨m_fl.at_, m_fl.get, m_fl.tak, ⟨_, m_fl.rec_⟩⟩, ok_fflags u_fl N O, b_fl⟩
  have D_tw : Dn l.prog w K mg base CX0 3 "has_two_chains" ["forest"] (spTwoC CF) f_tw d_tw := ⟨ok_twoC u_tw N O Z M_kd P_fl, u_tw.kp, b_tw, g_tw⟩
  have D_me : Dn l.prog w K mg base (L2.CX l.prog w) 4 "is_memoryless" ["forest", "users"] (spMem K CF C_InvalidUsers) f_me d_me := ⟨ok_mem u_me gM D_nu D_tw, u_me.kp, b_me, g_me⟩
  have D_pi : Dn l.prog w K mg base CX0 1 "path_in" ["above", "place"] (spPathIn) f_pi d_pi := ⟨ok_pathIn u_pi N, u_pi.kp, b_pi, g_pi⟩
  have D_wit : Dn l.prog w K mg base (L2.CX l.prog w) 5 "witness" ["forest", "users"] (spWit K CF C_InvalidUsers) f_wit d_wit := ⟨ok_wit u_wit N O Z D_me M_kd D_pi P_fl, u_wit.kp, b_wit, g_wit⟩
  have D_fit : Dn l.prog w K mg base CX0 1 "_law_fits" ["_law_parents", "_law_folk", "_law_wide"] (spFits) f_fit d_fit := ⟨ok_fitsH u_fit N, u_fit.kp, b_fit, g_fit⟩
  have D_lft : Dn l.prog w K mg base CX0 1 "_law_left" ["_law_parents", "_law_folk", "_law_wide"] (spLeft) f_lft d_lft := ⟨ok_left u_lft N, u_lft.kp, b_lft, g_lft⟩
  have D_red : Dn l.prog w K mg base CX0 1 "_law_reduced" ["_law_rows"] (spReduc) f_red d_red := ⟨ok_reduc u_red N, u_red.kp, b_red, g_red⟩
  have D_ph : Dn l.prog w K mg base CX0 1 "_law_path" ["_law_parents", "_law_place"] (spPathL) f_ph d_ph := ⟨ok_pathL u_ph, u_ph.kp, b_ph, g_ph⟩
  have D_agr : Dn l.prog w K mg base CX0 2 "_law_agree" ["_law_parents", "_law_three", "_law_places"] (spAgree) f_agr d_agr := ⟨ok_agree u_agr N D_ph, u_agr.kp, b_agr, g_agr⟩
  have D_cpl : Dn l.prog w K mg base CX0 12 "_law_can_place" ["_law_parents", "_law_three", "_law_firsts", "_law_second", "_law_third", "_law_last"] (spCanPl 9) f_cpl d_cpl := ⟨ok_canPl u_cpl N D_agr b_cpl g_cpl 9, u_cpl.kp, b_cpl, g_cpl⟩
  have D_isw : Dn l.prog w K mg base CX0 13 "_law_is_witness" ["_law_parents", "_law_folk", "_law_three"] (spIsWit) f_isw d_isw := ⟨ok_isWit u_isw N D_fit D_lft D_red D_cpl, u_isw.kp, b_isw, g_isw⟩
  have D_fdP : Dn l.prog w K mg base CX0 1 "_law_flipped" ["_law_some"] (spFlipP) f_fdP d_fdP := ⟨ok_flipP u_fdP N, u_fdP.kp, b_fdP, g_fdP⟩
  have GE : Ge K mg "_law_result" s__law_result f_re d_re := ⟨u_re, b_re, g_re⟩
  have CC_ : Cl7 K mg R (fun i => ([C_InvalidSizes, C_UnknownName, C_InvalidUsers, C_InvalidLists, C_NeedsMemory, C_InvalidLimits, C_TooMany] : List Nat).getD i 0) := ⟨rt.g, fun i hi => match i, hi with
    | 0, _ => PySem.W.mg_of X G e_InvalidSizes.nsn
    | 1, _ => PySem.W.mg_of X G e_UnknownName.nsn
    | 2, _ => PySem.W.mg_of X G e_InvalidUsers.nsn
    | 3, _ => PySem.W.mg_of X G e_InvalidLists.nsn
    | 4, _ => PySem.W.mg_of X G e_NeedsMemory.nsn
    | 5, _ => PySem.W.mg_of X G e_InvalidLimits.nsn
    | 6, _ => PySem.W.mg_of X G e_TooMany.nsn, xs_, kits, fun i hi => kit_bt (at_ i hi), fun i hi => by rw [(at_ i hi).exm rt0.at_ rfl, has_root], fun i f hi hf => match i, hi with
    | 0, _ => by cases hf; exact e_InvalidSizes.no
    | 1, _ => by cases hf; exact e_UnknownName.no
    | 2, _ => by cases hf
    | 3, _ => by cases hf
    | 4, _ => by cases hf
    | 5, _ => by cases hf; exact e_InvalidLimits.no
    | 6, _ => by cases hf; exact e_TooMany.no⟩
  have W : W24 l.prog w K mg base CF C_InvalidUsers (.type "type") (fun i => ([f_bg, f_dt, f_dp, f_fo, f_fi, f_wit, f_isw, f_fdP] : List Nat).getD i 0) (fun i => ([d_bg, d_dt, d_dp, d_fo, d_fi, d_wit, d_isw, d_fdP] : List FuncData).getD i d_bg) := { Z := Z, bg := D_bg, dt := D_dt, dp := D_dp, fo := D_fo, fi := F_fi, fim := MK_fi, fib := b_fi, wi := D_wit, wik := kw2 u_wit fun _ _ _ _ _ _ _ _ => rfl, iw := D_isw, fl := D_fdP }
  exact ok_law24 u_law N W GE CC_ rfl (TBs (c_law, t_law) (by simp)) m_law un_law
end
theorem walk {l : PySem.W.OpenLaw} {q : Program} {loose : List Str} {XP : (Str → Option Value) → Heap → Prop} {YP : World → Heap → Prop} {d : DefRec} {K : Params → PySem.W.Frag} (hn : l.most = some 63) (hdf : d.params.defaults = [])
    (hY : ∀ (w : World) (h : Heap), YP w h → (K w.params).In h)
    (F : ∀ (w : World) (mg : Str → Option Value) (fa : Addr) (h : Heap), (K w.params).In h → h.Ns mainGlobals mg → mg d.name = some (.ref fa) → TabsOf q (K w.params) h → XP mg h → LawTG l w (K w.params) 14 63 "_law_script" mg fa h) :
    PySem.W.WalkO q loose XP YP l.row.toRowW d [] (fun f vs => PySem.call f vs) :=
  walk_tabG (n := 63) (k := 14) (x := "_law_script") hn (by decide) hdf ⟨rfl, by decide, by decide⟩ hY F
end FT


open PySem PySem.W PyProof.Rows
set_option maxRecDepth 100000 in
set_option maxHeartbeats 0 in
theorem PySem.Challenge.cw_flagtrees_k24_witnesses_holds : PySem.Challenge.rw_flagtrees_k24_witnesses.Holds := by
  w_on; o_law; k_head; (case hw => w_witness2)
  k_fill
  refine FT.walk (l := PySem.Challenge.rw_flagtrees_k24_witnesses) rfl rfl (fun w h Y => PySem.W.km_in_of Y) ?F
  case F =>
    intro w mg fa h KX G hm TO XX
    have hmg : mg "law" = some (.ref fa) := hm
    clear hm
    refine' FT.all_mk KX G hmg TO ?kCF ?noCF_above ?root ?cL ?cT ?gMC ?n_bg ?u_bg ?n_mx ?u_mx ?n_dt ?u_dt ?n_dp ?u_dp ?n_fo ?u_fo ?n_isn ?u_isn ?n_isa ?u_isa ?n_nd ?u_nd ?n_ii ?u_ii ?n_nu ?u_nu ?n_np ?u_np ?n_tw ?u_tw ?n_me ?u_me ?n_pi ?u_pi ?n_wit ?u_wit ?n_fit ?u_fit ?n_lft ?u_lft ?n_red ?u_red ?n_ph ?u_ph ?n_agr ?u_agr ?n_cpl ?u_cpl ?n_isw ?u_isw ?n_fdP ?u_fdP ?n_re ?u_re ?n_law ?u_law ?t1_law ?t2_law ?t3_law ?m_fi ?m_kd ?m_fl ?u_fi ?u_kd ?u_fl ?rt0 ?e_InvalidSizes ?i_InvalidSizes ?e_UnknownName ?i_UnknownName ?e_InvalidUsers ?i_InvalidUsers ?e_InvalidLists ?i_InvalidLists ?e_NeedsMemory ?i_NeedsMemory ?e_InvalidLimits ?i_InvalidLimits ?e_TooMany ?i_TooMany ?apart ?dist ?z_abs ?z_len ?z_rng ?z_enu ?z_zip ?z_isi ?z_all ?z_srt ?z_lst ?z_dct ?z_str ?z_int ?z_tup ?z_sum ?z_min ?z_max ?z_rep ?z_bool ?z_any ?z_vE
    (case kCF => (refine' ⟨?nsn, ?rd, ?ga, ?most, ?pg, ?hd, ?po, ?sa, ?mks, ?kp, ?ha, ?hn, ?ht, ?hm⟩; (case nsn => k_is); (case rd => k_is); (case ga => k_is); (case most => k_is); (case pg => k_is); (case hd => k_is); (case po => k_is); (case sa => k_is); (case mks => k_is); (case kp => k_is); (case ha => k_is); (case hn => k_is); (case ht => k_is); (case hm => k_is)))
    (case noCF_above => k_is)
    (case root => k_is)
    (case cL => k_is)
    (case cT => k_is)
    (case gMC => (rw [show (10 : Int) ^ 30 = 1000000000000000000000000000000 by decide]; exact FT.loose_int XX (List.mem_cons_self ..)))
    (case n_bg => k_is)
    (case u_bg => (refine' L2.fun_mk ?l ?c ?k; (case l => k_is); (case c => k_is); (case k => k_is)))
    (case n_mx => k_is)
    (case u_mx => (refine' L2.fun_mk ?l ?c ?k; (case l => k_is); (case c => k_is); (case k => k_is)))
    (case n_dt => k_is)
    (case u_dt => (refine' L2.fun_mk ?l ?c ?k; (case l => k_is); (case c => k_is); (case k => k_is)))
    (case n_dp => k_is)
    (case u_dp => (refine' L2.fun_mk ?l ?c ?k; (case l => k_is); (case c => k_is); (case k => k_is)))
    (case n_fo => k_is)
    (case u_fo => (refine' L2.fun_mk ?l ?c ?k; (case l => k_is); (case c => k_is); (case k => k_is)))
    (case n_isn => k_is)
    (case u_isn => (refine' L2.fun_mk ?l ?c ?k; (case l => k_is); (case c => k_is); (case k => k_is)))
    (case n_isa => k_is)
    (case u_isa => (refine' L2.fun_mk ?l ?c ?k; (case l => k_is); (case c => k_is); (case k => k_is)))
    (case n_nd => k_is)
    (case u_nd => (refine' L2.fun_mk ?l ?c ?k; (case l => k_is); (case c => k_is); (case k => k_is)))
    (case n_ii => k_is)
    (case u_ii => (refine' L2.fun_mk ?l ?c ?k; (case l => k_is); (case c => k_is); (case k => k_is)))
    (case n_nu => k_is)
    (case u_nu => (refine' L2.fun_mk ?l ?c ?k; (case l => k_is); (case c => k_is); (case k => k_is)))
    (case n_np => k_is)
    (case u_np => (refine' L2.fun_mk ?l ?c ?k; (case l => k_is); (case c => k_is); (case k => k_is)))
    (case n_tw => k_is)
    (case u_tw => (refine' L2.fun_mk ?l ?c ?k; (case l => k_is); (case c => k_is); (case k => k_is)))
    (case n_me => k_is)
    (case u_me => (refine' L2.fun_mk ?l ?c ?k; (case l => k_is); (case c => k_is); (case k => k_is)))
    (case n_pi => k_is)
    (case u_pi => (refine' L2.fun_mk ?l ?c ?k; (case l => k_is); (case c => k_is); (case k => k_is)))
    (case n_wit => k_is)
    (case u_wit => (refine' L2.fun_mk ?l ?c ?k; (case l => k_is); (case c => k_is); (case k => k_is)))
    (case n_fit => k_is)
    (case u_fit => (refine' L2.fun_mk ?l ?c ?k; (case l => k_is); (case c => k_is); (case k => k_is)))
    (case n_lft => k_is)
    (case u_lft => (refine' L2.fun_mk ?l ?c ?k; (case l => k_is); (case c => k_is); (case k => k_is)))
    (case n_red => k_is)
    (case u_red => (refine' L2.fun_mk ?l ?c ?k; (case l => k_is); (case c => k_is); (case k => k_is)))
    (case n_ph => k_is)
    (case u_ph => (refine' L2.fun_mk ?l ?c ?k; (case l => k_is); (case c => k_is); (case k => k_is)))
    (case n_agr => k_is)
    (case u_agr => (refine' L2.fun_mk ?l ?c ?k; (case l => k_is); (case c => k_is); (case k => k_is)))
    (case n_cpl => k_is)
    (case u_cpl => (refine' L2.fun_mk ?l ?c ?k; (case l => k_is); (case c => k_is); (case k => k_is)))
    (case n_isw => k_is)
    (case u_isw => (refine' L2.fun_mk ?l ?c ?k; (case l => k_is); (case c => k_is); (case k => k_is)))
    (case n_fdP => k_is)
    (case u_fdP => (refine' L2.fun_mk ?l ?c ?k; (case l => k_is); (case c => k_is); (case k => k_is)))
    (case n_re => k_is)
    (case u_re => (refine' L2.fun_mk ?l ?c ?k; (case l => k_is); (case c => k_is); (case k => k_is)))
    (case n_law => k_is)
    (case u_law => (refine' L2.funC_mk ?l ?e ?k; (case l => k_is); (case e => k_is); (case k => k_is)))
    (case t1_law => rfl)
    (case t2_law => rfl)
    (case t3_law => rfl)
    (case m_fi => (refine' ⟨?at_, ?fn⟩; (case at_ => k_is); (case fn => k_is)))
    (case m_kd => (refine' ⟨?at_, ?fn⟩; (case at_ => k_is); (case fn => k_is)))
    (case m_fl => (refine' ⟨?at_, ?get, ?tak, ?rec_⟩; (case at_ => k_is); (case get => k_is); (case tak => k_is); (case rec_ => k_is)))
    (case u_fi => (refine' L2.fun_mk ?l ?c ?k; (case l => k_is); (case c => k_is); (case k => k_is)))
    (case u_kd => (refine' L2.fun_mk ?l ?c ?k; (case l => k_is); (case c => k_is); (case k => k_is)))
    (case u_fl => (refine' L2.fun_mk ?l ?c ?k; (case l => k_is); (case c => k_is); (case k => k_is)))
    (case rt0 => (refine' ⟨?nsn, ?at_, ?rd, ?ga, ?ini, ?hn, ?ht⟩; (case nsn => k_is); (case at_ => (refine' ⟨_, _, _, _, _, _, _, _, _, _, _, _, _, _, ?xl⟩; (case xl => rfl))); (case rd => k_is); (case ga => k_is); (case ini => k_is); (case hn => k_is); (case ht => k_is)))
    (case e_InvalidSizes => (refine' ⟨?nsn, ?at_, ?sa, ?ga, ?gg, ?ha, ?kC, ?no, ?ini, ?ity⟩; (case nsn => k_is); (case at_ => (refine' ⟨_, _, _, _, _, _, _, _, _, _, _, _, _, _, ?xl⟩; (case xl => rfl))); (case sa => k_is); (case ga => k_is); (case gg => k_is); (case ha => k_is); (case kC => k_is); (case no => k_is); (case ini => k_is); (case ity => k_is)))
    (case i_InvalidSizes => (refine' L2.fun_mk ?l ?c ?k; (case l => k_is); (case c => k_is); (case k => k_is)))
    (case e_UnknownName => (refine' ⟨?nsn, ?at_, ?sa, ?ga, ?gg, ?ha, ?kC, ?no, ?ini, ?ity⟩; (case nsn => k_is); (case at_ => (refine' ⟨_, _, _, _, _, _, _, _, _, _, _, _, _, _, ?xl⟩; (case xl => rfl))); (case sa => k_is); (case ga => k_is); (case gg => k_is); (case ha => k_is); (case kC => k_is); (case no => k_is); (case ini => k_is); (case ity => k_is)))
    (case i_UnknownName => (refine' L2.fun_mk ?l ?c ?k; (case l => k_is); (case c => k_is); (case k => k_is)))
    (case e_InvalidUsers => (refine' ⟨?nsn, ?at_, ?sa, ?ga, ?gg, ?ha, ?kC, ?no, ?ini, ?ity⟩; (case nsn => k_is); (case at_ => (refine' ⟨_, _, _, _, _, _, _, _, _, _, _, _, _, _, ?xl⟩; (case xl => rfl))); (case sa => k_is); (case ga => k_is); (case gg => k_is); (case ha => k_is); (case kC => k_is); (case no => k_is); (case ini => k_is); (case ity => k_is)))
    (case i_InvalidUsers => (refine' L2.fun_mk ?l ?c ?k; (case l => k_is); (case c => k_is); (case k => k_is)))
    (case e_InvalidLists => (refine' ⟨?nsn, ?at_, ?sa, ?ga, ?gg, ?ha, ?kC, ?no, ?ini, ?ity⟩; (case nsn => k_is); (case at_ => (refine' ⟨_, _, _, _, _, _, _, _, _, _, _, _, _, _, ?xl⟩; (case xl => rfl))); (case sa => k_is); (case ga => k_is); (case gg => k_is); (case ha => k_is); (case kC => k_is); (case no => k_is); (case ini => k_is); (case ity => k_is)))
    (case i_InvalidLists => (refine' L2.fun_mk ?l ?c ?k; (case l => k_is); (case c => k_is); (case k => k_is)))
    (case e_NeedsMemory => (refine' ⟨?nsn, ?at_, ?sa, ?ga, ?gg, ?ha, ?kC, ?no, ?ini, ?ity⟩; (case nsn => k_is); (case at_ => (refine' ⟨_, _, _, _, _, _, _, _, _, _, _, _, _, _, ?xl⟩; (case xl => rfl))); (case sa => k_is); (case ga => k_is); (case gg => k_is); (case ha => k_is); (case kC => k_is); (case no => k_is); (case ini => k_is); (case ity => k_is)))
    (case i_NeedsMemory => (refine' L2.fun_mk ?l ?c ?k; (case l => k_is); (case c => k_is); (case k => k_is)))
    (case e_InvalidLimits => (refine' ⟨?nsn, ?at_, ?sa, ?ga, ?gg, ?ha, ?kC, ?no, ?ini, ?ity⟩; (case nsn => k_is); (case at_ => (refine' ⟨_, _, _, _, _, _, _, _, _, _, _, _, _, _, ?xl⟩; (case xl => rfl))); (case sa => k_is); (case ga => k_is); (case gg => k_is); (case ha => k_is); (case kC => k_is); (case no => k_is); (case ini => k_is); (case ity => k_is)))
    (case i_InvalidLimits => (refine' L2.fun_mk ?l ?c ?k; (case l => k_is); (case c => k_is); (case k => k_is)))
    (case e_TooMany => (refine' ⟨?nsn, ?at_, ?sa, ?ga, ?gg, ?ha, ?kC, ?no, ?ini, ?ity⟩; (case nsn => k_is); (case at_ => (refine' ⟨_, _, _, _, _, _, _, _, _, _, _, _, _, _, ?xl⟩; (case xl => rfl))); (case sa => k_is); (case ga => k_is); (case gg => k_is); (case ha => k_is); (case kC => k_is); (case no => k_is); (case ini => k_is); (case ity => k_is)))
    (case i_TooMany => (refine' L2.fun_mk ?l ?c ?k; (case l => k_is); (case c => k_is); (case k => k_is)))
    (case apart => decide +kernel)
    (case dist => decide +kernel)
    (case z_abs => k_is)
    (case z_len => k_is)
    (case z_rng => k_is)
    (case z_enu => k_is)
    (case z_zip => k_is)
    (case z_isi => k_is)
    (case z_all => k_is)
    (case z_srt => k_is)
    (case z_lst => k_is)
    (case z_dct => k_is)
    (case z_str => k_is)
    (case z_int => k_is)
    (case z_tup => k_is)
    (case z_sum => k_is)
    (case z_min => k_is)
    (case z_max => k_is)
    (case z_rep => k_is)
    (case z_bool => k_is)
    (case z_any => k_is)
    (case z_vE => k_is)
