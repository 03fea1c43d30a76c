import PyProof.Rows.All
import Wide.All
import OpenK.AllK
import Wide.FinOn
import HandS.ForMost
import PyProof.EqAt
import PyProof.EqKinds
import PyProof.TupleCall
import KE.KFromBytes
import KE.KExcIs
import HandS.Exc
import HandS.TryOnly
import HandS.ExcInit
import HandS.ExcIs
import HandS.ExcField
import HandS.IsInst
import HandS.ClsMeth
import HandS.Defaults
import HandS.DictComp
import HandS.SortKw
import HandS.More
import HandS.Nested
import PyProof.Rows.StrRules
import PyProof.Rows.SortKeyStr
import KE.KUnpackStar
import HandS.Flow
import HandS.Walk
import HandS.Wide
import HandS.Text
import HandS.Style
import HandS.Property
import HandS.WordsDict
import HandS.ListItems
import HandS.Finally
import HandS.Codes
import HandS.WordsExc
import PyProof.Rows.StrMul
import HandS.List
import PyProof.NeData
import HandS.Lambda
import HandS.EndBits
import KE.KNest
import HandS.ExcOwn
import KE.RegKIsAll
import Wide.Loose
import PySem.Challenge.RW_flagtrees_k51_texts_changed_anywhere
set_option Elab.async false
set_option linter.all false
set_option maxRecDepth 100000
set_option maxHeartbeats 8000000

namespace FT
open PySem L2
/-- the i-th statement of the row's text -/
def top (i : Nat) : Stmt := PySem.Challenge.pw_flagtrees_k51_texts_changed_anywhere.main.body.getD i (.Pass ⟨0, 0, 0, 0⟩)
abbrev s__wall : Stmt := top 0
abbrev s_InvalidForest___init__ : Stmt := inClass (top 3) 0
abbrev s_UnknownName___init__ : Stmt := inClass (top 4) 0
abbrev s_InvalidUsers___init__ : Stmt := inClass (top 5) 0
abbrev s_InvalidSizes___init__ : Stmt := inClass (top 6) 0
abbrev s_InvalidPlace___init__ : Stmt := inClass (top 7) 0
abbrev s_UnknownUser___init__ : Stmt := inClass (top 8) 0
abbrev s_Mismatch___init__ : Stmt := inClass (top 9) 0
abbrev s_InvalidNumber___init__ : Stmt := inClass (top 10) 0
abbrev s_NotBest___init__ : Stmt := inClass (top 11) 0
abbrev s_InvalidPin___init__ : Stmt := inClass (top 12) 0
abbrev s_Crowded___init__ : Stmt := inClass (top 13) 0
abbrev s_InvalidText___init__ : Stmt := inClass (top 14) 0
abbrev s_is_name : Stmt := top 18
abbrev s_is_ancestor : Stmt := top 19
abbrev s_need_parents : Stmt := top 20
abbrev s_Forest___init__ : Stmt := inClass (top 21) 2
abbrev s_Forest___eq__ : Stmt := inClass (top 21) 3
abbrev s_Forest_flags : Stmt := inClass (top 21) 4
abbrev s_Forest_parents : Stmt := inClass (top 21) 5
abbrev s_Forest_text : Stmt := inClass (top 21) 6
abbrev s_Forest_children : Stmt := inClass (top 21) 7
abbrev s_Forest_path : Stmt := inClass (top 21) 8
abbrev s_Forest_under : Stmt := inClass (top 21) 9
abbrev s_Forest_distance : Stmt := inClass (top 21) 10
abbrev s_Forest_walk : Stmt := inClass (top 21) 11
abbrev s_Forest_parse : Stmt := inClass (top 21) 12
abbrev s_walked : Stmt := top 22
abbrev s_path_in : Stmt := top 23
abbrev s_need_place : Stmt := top 24
abbrev s_sizes_of : Stmt := top 26
abbrev s_Assignment___init__ : Stmt := inClass (top 27) 1
abbrev s_Assignment___eq__ : Stmt := inClass (top 27) 2
abbrev s_Assignment_forest : Stmt := inClass (top 27) 3
abbrev s_Assignment_places : Stmt := inClass (top 27) 4
abbrev s_Assignment_total : Stmt := inClass (top 27) 5
abbrev s_Assignment_sizes : Stmt := inClass (top 27) 6
abbrev s_Assignment_flags_of : Stmt := inClass (top 27) 7
abbrev s_Assignment_has : Stmt := inClass (top 27) 8
abbrev s_Assignment_users_of : Stmt := inClass (top 27) 9
abbrev s_Assignment_at : Stmt := inClass (top 27) 10
abbrev s_Assignment_moved : Stmt := inClass (top 27) 11
abbrev s_Assignment_empty : Stmt := inClass (top 27) 12
abbrev s_integer_of : Stmt := top 32
abbrev s_parse_sizes : Stmt := top 33
abbrev s_parse_assignment : Stmt := top 34
abbrev s__law_begin : Stmt := top 36
abbrev s__law_draw : Stmt := top 37
abbrev s__law_pick : Stmt := top 38
abbrev s__law_names : Stmt := top 39
abbrev s__law_tree : Stmt := top 40
abbrev s__law_places : Stmt := top 41
abbrev s__law_error : Stmt := top 42
abbrev s__law_bent : Stmt := top 43
abbrev s__law_sizes_in : Stmt := top 44
abbrev s__law_places_in : Stmt := top 45
abbrev s_law : Stmt := top 46
end FT


/-! Own: an exception class over ValueError called with one keyword, `C(name=value)`. The library's lemmas (HandSPX.call_own) say it for calls without keywords; these say it for one keyword. -/
namespace FX
open PySem PySem.W PySem.Calls PyProof.Rows PySem.HandSPX
section
variable {Mo : Model} {Ar : Around} {Er : Value → Shared → Prop} {he : Heap} {ge : Array GenState} {dr : Drawn} {tk : Nat} {os : OsState}
variable {nm qn : Str} {C N : Addr} {bs bm bmB : List Value} {hdct : Bool} {sn : List Str} {sub : List Value} {ab : Bool} {col : Option Bool} {dd : Option Addr} {k0 k1 k2 k3 k5 : Option Value} {B idN idI : String}
variable {kn : Str} {kv : Value} {more : List Value}
/-- the class object of an exception class, short -/
abbrev XO (nm qn : Str) (C N : Addr) (bs bm : List Value) (hdct : Bool) (sn : List Str) (sub : List Value) (ab : Bool) (col : Option Bool) (dd : Option Addr) (k0 k1 k2 k3 k5 : Option Value) (idN : String) : Obj :=
  excClassObj nm qn C N bs bm hdct sn sub ab col dd k0 k1 k2 k3 k5 idN
abbrev SameTy (bm bmB : List Value) : Prop := ∀ T : String, bm.contains (.type T) = bmB.contains (.type T)
end
section
variable {pg : Program} {w : World} {Ar : Around} {Er : Value → Shared → Prop} {Rs : Result → Shared → Prop} {he : Heap} {ge : Array GenState} {dr : Drawn} {tk : Nat} {os : OsState}
variable {nm qn : Str} {C N fI : Addr} {bs bm bmB : List Value} {hdct : Bool} {sn : List Str} {sub : List Value} {ab : Bool} {col : Option Bool} {dd : Option Addr} {k0 k1 k2 k3 k5 : Option Value} {B idN idI : String}
variable {kn : Str} {kv : Value} {more : List Value}
/-- the heap with the new exception -/
abbrev withX (he : Heap) (C : Addr) (more : List Value) : Heap := (he.push (W.kdv_tup more)).push (excO C he.objs.size)
end
end FX


namespace L2
open PySem PySem.Spec PyProof.Rows
/-- what the written part says of an own exception class over ValueError -/
structure XCls (K : PySem.W.Frag) (C : Addr) : Prop where
  cls : ∃ nm q N bs bm sn sub ab col dd k0 k1 k2 k3 k5, K.lookup C = some (excClassObj nm q C N bs bm true sn sub ab col dd k0 k1 k2 k3 k5 "ValueError.__new__") ∧ PySem.HandSPX.refsVE bm = true
  sa : PySem.W.findIn K (.ref C) "__setattr__" = some (some (.builtin "object.__setattr__"))
  exC : PySem.W.subIn K (.ref C) (.type "BaseException") = some true
  tyC : PySem.W.typeIn K (.ref C) = some (.type "type")
  kC : PySem.W.keepIn K (.ref C) = true
  ga : PySem.W.findIn K (.ref C) "__getattribute__" = some (some (.builtin "BaseException.__getattribute__"))
  gg : PySem.W.findIn K (.ref C) "__getattr__" = some none
  hdC : PySem.W.hasDictIn K C = true
  ha : PySem.W.findIn K (.ref C) "__class__" = some (some (.builtin "object.__class__"))
  hn : PySem.W.specialIn K (.builtin "object.__class__") "__get__" = some (some (.builtin "getset_descriptor.__get__"))
  ht : PySem.W.takesIn K (.builtin "object.__class__") = some true
  hm : PySem.W.mroIn K C (.type "object") = some true
theorem XCls.oex {K : PySem.W.Frag} {C : Addr} (c : XCls K C) : OexC K C := ⟨c.cls, c.sa, c.exC, c.tyC, c.kC⟩
/-- an exception object at a, by class and dict, its fields not told -/
def exg (a C : Addr) (d : Option Addr) : HO := .ext fun h => ∃ vs sl, h.get? a = some ({ cls := .ref C, dict := d, data := .fields vs, slots := sl } : Obj)
theorem exg_ok {P : Program} {w : World} {H : Hp} {h : Heap} {e C : Addr} {d : Option Addr} {vs : Array Value} {sl : Array (Option Value)} (he : h.get? e = some ({ cls := .ref C, dict := d, data := .fields vs, slots := sl } : Obj)) : ObjOk P w H h e (exg e C d) :=
  ⟨⟨vs, sl, he⟩, ⟨_, he⟩, fun h1 h2 z k => by
    obtain ⟨vs, sl, q⟩ := z
    exact ⟨vs, sl, k _ q⟩⟩
def XAt (H : Hp) (a C : Addr) (d : Option Addr) : Prop := H a = some (exo a C d) ∨ H a = some (exg a C d)
theorem XAt.obj {P : Program} {w : World} {H : Hp} {h : Heap} {a C : Addr} {d : Option Addr} (x : XAt H a C d) (hok : HOk P w H h) : ∃ ox vs, h.get? a = some ox ∧ ox.cls = .ref C ∧ ox.dict = d ∧ ox.data = .fields vs := by
  rcases x with e | e
  · obtain ⟨t1, q⟩ := exo_at hok e
    exact ⟨_, _, q, rfl, rfl, rfl⟩
  · have z : ObjOk P w H h a (.ext fun h => ∃ vs sl, h.get? a = some ({ cls := .ref C, dict := d, data := .fields vs, slots := sl } : Obj)) := hok a _ e
    obtain ⟨⟨vs, sl, q⟩, _⟩ := z
    exact ⟨_, vs, q, rfl, rfl, rfl⟩
def XD (H : Hp) (dx : Addr) (fs : List (Str × V)) : Prop := H dx = some (exd dx fs) ∨ H dx = some (.xd fs)
theorem XD.at {P : Program} {w : World} {H : Hp} {h : Heap} {dx : Addr} {fs : List (Str × V)} (x : XD H dx fs) (hok : HOk P w H h) : ∃ mA, h.Ns1 dx mA ∧ ∀ f, RelO (fs.lookup f) (mA f) := by
  rcases x with e | e
  · exact exd_at hok e
  · have z : ObjOk P w H h dx (.xd fs) := hok dx _ e
    exact z
/-- an exception of the class at C stands at a; its attributes are fs -/
def XV (H : Hp) (a C : Addr) (fs : List (Str × V)) : Prop := (XAt H a C none ∧ fs = []) ∨ ∃ dx, XAt H a C (some dx) ∧ XD H dx fs
theorem XV.inst {P : Program} {w : World} {H : Hp} {h : Heap} {a C : Addr} {fs : List (Str × V)} (x : XV H a C fs) (hok : HOk P w H h) : ∃ ox od, PySem.W.InstAt h a ox C od := by
  rcases x with ⟨x, _⟩ | ⟨dx, x, y⟩
  · obtain ⟨ox, vs, e1, e2, e3, e4⟩ := x.obj hok
    exact ⟨ox, none, e1, e2, by unfold PySem.W.notCls; rw [e4] <;> rfl, by rw [e3]; trivial⟩
  · obtain ⟨ox, vs, e1, e2, e3, e4⟩ := x.obj hok
    obtain ⟨mA, hn, hr⟩ := y.at hok
    obtain ⟨od, ho, hl⟩ := lookIn_ns hn
    exact ⟨ox, some od, e1, e2, by unfold PySem.W.notCls; rw [e4] <;> rfl, by rw [e3]; exact ho⟩
theorem XV.look {P : Program} {w : World} {H : Hp} {h : Heap} {a C : Addr} {fs : List (Str × V)} {f : Str} {v : V} (x : XV H a C fs) (hok : HOk P w H h) (hl : fs.lookup f = some v) :
    ∃ ox od u, PySem.W.InstAt h a ox C (some od) ∧ PySem.W.lookIn f od = some (some u) ∧ RelV v u := by
  rcases x with ⟨_, e⟩ | ⟨dx, x, y⟩
  · rw [e] at hl
    cases hl
  · obtain ⟨ox, vs, e1, e2, e3, e4⟩ := x.obj hok
    obtain ⟨mA, hn, hr⟩ := y.at hok
    obtain ⟨od, ho, hk⟩ := lookIn_ns hn
    obtain ⟨u, hu, ru⟩ := RelO.some_of (v := v) (o := mA f) (by rw [← hl]; exact hr f)
    exact ⟨ox, od, u, ⟨e1, e2, by unfold PySem.W.notCls; rw [e4] <;> rfl, by rw [e3]; exact ho⟩, by rw [hk, hu], ru⟩

section
variable {X : Cx}
/-- isinstance(e, c), e an exception of an own class -/
def rIsX (K : PySem.W.Frag) : List V → Hp → VK → Prop := fun xs H Q => ∃ (a C : Addr) (fs : List (Str × V)) (c : V) (u : Value) (b : Bool), xs = [.ref a, c] ∧ ClsV c u ∧ XCls K C ∧ XV H a C fs ∧ PySem.W.kitOne K (.ref C) u = some b ∧ Q (.bl b) H
theorem call_isX : CallR X (.builtin "isinstance") (rIsX X.K) := by
  intro pins s σ H xs us Q I r h
  obtain ⟨a, C, fs, c, u, b, rfl, k, T, xv, e, q⟩ := h
  obtain ⟨u1, u2, rfl, r1, r2⟩ := vals2 r
  have e2 := k.eq r2
  subst e2
  obtain rfl : u1 = Value.ref a := r1
  obtain ⟨ox, od, J⟩ := xv.inst I.hok
  have hcl : (PySem.W.clsIn X.K C).isSome = true := by
    obtain ⟨cd, hc, _⟩ := PySem.W.any_some T.hdC
    rw [hc] <;> rfl
  exact PySem.W.kia_one (PySem.W.kitx_exc hcl T.ga T.gg T.exC T.ha T.hn T.ht T.hm) I.kIn J e (fun z => nomatch z) fun tk => ⟨.bl b, H, I.tok tk, rfl, q⟩
/-- e.f -/
def tXFld (K : PySem.W.Frag) (te : TE) (f : Str) : TE := fun σ H Q => te σ H fun x H1 => ∃ (a C : Addr) (fs : List (Str × V)) (v : V), x = .ref a ∧ XV H1 a C fs ∧ XCls K C ∧ PySem.W.findIn K (.ref C) f = some none ∧ fs.lookup f = some v ∧ Q v H1
theorem pe_xfld {e : Expr} {te : TE} {pos : Pos} {n : Str} (he : PE X e te) (hb : attributeBase e n X.env (eval e X.env) = eval e X.env := by rfl) : PE X (.Attribute e n pos) (tXFld X.K te n) := by
  refine ⟨fun pins s σ H Q I h => ?_⟩
  refine attr_of hb (thn (he.run pins s σ H _ I h) fun u s1 hh => ?_)
  obtain ⟨x, H1, I1, rx, a, C, fs, v, ex, xv, T, hno, hl, q⟩ := hh
  subst ex
  obtain rfl : u = Value.ref a := rx
  obtain ⟨ox, od, u, J, hk, ru⟩ := xv.look I1.hok hl
  exact HandSPX.exc_get I1.kIn J T.ga T.gg T.exC (PySem.W.findObj_own T.hdC hno rfl hk) (handed_of ru) ⟨v, H1, I1.tok _, ru, q⟩
/-- R.__init__(self, ..), R an own class whose __init__ is ValueError's -/
structure XIni (K : PySem.W.Frag) (R : Addr) : Prop where
  rd : PySem.W.readsIn K R (.type "type") = true
  ga : PySem.W.specialIn K (.ref R) "__getattribute__" = some (some (.builtin "type.__getattribute__"))
  at_ : PySem.W.findCls K (.ref R) (.type "type") "__init__" = some (.val (.builtin "ValueError.__init__"))
theorem pe_clsinit {R : Addr} {rn : Str} {e : Expr} {es : List Expr} {ta : TA} {p1 p2 pos : Pos} {pl : Sem Bool} (T0 : XIni X.K R) (hg : Gl X rn) (hm : X.mg rn = some (.ref R)) (ha : PA X (e :: es) ta)
    (hdb : (rn == ("__debug__" : Str)) = false := by decide)
    (hc : eval (.Call (.Attribute (.Name rn p1) "__init__" p2) (e :: es) [] pos) X.env = (do
      let ov ← eval (.Name rn p1) X.env
      standAt p2.atName
      let (f, first) ← holding [ov] (getMethod ov "__init__" pl)
      callWith pos f first (backTo pos (starEach (e :: es) X.env)) (backToKw pos (keywordEach [] X.env))) := by rfl)
    (he : starEach (e :: es) X.env = (false, eval e X.env) :: starEach es X.env := by rfl) (hpl : (backTo pos (starEach es X.env)).any (·.1) = false := by rfl) :
    PE X (.Call (.Attribute (.Name rn p1) "__init__" p2) (e :: es) [] pos) (tVeI X.K ta) := by
  refine ⟨fun pins s σ H Q I h => ?_⟩
  refine PySem.W.methodCall_KW (ld_glob I hg hm ?_ hdb) hc
  refine PySem.W.method_cls I.kIn T0.ga (PySem.W.cls_value I.kIn T0.rd T0.at_ rfl ?_)
  show wpAny _ _ (callWith pos (Value.builtin "ValueError.__init__") [] (backTo pos (starEach (e :: es) X.env)) []) _ _ _
  refine PyProof.Rows.callWith_method1 (thn (ha.run pos pins _ σ H _ (I.tok _) h) fun us s1 ⟨vs, H1, I1, r1, a, C, ws, ev, hl, T, ea, q⟩ => ?_) he hpl
  subst ev
  cases r1 with
  | @cons _ u0 _ ur ra rw' =>
    obtain rfl : u0 = Value.ref a := ra
    have hlen : ur.length ≤ sizeLine := by
      rw [← Paired.length rw', sizeLine_eq]
      omega
    exact oinit_ok T I1 ea hlen fun s' J => ⟨.non, H1, J, rfl, q⟩

/-! ### C(..) as a value -/
variable {CX : CXT} {C fI : Addr} {k : Nat} {fd : FuncData} {ps : List Str} {sp : Sp} {ds : List Value} {dvs : List V} {E : XK}
/-- C(e, ..) as a value; C's own __init__ keeps sp -/
def tMkX (C : Addr) (sp : Sp) (dvs : List V) (E : XK) (ta : TA) : TE := fun σ H Q => ta σ H fun vs H1 => vs.length ≤ 1000 ∧ ∀ a, H1 a = none → sp (.ref a :: (vs ++ dvs)) (upd H1 a (exo a C none)) (fun v H2 => v = .non ∧ Q (.ref a) H2) E
def tMkXK (C : Addr) (sp : Sp) (gV : List V → List V → List V) (E : XK) (te : TE) : TE := fun σ H Q => te σ H fun v H1 => ∀ a, H1 a = none → sp (gV [.ref a] [v]) (upd H1 a (exo a C none)) (fun v H2 => v = .non ∧ Q (.ref a) H2) E
variable {x : Str} {e : Expr} {es : List Expr} {ta : TA} {te : TE} {p pos kpos : Pos}
end
end L2


/-! y = {k: v for ..}, y a local; an expression whose answer is locked -/
namespace L2
open PySem PySem.Spec PyProof.Rows
section
variable {X : Cx} {i : Nat} {y : Str} {py : Pos} {kx vx tg iter : Expr} {ifs : List Expr} {scope : Scope} {own : List (Str × Nat)} {pos spos : Pos} {wi : TI} {g : TG} {tt : TT} {tk tv : TE}
/-- e, its answer locked from then on -/
def tLk (te : TE) : TE := fun σ H Q => te σ H fun x H1 => ∃ d u, x = .ref d ∧ H1 d = some u ∧ Mut (some u) ∧ ∀ od, Q (.ref d) (upd H1 d (.frz od u))
end
end L2


/-! try: .. except C as n: .., the caught exception known behind the try -/
namespace L2
open PySem PySem.Spec PyProof.Rows
section
variable {X : Cx} {pins : List (Addr × Obj)} {σ : St} {H : Hp} {s : Shared}
/-- an object that stands there is known from now on; the entry had none at its place -/
theorem Inv.known {a : Addr} {o : HO} (I : Inv X pins σ H s) (hn : H a = none) (h0 : X.s_0.heap.get? a = none) (hL : a ≠ X.env.locals) (h2 : ∀ x c, X.env.cells.lookup x = some c → c ≠ a) (h3 : ∀ p ∈ X.pn ++ pins, p.1 ≠ a)
    (new : ObjOk X.prog X.w (upd H a o) s.heap a o) : Inv X pins σ (upd H a o) s := by
  have nit : ∀ b u, H b = some u → b ≠ a := fun b u e z => by rw [z, hn] at e; cases e
  refine ⟨I.ok, I.os, I.bare, ⟨I.base.keep, I.base.slot, fun b o e n hx => ?_, I.base.there, fun b xs e => ?_, fun b o xs e => ?_, fun b ps e => ?_⟩, I.loc, I.cell, ?_, fun x c e => ?_, fun p hp => ?_, fun b u e => ?_, I.len⟩
  · rw [upd_ne (fun z => by rw [z, h0] at e; cases e)]
    exact I.base.free b o e n hx
  · have q := I.base.tups b xs e
    rw [upd_ne (nit b _ q)]
    exact q
  · have q := I.base.frzs b o xs e
    rw [upd_ne (nit b _ q)]
    exact q
  · obtain ⟨m, q⟩ := I.base.tbls b ps e
    exact ⟨m, by rw [upd_ne (nit b _ q)]; exact q⟩
  · rw [upd_ne (Ne.symm hL)]
    exact I.free
  · rw [upd_ne (h2 x c e)]
    exact I.freeC x c e
  · obtain ⟨e, n, r⟩ := I.pin p hp
    exact ⟨e, by rw [upd_ne (h3 p hp)]; exact n, r⟩
  · by_cases hb : b = a
    · subst hb
      rw [upd_same] at e
      cases e
      exact new
    · rw [upd_ne hb] at e
      exact (I.hok b u e).stay (fun c v hc q => q) (fun c q => by rw [upd_ne (nit c _ q)]; exact q) fun c _ q => by rw [upd_ne (nit c _ q)]; exact q
end
/-- what a landed exception is: its object, where it does not lie -/
structure Landed (X : Cx) (pins : List (Addr × Obj)) (σ : St) (H : Hp) (a C : Addr) (d : Option Addr) (h : Heap) (s : Shared) : Prop where
  inv : Inv X pins σ H { s with heap := h }
  obj : ∃ vs sl, h.get? a = some ({ cls := .ref C, dict := d, data := .fields vs, slots := sl } : Obj)
  free : H a = none
  entry : X.s_0.heap.get? a = none
  loc : a ≠ X.env.locals
  fs : a ∉ X.fs
  pin : ∀ p ∈ X.pn ++ pins, p.1 ≠ a
theorem Landed.of {X : Cx} {pins : List (Addr × Obj)} {σ : St} {H : Hp} {a C : Addr} {d : Option Addr} {h B : Heap} {s sI : Shared} (hs : X.stack = X.env :: X.outer) (hf : X.env.frame = some X.env.locals) (hex : X.ex = []) (J : Inv X pins σ H sI) (na : H a = none)
    (nb : ∀ b o, sI.heap.get? b = some o → b ∉ frs X.stack → B.get? b = some o) (hB : B.get? a = none) (ff : h.FunFrames B (X.env :: X.outer)) (there : ∃ oe vs, h.get? a = some oe ∧ Zc (.ref C) d oe ∧ oe.data = .fields vs) (K : Inv X pins σ H { s with heap := h }) : Landed X pins σ H a C d h s := by
  obtain ⟨⟨oc, od, odt, osl⟩, ws, at_, ⟨z1, z2⟩, z3⟩ := there
  have off : a ∉ frs (X.env :: X.outer) := fun hm => by
    obtain ⟨_, u, hu, plain⟩ := ff.mem hm
    rw [at_] at hu
    exact plain ws (by rw [← Option.some.inj hu]; exact z3)
  have out : sI.heap.get? a = none := by
    cases q : sI.heap.get? a with
    | none => rfl
    | some o => exact absurd (nb a o q (by rw [hs]; exact off)) (by rw [hB]; simp)
  refine ⟨K, ⟨ws, osl, ?_⟩, na, ?_, fun z => off (List.mem_filterMap.mpr ⟨X.env, .head _, by rw [hf, z]⟩), fun hm => ?_, fun p hp z => ?_⟩
  · dsimp only at z1 z2 z3
    rw [at_, z1, z2, z3]
  · cases q : X.s_0.heap.get? a with
    | none => rfl
    | some o =>
      obtain ⟨_, q2⟩ := J.base.there a o q (by rw [hex]; simp)
      rw [out] at q2
      cases q2
  · obtain ⟨e, m, q⟩ := List.mem_filterMap.mp hm
    exact off (List.mem_filterMap.mpr ⟨e, .tail _ m, q⟩)
  · have q := (J.pin p hp).1
    rw [z, out] at q
    cases q
/-- what is wanted of an exception in the try: as wAs, but behind the suite the exception is known -/
def wAsK (K : PySem.W.Frag) (c : Value) (i : Nat) (ts : Addr → Value → Option Addr → TS) (Wout : WX) (D : Ends) : WX := fun cls d σ H => ∃ b C, cls = Value.ref C ∧ PySem.W.exmOne K cls c = some b ∧
  (b = true → ∀ a, H a = none → ts a cls d ⟨fun σ' H' => D.nx (σ'.set i none) (upd H' a (exg a C d)), D.rt, fun σ' H' => D.bk (σ'.set i none) H', fun σ' H' => D.ct (σ'.set i none) H'⟩ (σ.set i (some (.ref a))) H) ∧ (b = false → Wout cls d σ H)
section
variable {X : Cx} {x n : Str} {c : Value} {i : Nat} {body suite : List Stmt} {st : Stmt} {np pos hpos : Pos} {tb : WX → TS} {ts : Addr → Value → Option Addr → TS} {Wout : WX}
/-- the end of such a suite -/
theorem keep_end {pins : List (Addr × Obj)} {σ σ6 : St} {H H6 : Hp} {a C : Addr} {d : Option Addr} {h : Heap} {s s6 : Shared} {oe : Obj} {Q : Shared → Prop} (L : Landed X pins σ H a C d h s) (eo : h.get? a = some oe) (hN : X.N.Nodup) (hi : X.N[i]? = some n) (hln : X.env.kindOf n = some .local)
    (S : Inv (X.suite a ((a, oe) :: (X.pn ++ pins))) [] σ6 H6 s6) (q : ∀ s7, Inv X pins (σ6.set i none) (upd H6 a (exg a C d)) s7 → Q s7) : wpAny (model X.prog X.w) X.A (do bindName X.env n .none; unbindBehindTheSuite X.env n hpos) (fun _ s7 => Q s7) X.xe s6 := by
  obtain ⟨p1, p2, _⟩ := S.pin (a, oe) (List.mem_append_left _ (.head _))
  obtain ⟨ws, sl, e0⟩ := L.obj
  rw [eo] at e0
  have p3 : s6.heap.get? a = some oe := p1
  rw [Option.some.inj e0] at p3
  have U := S.unsuite L.inv.ok
  refine gone_ok (U.known (o := exg a C d) p2 L.entry L.loc (fun y k e z => ?_) L.pin (exg_ok p3)) hN hi hln q
  obtain ⟨_, _, w1, w2⟩ := U.cell y k e
  rw [z, p3] at w1
  rw [← Option.some.inj w1] at w2
  cases w2
/-- try: body / except x as n: suite -/
theorem ps_try_keep (hs : X.stack = X.env :: X.outer) (hf : X.env.frame = some X.env.locals) (hex : X.ex = []) (hN : X.N.Nodup) (hi : X.N[i]? = some n) (hln : X.env.kindOf n = some .local) (hc : Names X x c) (tk : Takes X Wout)
    (hb : ∀ (W : WX) (pn : List (Addr × Obj)) (xe : Value → Shared → Prop), Takes (X.tr pn xe) W → PassesOwn (model X.prog X.w) X.A X.env xe → PSs (X.tr pn xe) body (tb W))
    (hsu : ∀ (a : Addr) (oe : Obj) (cls : Value) (d : Option Addr) (pn : List (Addr × Obj)), Zc cls d oe → (∃ vs, oe.data = .fields vs) → PSs (X.suite a ((a, oe) :: pn)) (st :: suite) (ts a cls d)) :
    PS X (.Try body [.ExceptHandler (some (.Name x np)) (some n) (st :: suite) hpos] [] [] pos) (fun D σ H => tb (wAsK X.K c i ts Wout D) D σ H) := by
  constructor
  intro pins s σ H D I h
  refine wpAny_Try_except (wpAny_mono ((hb (wAsK X.K c i ts Wout D) (X.pn ++ pins) (fun e t1 => wpAny (model X.prog X.w) X.A (noteFrame e X.env) (fun _ t2 => wpAny (model X.prog X.w) X.A (setFlight e none) (fun _ t3 =>
    wpAny (model X.prog X.w) X.A (handleBy e X.env [.ExceptHandler (some (.Name x np)) (some n) (st :: suite) hpos]) (SP X pins D) X.xe t3) X.xe t2) X.xe t1) (fun u s' air => ?_) PassesOwn.looking).run [] s σ H D (I.toTry _) h) (fun f t1 ok => ?_) fun _ _ z => z)
  case refine_2 =>
    cases f with
    | next => exact let ⟨σ1, H1, K, q⟩ := ok; wpAny_execs_nil ⟨σ1, H1, K.ofTry I.ok, q⟩
    | brk => exact let ⟨σ1, H1, K, q⟩ := ok; ⟨σ1, H1, K.ofTry I.ok, q⟩
    | cont => exact let ⟨σ1, H1, K, q⟩ := ok; ⟨σ1, H1, K.ofTry I.ok, q⟩
    | ret u => exact let ⟨v, σ1, H1, K, rv, q⟩ := ok; ⟨v, σ1, H1, K.ofTry I.ok, rv, q⟩
  case refine_1 =>
    obtain ⟨a, B, sI, pins', σ', H', cls, d, rfl, J', nb, up, sky, na, os, ag, b, C, rfl, mb, yes, no⟩ := air
    have J := J'.ofTry I.ok
    rw [hs] at sky
    have hfr : X.A.frames = some (X.env :: X.outer) := I.ok.frames.trans (congrArg some hs)
    show wpAny (model X.prog X.w) X.A (noteFrame (.ref a) X.env) _ _ _
    refine Sky.land Zc.steady hfr hf sky fun hA flA upA => ?_
    have KA : Inv X pins σ' H' { s' with heap := hA } := J.landed nb flA.1 (up.trans upA) os ag
    obtain ⟨oA, wA, atA, zA, dA⟩ := flA.there
    have LA := Landed.of (s := s') hs hf hex J na nb flA.2.1 flA.2.2.1 ⟨oA, wA, atA, zA, dA⟩ KA
    have SA := KA.suite atA dA na LA.loc LA.fs
    refine wpAny_handleBy_cons (codeAny_handlers_test ?_) fun z => by cases z
    have ty : PySem.W.Looks (model X.prog X.w) hA (typeOf (.ref a)) (.ref C) := fun _ _ _ _ kk q => wpAny_typeOf_ref (kk _ _ atA) (by rw [zA.1]; exact q)
    have mk := PySem.W.exm_one (M := model X.prog X.w) KA.kIn ty mb
    have named : ∀ {Q E : Value → Shared → Prop}, Q c { s' with heap := hA } → wpAny (model X.prog X.w) (X.A.mark (some (.ref a))) (eval (.Name x np) X.env) Q E { s' with heap := hA } := fun q => by
      obtain ⟨g, gd, e | ⟨e, bt, nn⟩⟩ := hc
      · exact ld_glob SA g e q gd
      · exact ld_blt SA g e bt q nn gd
    refine named (mk.here ?_)
    match b, yes, no with
    | true, yes, _ =>
      refine codeAny_handlers_suite_as (HandSPX.lands_againZ flA fun hC flC upC => ?_)
      have KC : Inv X pins σ' H' { s' with heap := hC } := J.landed nb flC.1 ((up.trans upA).trans upC) os ag
      obtain ⟨oC, wC, atC, zC, dC⟩ := flC.there
      have LC := Landed.of (s := s') hs hf hex J na nb flC.2.1 flC.2.2.1 ⟨oC, wC, atC, zC, dC⟩ KC
      refine store_ok (X := X.suite a ((a, oC) :: (X.pn ++ pins))) (v := .ref a) (KC.suite atC dC na LC.loc LC.fs) hN hi (.inl hln) rfl (fun t5 S5 => ?_) (.inr hln)
      refine wpAny_mono ((hsu a oC _ d (X.pn ++ pins) zC ⟨_, dC⟩).run [] t5 _ H' _ S5 (yes rfl a na)) (fun f t6 e6 => ?_) fun _ _ z => z.elim
      have plain : ∀ {σ6 : St} {H6 : Hp} {Q : Shared → Prop}, Inv (X.suite a ((a, oC) :: (X.pn ++ pins))) [] σ6 H6 t6 → (∀ t7, Inv X pins (σ6.set i none) H6 t7 → Q t7) → wpAny (model X.prog X.w) X.A (do bindName X.env n .none; unbindBehindTheSuite X.env n hpos) (fun _ t7 => Q t7) X.xe t6 :=
        fun S q => gone_ok (S.unsuite I.ok) hN hi hln q
      cases f with
      | next => exact let ⟨σ6, H6, S6, q6⟩ := e6; keep_end LC atC hN hi hln S6 fun t7 K7 => ⟨_, _, K7, q6⟩
      | brk => exact let ⟨σ6, H6, S6, q6⟩ := e6; plain S6 fun t7 K7 => ⟨_, _, K7, q6⟩
      | cont => exact let ⟨σ6, H6, S6, q6⟩ := e6; plain S6 fun t7 K7 => ⟨_, _, K7, q6⟩
      | ret u => exact let ⟨v6, σ6, H6, S6, r6, q6⟩ := e6; plain S6 fun t7 K7 => ⟨_, _, _, K7, r6, q6⟩
    | false, _, no =>
      show wpAny _ X.A (handleBy (.ref a) X.env []) _ _ _
      refine wpAny_handleBy_nil ?_
      obtain ⟨oe, vs, tb1, _, _, e1, _, e2, e3, _⟩ := flA.2.2.2
      unfold PySem.passOn
      refine wpAny_bind (wpAny_field e1 e2 e3 ?_)
      rw [if_neg (by simp)]
      have fly : wpAny (model X.prog X.w) X.A (setFlight (.ref a) X.env.frame) (fun _ t4 => wpAny (model X.prog X.w) X.A (throw (.ref a) : Sem Flow) (SP X pins D) X.xe t4) X.xe { s' with heap := hA } := by
        rw [hf]
        exact HandSPX.setFlight_upZ flA fun hD held upD => wpAny_throw (tk _ _ ⟨a, B, sI, pins, σ', H', .ref C, d, rfl, J, nb, (up.trans upA).trans upD, .inr (.inr (by rw [hs]; exact held)), na, os, ag, no rfl⟩)
      first | exact wpAny_bind (wpAny_pure (wpAny_bind fly)) | exact wpAny_bind fly
end
end L2


/-! raise C(..) where C's own __init__ writes no attribute -/
namespace L2
open PySem PySem.Spec PyProof.Rows
section
variable {X : Cx} {o e : Expr} {es : List Expr} {to te : TE} {ta : TA} {f : Str} {p p' p1 p2 pos : Pos}
/-- C(e, ..), C's own __init__ keeping sp; no attribute is written -/
def tMkO0 (C : Addr) (sp : Sp) (dvs : List V) (ta : TA) : St → Hp → XK → Prop := fun σ H Q => ta σ H fun vs H1 => vs.length ≤ 1000 ∧ ∀ a, H1 a = none → sp (.ref a :: (vs ++ dvs)) (upd H1 a (exo a C none))
  (fun v H2 => v = .non ∧ H2 a = some (exo a C none) ∧ Q (.ref C) none (del H2 a)) (fun _ _ _ => False)
variable {CX : CXT} {x : Str} {C fI : Addr} {k : Nat} {fd : FuncData} {ps : List Str} {sp : Sp} {ds : List Value} {dvs : List V}
end
end L2


/-! sorted(a dict of texts, key=a lambda of one parameter that gives (int, text)) -/
namespace SrtKy
open PySem PyProof.Rows Srt SrtO
/-- a tuple of a number and a text -/
def IsIS (h : Heap) (v : Value) (x : Int) (z : Str) : Prop := ∃ a o t u n, v = .ref a ∧ h.get? a = some o ∧ o.cls = .type "tuple" ∧ o.data = .seq #[.int x t, .str z u] n
theorem IsIS.keeps {h h' : Heap} {v : Value} {x : Int} {z : Str} (p : IsIS h v x z) (k : ∀ b o, h.get? b = some o → o.cls = .type "tuple" → h'.get? b = some o) : IsIS h' v x z := by
  obtain ⟨a, o, t, u, n, e, ho, hc, hd⟩ := p
  exact ⟨a, o, t, u, n, e, k _ _ ho hc, hc, hd⟩
def isLt (p q : Int × Str) : Bool := if p.1 = q.1 then decide (p.2.cps.toList < q.2.cps.toList) else decide (p.1 < q.1)
section
variable {prog : Program} {w : World} {s : Shared} {A : Around} {E : Value → Shared → Prop}
end
end SrtKy


namespace L2
open PySem PySem.Spec PyProof.Rows
section
variable {X : Cx} {pins : List (Addr × Obj)} {σ : St} {H : Hp} {s : Shared} {h' : Heap}
end
/-- what the keys of the first items are -/
def KysAt (H : Hp) (key : V → Int × Str) (xs : List V) (kA : List Value) : Prop := ∀ (j : Nat) (kv : Value), kA[j]? = some kv → ∃ (t : Addr) (x : V), kv = Value.ref t ∧ xs[j]? = some x ∧ H t = some (.tup [.int (key x).1, .str (key x).2])
theorem KysAt.up {H H' : Hp} {key : V → Int × Str} {xs : List V} {kA : List Value} (h : KysAt H key xs kA) (t : ∀ b ys, H b = some (.tup ys) → H' b = some (.tup ys)) : KysAt H' key xs kA := fun j kv e => by
  obtain ⟨a, x, e1, e2, e3⟩ := h j kv e
  exact ⟨a, x, e1, e2, t _ _ e3⟩
/-- the key that stands at an address -/
def keyOfL (H : Hp) : Value → Int × Str
  | .ref t => match H t with
    | some (.tup [.int n, .str z]) => (n, z)
    | _ => (0, "")
  | _ => (0, "")
theorem keyOfL_at {H : Hp} {t : Addr} {n : Int} {z : Str} (h : H t = some (.tup [.int n, .str z])) : keyOfL H (.ref t) = (n, z) := by
  show (match H t with
    | some (.tup [.int n, .str z]) => (n, z)
    | _ => ((0 : Int), ("" : Str))) = (n, z)
  rw [h]
theorem KysAt.is {X : Cx} {pins : List (Addr × Obj)} {σ : St} {H : Hp} {s : Shared} {key : V → Int × Str} {xs : List V} {kA : List Value} (I : Inv X pins σ H s) (h : KysAt H key xs kA) : ∀ v ∈ kA, SrtKy.IsIS s.heap v (keyOfL H v).1 (keyOfL H v).2 := fun v hv => by
  obtain ⟨j, hj⟩ := List.mem_iff_getElem?.mp hv
  obtain ⟨t, x, rfl, _, e⟩ := h j v hj
  rw [keyOfL_at e]
  obtain ⟨_, its, r, o, ho, hc, n, hd⟩ := I.hok _ _ e
  obtain ⟨u1, u2, rfl, ri, rj⟩ := vals2 r
  obtain ⟨t1, rfl⟩ := ri
  obtain ⟨t2, rfl⟩ := rj
  exact ⟨t, o, t1, t2, n, rfl, ho, hc, hd⟩
section
variable {X : Cx} {pins : List (Addr × Obj)} {σ : St} {H : Hp} {s : Shared}
end
end L2


namespace L2
open PySem PySem.Spec PyProof.Rows LamX NdefX
/-- all that was told stays -/
def HKeep (H H' : Hp) : Prop := ∀ b o, H b = some o → H' b = some o
/-- the lambda as a function of the layer (its body is an expression: none of the statements' field is read) -/
def lamF (X : Cx) (params : Arguments) (scope : Scope) (c' : Addr) : NF := ⟨"<lambda>", X.env.qual ++ "<lambda>", params, [], scope, cloFrom X.env.cells scope.names [], c'⟩
/-- sorted(e, key=lambda ..): js: where the captured names stand among ours -/
def tSortLam (T : List (Addr × Str)) (q : Str) (N : List Str) (js : List Nat) (ta : TA) (tb : TE) : TE := fun σ H Q => ta σ H fun vs H1 => ∃ x : V, vs = [x] ∧ Tabs T H1 ∧ ∀ (c' : Addr) (H2 : Hp), ExtN H1 H2 → Tabs T H2 → H2 c' = some (CodeO c' q) →
  ∃ (a : Addr) (kvs : List (Key × V)) (ks : List Str) (key : Str → Int × Str), x = .ref a ∧ Rd H2 a (.dK kvs) ∧ kvs.map (·.1) = ks.map Sum.inr ∧ ks.length ≤ sizeLine ∧
    (∀ k ∈ ks, ∀ H, HKeep H2 H → tb (startF N [.str k] (js.map (NdefX.slotAt σ))) H fun v H3 => HKeep H H3 ∧ ∃ t, v = .ref t ∧ H3 t = some (.tup [.int (key k).1, .str (key k).2])) ∧
    ∀ (ys : List Str) (H3 : Hp) (p : Addr), ys.Perm ks → ys.Pairwise (fun x y => SrtKy.isLt (key y) (key x) = false) → HKeep H2 H3 → H3 p = none → Q (.ref p) (upd H3 p (.lst (ys.map V.str)))
section
variable {X : Cx}
end
end L2


/-! heaps, lists, texts: what all the laws' proofs share. -/
namespace FT
open PySem L2 TL
abbrev Same (H H' : Hp) : Prop := ∀ b o, H b = some o → H' b = some o
theorem Same.refl {H : Hp} : Same H H := fun _ _ e => e
theorem Same.trans {H H1 H2 : Hp} (a : Same H H1) (b : Same H1 H2) : Same H H2 := fun x o e => b x o (a x o e)
theorem Same.free {H H' : Hp} {p : Addr} (s : Same H H') (n : H' p = none) : H p = none := by
  cases e : H p with
  | none => rfl
  | some o =>
    rw [s p o e] at n
    cases n
theorem Same.sql {K : PySem.W.Frag} {H H' : Hp} {a : Addr} {xs : List V} (e : Same H H') (h : SqL K H a xs) : SqL K H' a xs := by
  rcases h with (h | ⟨o, h⟩) | h
  · exact .inl (.inl (e _ _ h))
  · exact .inl (.inr ⟨o, e _ _ h⟩)
  · exact .inr h
theorem Same.sqt {K : PySem.W.Frag} {H H' : Hp} {a : Addr} {xs : List V} (e : Same H H') (h : SqT K H a xs) : SqT K H' a xs := by
  rcases h with (h | ⟨o, h⟩) | h
  · exact .inl (.inl (e _ _ h))
  · exact .inl (.inr ⟨o, e _ _ h⟩)
  · exact .inr h
theorem same_new {H : Hp} {p : Addr} {o : HO} (n : H p = none) : Same H (upd H p o) := fun b u e => by
  rw [upd_ne (ne_of_none e n)]
  exact e
theorem Same.put {H H' : Hp} {p : Addr} {o : HO} (s : Same H H') (n : H p = none) : Same H (upd H' p o) := fun b u e => by
  rw [upd_ne (ne_of_none e n)]
  exact s b u e
/-- what the text finds among the module's names -/
structure Nm (mg : Str → Option Value) : Prop where
  abs : mg "abs" = none
  len : mg "len" = none
  rng : mg "range" = none
  enu : mg "enumerate" = none
  zip : mg "zip" = none
  isi : mg "isinstance" = none
  all : mg "all" = none
  srt : mg "sorted" = none
  lst : mg "list" = none
  dct : mg "dict" = none
  str : mg "str" = none
  int : mg "int" = none
  tup : mg "tuple" = none
  sum : mg "sum" = none
  min : mg "min" = none
  max : mg "max" = none
  rep : mg "repr" = none
  bool : mg "bool" = none
  any : mg "any" = none
  vE : mg "ValueError" = none
theorem take_more {α : Type} {l : List α} {i : Nat} {x : α} (h : l[i]? = some x) : l.take (i + 1) = l.take i ++ [x] := by
  rw [List.take_succ, h] <;> rfl
theorem cut_ints (ns : List Int) (lo hi : Option Int) : ∃ ms : List Int, cutV (ns.map V.int) lo hi = ms.map V.int ∧ ms.length ≤ ns.length := by
  unfold cutV
  generalize HT.sIx (ns.map V.int).length 0 lo = i
  generalize HT.sIx (ns.map V.int).length (ns.map V.int).length hi = j
  refine ⟨(ns.drop i).take (j - i), by rw [List.map_take, List.map_drop], ?_⟩
  rw [List.length_take, List.length_drop]
  omega
theorem cut_take {xs : List V} {j : Nat} (h : j ≤ xs.length) : cutV xs none (some (j : Int)) = xs.take j := by
  have e : HT.sIx xs.length xs.length (some (j : Int)) = min j xs.length := HT.sIx_nat _ _ j
  show (xs.drop 0).take (HT.sIx xs.length xs.length (some (j : Int)) - 0) = xs.take j
  rw [e, List.drop_zero, Nat.sub_zero, Nat.min_eq_left h]
theorem map_at {α : Type} {f : α → V} {cells : List α} {j : Nat} {z : α} (h : cells[j]? = some z) : (cells.map f)[j]? = some (f z) := by
  rw [List.getElem?_map, h] <;> rfl
theorem map_of {α : Type} {f : α → V} {l : List α} {j : Nat} {x : V} (h : (l.map f)[j]? = some x) : ∃ z, l[j]? = some z ∧ x = f z := by
  rw [List.getElem?_map] at h
  obtain ⟨z, hz, rfl⟩ := Option.map_eq_some_iff.mp h
  exact ⟨z, hz, rfl⟩
theorem ixN_nat {n j : Nat} (h : j < n) : ixN n (j : Int) = some j := by
  unfold ixN
  rw [if_pos (by omega), if_pos (by omega)]
  simp
/-- how many items stand there -/
def many (H : Hp) (a : Addr) : Nat := match H a with
  | some (.lst xs) => xs.length
  | _ => 0
theorem items_strs {Pz : Str → Prop} {ws : List Str} (h : ∀ z ∈ ws, Pz z) : ∀ (i : Nat) (x : V), (ws.map V.str)[i]? = some x → ∃ z, x = .str z ∧ Pz z := fun i x e => by
  obtain ⟨z, hz, rfl⟩ := map_of e
  exact ⟨z, rfl, h z (List.mem_of_getElem? hz)⟩
theorem items_ints {Pz : Int → Prop} {ws : List Int} (h : ∀ z ∈ ws, Pz z) : ∀ (i : Nat) (x : V), (ws.map V.int)[i]? = some x → ∃ z, x = .int z ∧ Pz z := fun i x e => by
  obtain ⟨z, hz, rfl⟩ := map_of e
  exact ⟨z, rfl, h z (List.mem_of_getElem? hz)⟩
theorem inV_strs (x : Str) : ∀ fs : List Str, inV (.str x) (fs.map V.str) = decide (x ∈ fs)
  | [] => rfl
  | y :: fs => by
    show (eqV (.str y) (.str x) || inV (.str x) (fs.map V.str)) = _
    rw [inV_strs x fs]
    have e : eqV (.str y) (.str x) = decide (x = y) := by
      show (y == x) = decide (x = y)
      rw [Bool.eq_iff_iff, beq_iff_eq, decide_eq_true_eq]
      exact eq_comm
    rw [e, Bool.eq_iff_iff]
    simp only [Bool.or_eq_true, decide_eq_true_eq, List.mem_cons]
theorem flat_strs : ∀ fs : List Str, (fs.map V.str).all flatV = true
  | [] => rfl
  | _ :: fs => flat_strs fs
/-! ### texts -/
/-- a name: letters, one to eight, not self -/
def NameL (z : Str) : Prop := (∀ c ∈ tl z, 97 ≤ c ∧ c ≤ 122) ∧ 1 ≤ (tl z).length ∧ (tl z).length ≤ 8 ∧ z ≠ "self"
instance (z : Str) : Decidable (NameL z) := by unfold NameL; infer_instance
theorem NameL.len {z : Str} (h : NameL z) : 1 ≤ z.length ∧ z.length ≤ 8 := by
  rw [len_tl]
  exact ⟨h.2.1, h.2.2.1⟩
theorem NameL.self {z : Str} (h : NameL z) : z ≠ "self" := h.2.2.2
theorem NameL.ne {z : Str} (h : NameL z) : z ≠ "" := fun e => by
  subst e
  have := h.2.1
  revert this
  decide +kernel
theorem strOk_name {z : Str} (h : NameL z) : PyData.strOk z = true := by
  unfold PyData.strOk
  simp only [Bool.and_eq_true, decide_eq_true_eq, Array.all_eq_true_iff_forall_mem]
  intro c hc
  have := h.1 c (Array.mem_toList_iff.mpr hc)
  omega
theorem strOk_root : PyData.strOk "" = true := by decide +kernel
/-! ### order -/
theorem rising_all : ∀ (l : List Str) (p : Str), PyProof.Rows.risingS p l = true → (∀ y ∈ l, tl p ≤ tl y) ∧ l.Pairwise (fun a b => tl a ≤ tl b)
  | [], p, _ => ⟨fun y h => (by cases h), List.Pairwise.nil⟩
  | x :: r, p, h => by
    have h' : (!PySem.Spec.ltCps x.cps.toList p.cps.toList && PyProof.Rows.risingS x r) = true := h
    rw [Bool.and_eq_true, PyProof.Rows.ltCps_eq] at h'
    obtain ⟨h1, h2⟩ := h'
    have px : tl p ≤ tl x := by
      show ¬ (tl x < tl p)
      intro z
      rw [decide_eq_true z] at h1
      cases h1
    obtain ⟨i1, i2⟩ := rising_all r x h2
    refine ⟨fun y hy => ?_, List.pairwise_cons.mpr ⟨i1, i2⟩⟩
    rcases List.mem_cons.mp hy with rfl | hy
    · exact px
    · exact List.le_trans px (i1 y hy)
theorem sorted_pw {l : List Str} (h : PyProof.Rows.sortedS l = true) : l.Pairwise (fun a b => tl a ≤ tl b) := by
  cases l with
  | nil => exact .nil
  | cons x r =>
    obtain ⟨i1, i2⟩ := rising_all r x h
    exact List.pairwise_cons.mpr ⟨i1, i2⟩
/-- one order of the same texts -/
theorem sorted_one {l m : List Str} (p : l.Perm m) (hl : PyProof.Rows.sortedS l = true) (hm : PyProof.Rows.sortedS m = true) : l = m :=
  List.Perm.eq_of_pairwise (le := fun a b => tl a ≤ tl b) (fun a b _ _ h1 h2 => ext_tl (List.le_antisymm h1 h2)) (sorted_pw hl) (sorted_pw hm) p
/-! ### comprehensions of dicts, locks -/
/-- a dict comprehension over a walk: Pv by the turn and the heap (the new dict at D within) -/
theorem dc_it {J : It} {n : Nat} {G : Hp → Prop} {Y : Nat → Hp → V → Hp → Prop} (w : Walk J n G Y) {g : TG} {tt : TT} {tk tv : TE} {vs : List Nat} {σ : St} {H1 : Hp} {D : Addr} {Qd : Hp → Prop} (Pv : Nat → Hp → Prop) (h0 : Pv 0 (upd H1 D (.dK []))) (hG : ∀ i H, i ≤ n → Pv i H → G H)
    (hs : ∀ i x H H', i < n → Pv i H → Y i H x H' → g x (wipe σ vs) H' fun σ2 H2 => wipe σ2 vs = wipe σ vs ∧ tt σ2 H2 fun b H3 =>
      if b = true then tk σ2 H3 fun y H4 => tv σ2 H4 fun z H5 => ∃ kvs k, y = kV k ∧ H5 D = some (.dK kvs) ∧ kvs.length < sizeLine ∧ Pv (i + 1) (upd H5 D (.dK (putK kvs k z))) else Pv (i + 1) H3) (hd : ∀ H, Pv n H → Qd H) :
    ∃ W : Nat → Nat → Hp → Prop, (∃ m, W 0 m (upd H1 D (.dK []))) ∧ ∀ i m H, W i m H →
      (J.stop i H ∧ Qd H) ∨ (J.go i H ∧ ∃ Nx : Hp → Prop, (∀ H', Nx H' → ∃ m', m' < m ∧ W (i + 1) m' H') ∧ ∀ x H', J.yld i H x H' → g x (wipe σ vs) H' fun σ2 H2 => wipe σ2 vs = wipe σ vs ∧ tt σ2 H2 fun b H3 =>
        if b = true then tk σ2 H3 fun y H4 => tv σ2 H4 fun z H5 => ∃ kvs k, y = kV k ∧ H5 D = some (.dK kvs) ∧ kvs.length < sizeLine ∧ Nx (upd H5 D (.dK (putK kvs k z))) else Nx H3) := by
  refine ⟨fun i m H => m = n - i ∧ i ≤ n ∧ Pv i H, ⟨n, by simp, Nat.zero_le _, h0⟩, fun i m H ⟨em, hi, p⟩ => ?_⟩
  have gh := hG i H hi p
  rcases Nat.lt_or_ge i n with lt | ge
  · exact .inr ⟨w.goes i H lt gh, Pv (i + 1), fun H' p' => ⟨n - (i + 1), by omega, rfl, lt, p'⟩, fun x H' y => hs i x H H' lt p (w.yields i H x H' lt gh y)⟩
  · have ei : i = n := by omega
    subst ei
    exact .inl ⟨w.stops H gh, hd H p⟩
theorem unlock_same {H H' : Hp} {q : Addr} {u : HO} {o : Obj} (e : H q = some u) (s : Same (upd H q (.frz o u)) H') : Same H (upd H' q u) := fun b x h => by
  by_cases z : b = q
  · subst z
    rw [upd_same]
    exact e.symm.trans h |>.symm ▸ rfl
  · rw [upd_ne z]
    exact s b x (by rw [upd_ne z]; exact h)
/-! ### dicts with text keys, by any values -/
/-- a dict of values by texts -/
def kvT (t : List (Str × V)) : List (Key × V) := t.map fun p => (Sum.inr p.1, p.2)
theorem kvT_len (t : List (Str × V)) : (kvT t).length = t.length := by unfold kvT; rw [List.length_map]
theorem kvT_app (t : List (Str × V)) (f : Str) (z : V) : kvT t ++ [(Sum.inr f, z)] = kvT (t ++ [(f, z)]) := by
  unfold kvT
  rw [List.map_append] <;> rfl
theorem kvT_any (t : List (Str × V)) (f : Str) : ((kvT t).any fun kv => decide (kv.1 = Sum.inr f)) = decide (f ∈ t.map Prod.fst) := by
  induction t with
  | nil => rfl
  | cons p t ih =>
    show (decide ((Sum.inr p.1 : Key) = Sum.inr f) || ((kvT t).any fun kv => decide (kv.1 = Sum.inr f))) = _
    rw [ih, Bool.eq_iff_iff]
    simp only [Bool.or_eq_true, decide_eq_true_eq, List.map_cons, List.mem_cons]
    constructor
    · rintro (h | h)
      · exact .inl (Sum.inr.inj h).symm
      · exact .inr h
    · rintro (h | h)
      · exact .inl (by rw [h])
      · exact .inr h
theorem kvT_put {t : List (Str × V)} {f : Str} {z : V} (n : f ∉ t.map Prod.fst) : putK (kvT t) (Sum.inr f) z = kvT (t ++ [(f, z)]) := by
  unfold putK
  rw [kvT_any, decide_eq_false n, if_neg (by decide), kvT_app]
/-- the value of a key -/
def look (t : List (Str × V)) (f : Str) : Option V := (t.find? fun p => decide (p.1 = f)).map Prod.snd
theorem look_cons (p : Str × V) (t : List (Str × V)) (f : Str) : look (p :: t) f = if p.1 = f then some p.2 else look t f := by
  unfold look
  rw [List.find?_cons]
  by_cases e : p.1 = f
  · rw [if_pos e, decide_eq_true e] <;> rfl
  · rw [if_neg e, decide_eq_false e]
theorem kvT_val : ∀ (t : List (Str × V)) (f : Str), valV (kvT t) (Sum.inr f) = look t f
  | [], f => rfl
  | p :: t, f => by
    rw [look_cons]
    by_cases e : p.1 = f
    · rw [if_pos e]
      exact valV_pos (by show (Sum.inr p.1 : Key) = Sum.inr f; rw [e])
    · rw [if_neg e]
      exact (valV_neg (p := (Sum.inr p.1, p.2)) (fun z => e (Sum.inr.inj z))).trans (kvT_val t f)
theorem look_none {t : List (Str × V)} {f : Str} (n : f ∉ t.map Prod.fst) : look t f = none := by
  induction t with
  | nil => rfl
  | cons p t ih =>
    rw [List.map_cons, List.mem_cons] at n
    rw [look_cons, if_neg (fun e => n (.inl e.symm))]
    exact ih fun m => n (.inr m)
theorem look_some {t : List (Str × V)} {f : Str} (h : f ∈ t.map Prod.fst) : ∃ v, look t f = some v := by
  induction t with
  | nil => cases h
  | cons p t ih =>
    rw [look_cons]
    by_cases e : p.1 = f
    · exact ⟨_, if_pos e⟩
    · rw [if_neg e]
      exact ih ((List.mem_cons.mp h).resolve_left fun z => e z.symm)
theorem look_has {t : List (Str × V)} {f : Str} : (look t f).isSome = decide (f ∈ t.map Prod.fst) := by
  by_cases h : f ∈ t.map Prod.fst
  · obtain ⟨v, e⟩ := look_some h
    rw [e, decide_eq_true h] <;> rfl
  · rw [look_none h, decide_eq_false h] <;> rfl
/-- a key's value, written anew -/
def putT (t : List (Str × V)) (f : Str) (z : V) : List (Str × V) := if f ∈ t.map Prod.fst then t.map fun p => if p.1 = f then (p.1, z) else p else t ++ [(f, z)]
end FT


/-! forests as pairs of a flag and its parent, in any order. -/
namespace FT
open PySem L2 TL
/-- a dict of texts by texts -/
def prs (t : List (Str × Str)) : List (Key × V) := kvT (t.map fun p => (p.1, V.str p.2))
theorem prs_len (t : List (Str × Str)) : (prs t).length = t.length := by unfold prs; rw [kvT_len, List.length_map]
theorem prs_fst (t : List (Str × Str)) : (t.map fun p => (p.1, V.str p.2)).map Prod.fst = t.map Prod.fst := by rw [List.map_map] <;> rfl
theorem prs_keys (t : List (Str × Str)) : (prs t).map (·.1) = (t.map Prod.fst).map Sum.inr := by unfold prs kvT; rw [List.map_map, List.map_map, List.map_map] <;> rfl
theorem keys_prs (t : List (Str × Str)) : ((prs t).map fun kv => kV kv.1) = (t.map Prod.fst).map V.str := by
  unfold prs kvT
  rw [List.map_map, List.map_map, List.map_map] <;> rfl
theorem put_new {t : List (Str × Str)} {f z : Str} (n : f ∉ t.map Prod.fst) : putK (prs t) (Sum.inr f) (V.str z) = prs (t ++ [(f, z)]) := by
  unfold prs
  rw [kvT_put (by rw [prs_fst]; exact n), List.map_append] <;> rfl
/-- the parent of a flag -/
def par (t : List (Str × Str)) (a : Str) : Option Str := (t.find? fun p => decide (p.1 = a)).map Prod.snd
theorem par_cons (p : Str × Str) (t : List (Str × Str)) (a : Str) : par (p :: t) a = if p.1 = a then some p.2 else par t a := by
  unfold par
  rw [List.find?_cons]
  by_cases e : p.1 = a
  · rw [if_pos e, decide_eq_true e] <;> rfl
  · rw [if_neg e, decide_eq_false e]
theorem val_prs (a : Str) : ∀ t : List (Str × Str), valV (prs t) (Sum.inr a) = (par t a).map V.str
  | [] => rfl
  | p :: t => by
    have ih := val_prs a t
    unfold prs at ih ⊢
    rw [List.map_cons, kvT_val, look_cons, par_cons]
    rw [kvT_val] at ih
    by_cases e : p.1 = a
    · rw [if_pos e, if_pos e] <;> rfl
    · rw [if_neg e, if_neg e, ih]
theorem par_mem {t : List (Str × Str)} {a z : Str} (h : par t a = some z) : (a, z) ∈ t := by
  induction t with
  | nil => cases h
  | cons p t ih =>
    rw [par_cons] at h
    by_cases e : p.1 = a
    · rw [if_pos e] at h
      cases h
      exact List.mem_cons.mpr (.inl (by rw [← e]))
    · rw [if_neg e] at h
      exact List.mem_cons_of_mem _ (ih h)
theorem par_of {t : List (Str × Str)} {a z : Str} (nd : (t.map Prod.fst).Nodup) (h : (a, z) ∈ t) : par t a = some z := by
  induction t with
  | nil => cases h
  | cons p t ih =>
    obtain ⟨n1, n2⟩ := List.nodup_cons.mp nd
    rw [par_cons]
    rcases List.mem_cons.mp h with e | h
    · subst e
      exact if_pos rfl
    · rw [if_neg fun e => n1 (by rw [e]; exact List.mem_map.mpr ⟨_, h, rfl⟩)]
      exact ih n2 h
theorem par_none {t : List (Str × Str)} {a : Str} (n : a ∉ t.map Prod.fst) : par t a = none := by
  cases e : par t a with
  | none => rfl
  | some z => exact absurd (List.mem_map.mpr ⟨_, par_mem e, rfl⟩) n
theorem par_some {t : List (Str × Str)} {a : Str} (nd : (t.map Prod.fst).Nodup) (h : a ∈ t.map Prod.fst) : ∃ z, par t a = some z := by
  obtain ⟨p, hp, rfl⟩ := List.mem_map.mp h
  exact ⟨p.2, par_of nd hp⟩
/-- each parent has a lower rank -/
def Rk (t : List (Str × Str)) (rk : Str → Nat) : Prop := ∀ p ∈ t, rk p.1 < t.length ∧ (p.2 = "" ∨ (p.2 ∈ t.map Prod.fst ∧ rk p.2 < rk p.1))
/-- a forest of one to twelve flags -/
structure TreeOk (t : List (Str × Str)) : Prop where
  one : 1 ≤ t.length
  few : t.length ≤ 12
  nd : (t.map Prod.fst).Nodup
  nm : ∀ z ∈ t.map Prod.fst, NameL z
  up : ∃ rk : Str → Nat, Rk t rk
theorem TreeOk.perm {t u : List (Str × Str)} (p : t.Perm u) (o : TreeOk t) : TreeOk u := by
  obtain ⟨rk, hr⟩ := o.up
  have l := p.length_eq
  refine ⟨by have := o.one; omega, by have := o.few; omega, (p.map _).nodup_iff.mp o.nd, fun z h => o.nm z ((p.map _).mem_iff.mpr h), rk, fun q hq => ?_⟩
  obtain ⟨h1, h2⟩ := hr q (p.mem_iff.mpr hq)
  exact ⟨by omega, h2.imp id fun h => ⟨(p.map _).mem_iff.mp h.1, h.2⟩⟩
theorem TreeOk.root {t : List (Str × Str)} (o : TreeOk t) : ("" : Str) ∉ t.map Prod.fst := fun h => (o.nm _ h).ne rfl
/-- the step up -/
theorem TreeOk.step {t : List (Str × Str)} (o : TreeOk t) {rk : Str → Nat} (r : Rk t rk) {a : Str} (h : a ∈ t.map Prod.fst) : ∃ p : Str, par t a = some p ∧ (p = "" ∨ (p ∈ t.map Prod.fst ∧ rk p < rk a)) ∧ rk a < t.length := by
  obtain ⟨z, hz⟩ := par_some o.nd h
  obtain ⟨h1, h2⟩ := r _ (par_mem hz)
  exact ⟨z, hz, h2, h1⟩
/-! ### paths -/
/-- the flags from the top down to a place; n bounds the steps -/
def upN (t : List (Str × Str)) : Nat → Str → List Str
  | 0, _ => []
  | n + 1, a => if a = "" then [] else upN t n ((par t a).getD "") ++ [a]
def pathOf (t : List (Str × Str)) (a : Str) : List Str := upN t t.length a
/-- a place: the root or a flag -/
def Pl (t : List (Str × Str)) (a : Str) : Prop := a = "" ∨ a ∈ t.map Prod.fst
/-! ### sums over children -/
/-- the sum of sizes of the children of a place -/
def kids (t : List (Str × Str)) (p : Str) : List Str := (t.filter fun q => decide (q.2 = p)).map Prod.fst
def resid (t : List (Str × Str)) (n : Int) (sz : Str → Int) (p : Str) : Int := (if p = "" then n else sz p) - ((kids t p).map sz).sum
end FT


namespace FT
open PySem L2 TL ClX
def letters : Str := "abcdefghijklmnopqrstuvwxyz"
theorem in_letters {c : Nat} (h0 : 97 ≤ c) (h1 : c ≤ 122) : c ∈ letters.cps.toList := by
  have all : ∀ i : Fin 26, (97 + i.1) ∈ letters.cps.toList := by decide +kernel
  have q := all ⟨c - 97, by omega⟩
  rw [show 97 + (⟨c - 97, by omega⟩ : Fin 26).1 = c by show 97 + (c - 97) = c; omega] at q
  exact q
/-- the module's own constants -/
structure Cs (mg : Str → Option Value) : Prop where
  long : ∃ t, mg "LONGEST" = some (.int 8 t)
  lett : ∃ t, mg "LETTERS" = some (.str letters t)
/-- the class Forest: its two constants -/
structure Fc (K : PySem.W.Frag) (mg : Str → Option Value) (CF : Addr) (mc : Value) : Prop where
  gF : mg "Forest" = some (.ref CF)
  rd : CRead K CF mc
  most : ∃ u, CVal K CF mc "MOST" (.int 12) u
  root : ∃ u, CVal K CF mc "ROOT" (.str "") u
/-- one of the text's defs, called by place -/
structure Dn (P : Program) (w : World) (K : PySem.W.Frag) (mg : Str → Option Value) (base : Heap) (CX : CXT) (k : Nat) (x : Str) (ps : List Str) (sp : Sp) (f : Addr) (fd : FuncData) : Prop where
  ok : FnOk P w K mg base CX k f fd ps sp
  kp : PySem.W.keepIn K (.ref f) = true
  bn : Binds K fd ps []
  mgn : mg x = some (.ref f)
def spIsName : Sp := fun vs H Q _ => ∃ z : Str, vs = [.str z] ∧ NameL z ∧ ∀ H', Same H H' → Q (.bl true) H'
def spIsAnc : Sp := fun vs H Q _ => ∃ (q : Addr) (f : Str) (t : List (Str × Str)), vs = [.ref q, .str f] ∧ H q = some (.dK (prs t)) ∧ TreeOk t ∧ f ∈ t.map Prod.fst ∧ ∀ H', Same H H' → Q (.bl false) H'
def spNeed : Sp := fun vs H Q _ => ∃ (q : Addr) (t : List (Str × Str)), vs = [.ref q] ∧ H q = some (.dK (prs t)) ∧ TreeOk t ∧ ∀ H', Same H H' → Q .non H'
section
variable {P : Program} {w : World} {K : PySem.W.Frag} {mg : Str → Option Value} {base : Heap}
theorem scIsName : FnScope ["value", "letter"] ["value"] (defScope s_is_name) := ⟨rfl, rfl, rfl, by decide +kernel, rfl, by decide +kernel, by decide +kernel⟩
theorem ok_isName {f : Addr} {fd : FuncData} (F : Fun K "is_name" "is_name" s_is_name f fd) (T : Nm mg) (C : Cs mg) : FnOk P w K mg base CX0 1 f fd ["value"] spIsName := by
  obtain ⟨t1, g1⟩ := C.long
  obtain ⟨t2, g2⟩ := C.lett
  refine F.ok scIsName (fun vs H Q E h => ?_) (fun cdv A outer s H vs Q E hr h => ?_)
  · obtain ⟨z, rfl, _⟩ := h
    rfl
  · obtain ⟨z, rfl, nm, k⟩ := h
    refine ⟨_, pss_cons (ps_if (PW.pt (pw_or (pt_not (pt_val (pe_callB call_isi (by rfl) T.isi (by decide +kernel) (pa_cons (pv 0) (pa_cons (pe_bltn (v := .ty "str") (u := .type "str") (by rfl) T.str (by decide +kernel) rfl) pa_nil)))))
        (pw_or (pt_not (pt_chain op_le op_le pe_int (pe_callB call_len_str (by rfl) T.len PySem.boot_len (pa_cons (pv 0) pa_nil)) (pe_glob (v := .int 8) (by rfl) g1 ⟨_, rfl⟩))) (pw_or1 (pt_cmpR op_eq (pv 0) pe_str (nomark _))))))
        (pss_one (ps_ret pe_bl)) pss_nil)
      (pss_one (ps_ret (pe_callB (cr_all rfl) (by rfl) T.all (by decide +kernel) (pa_cons (pe_lc (own := [("letter", 1)]) (g := gName 1) (tt := tYes) (te := tOp (fun x y H Q => ∃ (c : Nat) (z : Str), x = .str ⟨#[c]⟩ ∧ y = .str z ∧ Q (.bl (decide (c ∈ z.cps.toList))) H) (tVar 1) (tC (.str letters))) rfl scIsName.nd (pi_str (pv 0))
        (blkOk_by (N := ["value", "letter"]) (sc := defScope s_is_name) (by decide +kernel))
        (fun _ _ _ _ _ => pg_name (i := 1) scIsName.nd rfl (Or.inl rfl)) (fun _ _ _ _ _ => pts_nil) (fun _ _ _ _ _ => pe_cmpR op_in_sign (pv 1) (pe_glob (v := .str letters) (by rfl) g2 ⟨_, rfl⟩) rfl)) pa_nil)))), ?_⟩
    have l := nm.len
    have big : 1000 ≤ sizeLine := by decide
    refine ⟨_, rfl, .str z, _, _, _, true, rfl, .ty _, .base (.str z), kit_ty (by decide +kernel), true, rfl, ?_⟩
    refine iteF ?_
    refine ⟨_, rfl, z, rfl, by omega, _, _, rfl, rfl, _, rfl, ?_⟩
    rw [if_pos (decide_eq_true (by omega))]
    refine ⟨_, _, rfl, rfl, _, rfl, ?_⟩
    rw [decide_eq_true (show (z.length : Int) ≤ 8 by omega)]
    refine iteF ?_
    refine ⟨_, rfl, rfl, _, rfl, ?_⟩
    rw [decide_eq_false (show ¬ V.str z = V.str "self" from fun e => nm.self (V.str.inj e))]
    refine iteF ?_
    refine ⟨_, rfl, z, rfl, fun D nD => lc_it walk_str (fun i H' => Same H H' ∧ H' D = some (.lst ((List.replicate i true).map V.bl))) ⟨same_new nD, upd_same⟩ (fun _ _ _ _ => trivial) ?_ ?_⟩
    · intro i x Ha Hb hi ⟨q1, q2⟩ ⟨e, ch, hc, ex⟩
      subst e
      subst ex
      have hm : ch ∈ letters.cps.toList := by
        have hz : ch ∈ tl z := by
          rw [← Array.getElem?_toList] at hc
          exact List.mem_of_getElem? hc
        exact in_letters (nm.1 ch hz).1 (nm.1 ch hz).2
      refine ⟨rfl, ?_⟩
      refine ⟨_, rfl, ch, letters, rfl, rfl, _, q2, ?_, ?_, ?_⟩
      · rw [List.length_map, List.length_replicate]
        have : z.cps.size = z.length := rfl
        omega
      · exact Same.put q1 nD
      · rw [upd_same, decide_eq_true hm, List.replicate_succ', List.map_append] <;> rfl
    · intro H' ⟨q1, q2⟩
      refine ⟨D, _, rfl, SqL.of q2, ?_⟩
      have e : (List.replicate z.cps.size true).all id = true := by simp
      rw [e]
      exact k H' q1
def rankS (t : List (Str × Str)) (rk : Str → Nat) (σ : St) : Nat := match σ[3]? with
  | some (some (V.str a)) => if a ∈ t.map Prod.fst then rk a + 1 else 0
  | _ => 0
theorem scIsAnc : FnScope ["parents", "name", "seen", "above"] ["parents", "name"] (defScope s_is_ancestor) := ⟨rfl, rfl, rfl, by decide +kernel, rfl, by decide +kernel, by decide +kernel⟩
theorem ok_isAnc {f : Addr} {fd : FuncData} (F : Fun K "is_ancestor" "is_ancestor" s_is_ancestor f fd) : FnOk P w K mg base CX0 1 f fd ["parents", "name"] spIsAnc := by
  refine F.ok scIsAnc (fun vs H Q E h => ?_) (fun cdv A outer s H vs Q E hr h => ?_)
  · obtain ⟨q, g, t, rfl, _⟩ := h
    rfl
  · obtain ⟨q, g, t, rfl, hq, o, hg, k⟩ := h
    have hu := hu_of hr
    obtain ⟨rk, r⟩ := o.up
    refine ⟨_, pss_cons (ps_set (i := 2) scIsAnc.nd rfl (.inl rfl) (pe_lst pa_nil))
      (pss_cons (ps_set (i := 3) scIsAnc.nd rfl (.inl rfl) (pe_dget hu (pv 0) (pv 1) (fun _ _ => rfl)))
      (pss_cons (ps_while PassesOwn.never (PW.pt (pw_and (pt_cmp (pc_din hu (pv 3) (pv 0))) (pw_and1 (pt_cmpR op_notIn_seq (pv 3) (pv 2) rfl))))
        (pss_cons (ps_if (pt_cmpR op_eq (pv 3) (pv 1) (nomark _)) (pss_one (ps_ret pe_bl)) pss_nil)
        (pss_cons (ps_expr (pe_bm PySem.F.plainAttrs_list PySem.F.slot_list_append PySem.F.type_list_append mt_append (pv 2) (pa_cons (pv 3) pa_nil)))
        (pss_one (ps_set (i := 3) scIsAnc.nd rfl (.inl rfl) (pe_dget hu (pv 0) (pv 3) (fun _ _ => rfl)))))))
      (pss_one (ps_ret pe_bl)))), ?_⟩
    obtain ⟨p0, v0, w0, i0⟩ := o.step r hg
    have few := o.few
    have big : 1000 ≤ sizeLine := by decide
    refine ⟨by show 0 ≤ sizeLine; omega, fun l nl => ?_⟩
    have hq1 : (upd H l (.lst [])) q = some (.dK (prs t)) := by rw [upd_ne (ne_of_none hq nl)]; exact hq
    have ql : q ≠ l := ne_of_none hq nl
    refine ⟨_, rfl, _, rfl, q, V.str p0, rfl, by have z := DGet.k (k := Sum.inr g) hq1; rw [val_prs, v0] at z; exact z, ?_⟩
    refine while_by (fun σ H' => ∃ (a : Str) (ws : List Str), σ = [some (.ref q), some (.str g), some (.ref l), some (.str a)] ∧ H' l = some (.lst (ws.map V.str)) ∧ (∀ b u, H b = some u → H' b = some u) ∧ (a = "" ∨ (a ∈ t.map Prod.fst ∧ rk a < rk g ∧ ws.length + rk a < t.length)))
      (fun σ _ => rankS t rk σ) ⟨p0, [], rfl, upd_same, same_new nl, w0.imp id fun z => ⟨z.1, z.2, by simp only [List.length_nil]; omega⟩⟩ ?_ ?_
    · rintro σ Hx ⟨a, ws, rfl, hl, sm, ha⟩
      have hqx := sm _ _ hq
      have dg := DGet.k (k := Sum.inr a) hqx
      rw [val_prs] at dg
      refine ⟨_, rfl, _, rfl, q, _, rfl, dg, _, rfl, ?_⟩
      rcases ha with rfl | ⟨ha, ia, la⟩
      · rw [par_none o.root]
        refine iteF ?_
        exact iteF (k Hx sm)
      · obtain ⟨p, hv, hp, il⟩ := o.step r ha
        rw [hv]
        show if true = true then _ else _
        rw [if_pos rfl]
        refine ⟨_, rfl, _, rfl, l, _, rfl, .inl (SqL.of hl), rfl, flat_strs ws, _, rfl, ?_⟩
        rw [inV_strs]
        by_cases hw : a ∈ ws
        · rw [decide_eq_true hw]
          exact iteF (k Hx sm)
        · rw [decide_eq_false hw]
          show if true = true then _ else _
          rw [if_pos rfl]
          refine ⟨_, rfl, _, rfl, rfl, _, rfl, ?_⟩
          rw [decide_eq_false (show ¬ V.str a = V.str g from fun e => by
            have := V.str.inj e
            subst this
            omega)]
          refine iteF ?_
          refine ⟨_, rfl, .inl ⟨rfl, _, SqL.of hl⟩, _, rfl, l, _, _, rfl, rfl, hl, by rw [List.length_map]; omega, ?_⟩
          have hq2 : (upd Hx l (.lst (ws.map V.str ++ [.str a]))) q = some (.dK (prs t)) := by rw [upd_ne ql]; exact hqx
          refine ⟨_, rfl, _, rfl, q, V.str p, rfl, by have z := DGet.k (k := Sum.inr a) hq2; rw [val_prs, hv] at z; exact z, ?_⟩
          refine ⟨⟨p, ws ++ [a], rfl, by rw [upd_same, List.map_append] <;> rfl, fun b u e => ?_, ?_⟩, ?_⟩
          · rw [upd_ne (ne_of_none e nl)]
            exact sm b u e
          · rcases hp with rfl | ⟨hp, ip⟩
            · exact .inl rfl
            · refine .inr ⟨hp, by omega, ?_⟩
              rw [List.length_append]
              show ws.length + 1 + rk p < t.length
              omega
          · show rankS t rk [some (.ref q), some (.str g), some (.ref l), some (.str p)] < rankS t rk [some (.ref q), some (.str g), some (.ref l), some (.str a)]
            have e1 : rankS t rk [some (.ref q), some (.str g), some (.ref l), some (.str a)] = rk a + 1 := if_pos ha
            rw [e1]
            rcases hp with rfl | ⟨hp, ip⟩
            · have e2 : rankS t rk [some (.ref q), some (.str g), some (.ref l), some (.str "")] = 0 := if_neg o.root
              rw [e2]
              omega
            · have e2 : rankS t rk [some (.ref q), some (.str g), some (.ref l), some (.str p)] = rk p + 1 := if_pos hp
              rw [e2]
              omega
    · intro σ Hx Qa Qb h
      rintro ⟨v, e1, w, e2, a, r, e3, g, d, e4, z⟩
      refine ⟨v, e1, w, e2, a, r, e3, g, d, e4, ?_⟩
      cases d with
      | false =>
        rw [if_neg (by decide)] at z ⊢
        exact h _ _ z
      | true =>
        rw [if_pos rfl] at z ⊢
        obtain ⟨v, e1, w, e2, p, xs, e3, e4, e5, e6, b, e7, z⟩ := z
        exact ⟨v, e1, w, e2, p, xs, e3, e4, e5, e6, b, e7, h _ _ z⟩
theorem scNeed : FnScope ["parents", "name", "above", "other"] ["parents"] (defScope s_need_parents) := ⟨rfl, rfl, rfl, by decide +kernel, rfl, by decide +kernel, by decide +kernel⟩
theorem ok_need {f fI fA CF : Addr} {mc : Value} {fd fdI fdA : FuncData} (F : Fun K "need_parents" "need_parents" s_need_parents f fd) (T : Nm mg) (C : Cs mg) (Z : Fc K mg CF mc)
    (FI : Dn P w K mg base CX0 1 "is_name" ["value"] spIsName fI fdI) (FA : Dn P w K mg base CX0 1 "is_ancestor" ["parents", "name"] spIsAnc fA fdA) : FnOk P w K mg base CX0 2 f fd ["parents"] spNeed := by
  obtain ⟨um, cm⟩ := Z.most
  obtain ⟨ur, cr⟩ := Z.root
  refine F.ok scNeed (fun vs H Q E h => ?_) (fun cdv A outer s H vs Q E hr h => ?_)
  · obtain ⟨q, t, rfl, _⟩ := h
    rfl
  · obtain ⟨q, t, rfl, hq, o, k⟩ := h
    have hu := hu_of hr
    obtain ⟨rk, r⟩ := o.up
    refine ⟨_, pss_cons (ps_if (PW.pt (pw_or (pt_not (pt_val (pe_callB call_isi (by rfl) T.isi (by decide +kernel) (pa_cons (pv 0) (pa_cons (pe_bltn (v := .ty "dict") (u := .type "dict") (by rfl) T.dct (by decide +kernel) rfl) pa_nil)))))
        (pw_or1 (pt_not (pt_chain op_le op_le pe_int (pe_callB call_lenD (by rfl) T.len PySem.boot_len (pa_cons (pv 0) pa_nil)) (pe_cval (pe_glob (v := .ref CF) (by rfl) Z.gF rfl))))))) pss_never pss_nil)
      (pss_cons (ps_if (pt_not (pt_val (pe_callB (cr_all rfl) (by rfl) T.all (by decide +kernel) (pa_cons (pe_lock (pe_lc (own := [("name", 1)]) (g := gName 1) (tt := tYes) rfl scNeed.nd (pi_keys (pv 0))
        (blkOk_by (N := ["parents", "name", "above", "other"]) (sc := defScope s_need_parents) (by decide +kernel))
        (fun _ _ _ _ _ => pg_name (i := 1) scNeed.nd rfl (Or.inl rfl)) (fun _ _ _ _ _ => pts_nil) (fun _ _ _ _ _ => pe_call FI.ok hr rfl FI.mgn FI.kp FI.bn .nil pass0 (pa_cons (pv 1) pa_nil)))) pa_nil)))) pss_never pss_nil)
      (pss_one (ps_for PassesOwn.never rfl (pi_list (pe_callB (call_sortedD rfl) (by rfl) T.srt (by decide +kernel) (pa_cons (pv 0) pa_nil))) (pg_name (i := 1) scNeed.nd rfl (.inl rfl))
        (pss_cons (ps_set (i := 2) scNeed.nd rfl (.inl rfl) (pe_dget hu (pv 0) (pv 1) (fun _ _ => rfl)))
        (pss_cons (ps_if (PW.pt (pw_or (pt_not (pt_val (pe_callB call_isi (by rfl) T.isi (by decide +kernel) (pa_cons (pv 2) (pa_cons (pe_bltn (v := .ty "str") (u := .type "str") (by rfl) T.str (by decide +kernel) rfl) pa_nil)))))
          (pw_or1 (PW.pt (pw_and (pt_cmpR op_ne (pv 2) (pe_cval (pe_glob (v := .ref CF) (by rfl) Z.gF rfl)) (nomark _)) (pw_and1 (pt_cmp (pc_dnotin hu (pv 2) (pv 0))))))))) pss_never pss_nil)
        (pss_one (ps_if (pt_val (pe_call FA.ok hr rfl FA.mgn FA.kp FA.bn .nil pass0 (pa_cons (pe_lock (pe_dc (own := [("other", 3)]) (g := gName 3) (tt := tB (tCB (rIsi K) (tCons (tDGet (tVar 0) (tVar 3)) (tCons (tC (.ty "str")) tNil)))) rfl scNeed.nd (pi_keys (pv 0))
          (blkOk_by (N := ["parents", "name", "above", "other"]) (sc := defScope s_need_parents) (by decide +kernel))
          (fun _ _ _ _ _ => pg_name (i := 3) scNeed.nd rfl (Or.inl rfl)) (fun _ _ _ _ _ => pts_one (pt_val (pe_callB call_isi (by rfl) T.isi (by decide +kernel) (pa_cons (pe_dget hu (pv 0) (pv 3) (fun _ _ => rfl)) (pa_cons (pe_bltn (v := .ty "str") (u := .type "str") (by rfl) T.str (by decide +kernel) rfl) pa_nil)))))
          (fun _ _ _ _ _ => pv 3) (fun _ _ _ _ _ => pe_dget hu (pv 0) (pv 3) (fun _ _ => rfl)))) (pa_cons (pv 1) pa_nil)))) pss_never pss_nil))))))), ?_⟩
    have few := o.few
    have one := o.one
    have big : 1000 ≤ sizeLine := by decide
    have lp := prs_len t
    -- a dict, of one to twelve
    refine ⟨_, rfl, .ref q, _, _, _, true, rfl, .ty _, .base (.dK hq), kit_ty (by decide +kernel), true, rfl, ?_⟩
    refine iteF ?_
    refine ⟨_, rfl, q, _, rfl, hq, _, _, rfl, rfl, _, rfl, ?_⟩
    rw [if_pos (decide_eq_true (by omega))]
    refine ⟨CF, mc, _, um, rfl, Z.rd, cm, _, _, rfl, rfl, _, rfl, ?_⟩
    rw [decide_eq_true (show ((prs t).length : Int) ≤ 12 by omega)]
    refine iteF ?_
    -- all are names
    refine ⟨q, .dK (prs t), hq, trivial, fun od => ⟨_, rfl, q, od, rfl, .inl ⟨prs t, upd_same, fun D nD => ?_⟩⟩⟩
    have Dq : D ≠ q := (ne_of_none upd_same nD).symm
    have key : ∀ {i : Nat} {k : Key} {v : V}, (prs t)[i]? = some (k, v) → ∃ a p : Str, k = Sum.inr a ∧ v = .str p ∧ t[i]? = some (a, p) := fun {i k v} h => by
      unfold prs kvT at h
      rw [List.map_map, List.getElem?_map] at h
      obtain ⟨⟨a, p⟩, hp, e⟩ := Option.map_eq_some_iff.mp h
      cases e
      exact ⟨a, p, rfl, rfl, hp⟩
    refine lc_it walk_keys (fun i H' => Same (upd H q (.frz od (.dK (prs t)))) H' ∧ H' D = some (.lst ((List.replicate i true).map V.bl))) ⟨same_new nD, upd_same⟩ (fun i H' _ z => z.1 q _ upd_same) ?_ ?_
    · intro i x Ha Hb hi ⟨q1, q2⟩ ⟨e, k', v, hk, ex⟩
      subst e
      subst ex
      obtain ⟨a, p, rfl, rfl, hp⟩ := key hk
      refine ⟨rfl, ?_⟩
      refine ⟨_, rfl, a, rfl, o.nm a (List.mem_map.mpr ⟨(a, p), List.mem_of_getElem? hp, rfl⟩), fun H' s' => ⟨_, s' D _ q2, ?_, ?_, ?_⟩⟩
      · rw [List.length_map, List.length_replicate]
        omega
      · intro b u e
        rw [upd_ne (ne_of_none e nD)]
        exact s' _ _ (q1 b u e)
      · rw [upd_same, List.replicate_succ', List.map_append] <;> rfl
    intro H1 ⟨q1, q2⟩
    refine ⟨q1 q _ upd_same, D, _, rfl, SqL.of (by rw [upd_ne Dq]; exact q2), true, by rw [show (List.replicate (prs t).length true).all id = true by simp], ?_⟩
    refine iteF ?_
    have s1 : Same H (upd H1 q (.dK (prs t))) := unlock_same hq q1
    -- one by one, in their order
    refine ⟨_, rfl, q, prs t, t.map Prod.fst, rfl, .inl upd_same, prs_keys t, by rw [List.length_map]; omega, fun ys p perm srt np => ⟨p, rfl, ⟨_, SqL.of upd_same⟩, ?_⟩⟩
    obtain ⟨H2, e2⟩ : ∃ X, X = upd (upd H1 q (.dK (prs t))) p (.lst (ys.map V.str)) := ⟨_, rfl⟩
    have s2 : Same H H2 := s1.trans (e2 ▸ same_new np)
    have at2 : H2 p = some (.lst (ys.map V.str)) := by rw [e2]; exact upd_same
    rw [← e2]
    refine for_it walk_list (fun j σ' H' => (∃ u1 u2 u3, σ' = [some (.ref q), u1, u2, u3]) ∧ Same H2 H') ⟨⟨_, _, _, rfl⟩, fun _ _ e => e⟩ (fun j σ' H' _ z => SqL.of (z.2 _ _ at2)) ?_ ?_
    · intro j x σ' Ha Hb hj ⟨⟨u1, u2, u3, e⟩, sa⟩ ⟨eb, ex⟩
      subst e
      subst eb
      rw [List.getElem?_map] at ex
      obtain ⟨a, ha, rfl⟩ := Option.map_eq_some_iff.mp ex
      have ma : a ∈ t.map Prod.fst := perm.mem_iff.mp (List.mem_of_getElem? ha)
      obtain ⟨pa, hv, hpa, ia⟩ := o.step r ma
      have s0a : Same H Hb := s2.trans sa
      have hqa := s0a _ _ hq
      refine ⟨_, rfl, _, rfl, q, V.str pa, rfl, by have z := DGet.k (k := Sum.inr a) hqa; rw [val_prs, hv] at z; exact z, ?_⟩
      refine ⟨_, rfl, .str pa, _, _, _, true, rfl, .ty _, .base (.str pa), kit_ty (by decide +kernel), true, rfl, ?_⟩
      refine iteF ?_
      have anc : tIfS (tB (tCall spIsAnc [] E0 (tCons (tLockE (tDc (iKeys (tVar 0)) (gName 3) (tB (tCB (rIsi K) (tCons (tDGet (tVar 0) (tVar 3)) (tCons (tC (.ty "str")) tNil)))) (tVar 3) (tDGet (tVar 0) (tVar 3)) [3])) (tCons (tVar 1) tNil)))) tNever tNext
          ⟨fun σ' H' => (∃ u1 u2 u3, σ' = [some (.ref q), u1, u2, u3]) ∧ Same H2 H', fun v H' => Q v H', fun σ' H' => Q .non H', fun σ' H' => (∃ u1 u2 u3, σ' = [some (.ref q), u1, u2, u3]) ∧ Same H2 H'⟩ [some (.ref q), some (.str a), some (.str pa), u3] Hb := by
        refine ⟨q, .dK (prs t), hqa, trivial, fun od => ⟨_, rfl, q, od, rfl, .inl ⟨prs t, upd_same, fun D nD => ?_⟩⟩⟩
        have Dq : D ≠ q := (ne_of_none upd_same nD).symm
        refine dc_it walk_keys (fun i H' => Same (upd Hb q (.frz od (.dK (prs t)))) H' ∧ H' D = some (.dK (prs (t.take i)))) ⟨same_new nD, upd_same⟩ (fun i H' _ z => z.1 q _ upd_same) ?_ ?_
        · intro i x Hc Hd hi ⟨q1, q2⟩ ⟨e, k', v, hk, ex⟩
          subst e
          subst ex
          obtain ⟨b, r', rfl, rfl, hp⟩ := key hk
          have fz := q1 q _ upd_same
          have dg : DGet Hd q (.str b) (some (.str r')) := .inl ⟨prs t, Sum.inr b, .inr ⟨od, fz⟩, rfl, by rw [val_prs, par_of o.nd (List.mem_of_getElem? hp)] <;> rfl⟩
          have nb : b ∉ (t.take i).map Prod.fst := fun hm => by
            rw [List.map_take] at hm
            obtain ⟨j, hj⟩ := List.mem_iff_getElem?.mp hm
            have jl := (List.getElem?_eq_some_iff.mp hj).1
            rw [List.length_take] at jl
            rw [List.getElem?_take, if_pos (by omega)] at hj
            have e0 : (t.map Prod.fst)[i]? = some b := by rw [List.getElem?_map, hp] <;> rfl
            have := (List.getElem?_inj (by omega) o.nd).mp (hj.trans e0.symm)
            omega
          refine ⟨rfl, ?_⟩
          refine ⟨_, rfl, _, rfl, q, _, rfl, dg, .str r', _, _, _, true, rfl, .ty _, .base (.str r'), kit_ty (by decide +kernel), true, rfl, ?_⟩
          show if true = true then _ else _
          rw [if_pos rfl]
          refine ⟨_, rfl, _, rfl, _, rfl, q, _, rfl, dg, prs (t.take i), Sum.inr b, rfl, q2, ?_, ?_, ?_⟩
          · rw [prs_len, List.length_take]
            omega
          · intro c u e
            rw [upd_ne (ne_of_none e nD)]
            exact q1 c u e
          · rw [upd_same, put_new nb, take_more hp]
        · intro Hc ⟨q1, q2⟩
          rw [lp, List.take_length] at q2
          refine ⟨q1 q _ upd_same, _, rfl, D, a, t, rfl, by rw [upd_ne Dq]; exact q2, o, ma, fun H' s' => ⟨false, rfl, iteF ⟨⟨_, _, _, rfl⟩, (sa.trans (unlock_same hqa q1)).trans s'⟩⟩⟩
      rcases hpa with rfl | ⟨hp, _⟩
      · refine ⟨_, rfl, CF, mc, _, ur, rfl, Z.rd, cr, rfl, _, rfl, ?_⟩
        rw [decide_eq_true rfl]
        refine iteF ?_
        exact iteF anc
      · obtain ⟨pp, hv2, _⟩ := o.step r hp
        refine ⟨_, rfl, CF, mc, _, ur, rfl, Z.rd, cr, rfl, _, rfl, ?_⟩
        have ne : ¬ V.str pa = V.str "" := fun e => o.root (by rw [← V.str.inj e]; exact hp)
        rw [decide_eq_false ne]
        show if true = true then _ else _
        rw [if_pos rfl]
        refine ⟨_, rfl, _, rfl, q, V.str pp, rfl, by have z := DGet.k (k := Sum.inr pa) hqa; rw [val_prs, hv2] at z; exact z, _, rfl, ?_⟩
        exact iteF anc
    · intro σ' H' ⟨_, sa⟩
      exact k H' (s2.trans sa)
/-! ### Forest -/
/-- a forest at x, its pairs ts -/
def FAt (CF : Addr) (H : Hp) (x : Addr) (ts : List (Str × Str)) : Prop := ∃ dx dq, H x = some (.ins CF dx [("above", .ref dq)]) ∧ H dq = some (.dK (prs ts))
theorem FAt.mono {CF x : Addr} {H H' : Hp} {ts : List (Str × Str)} (s : Same H H') (h : FAt CF H x ts) : FAt CF H' x ts := let ⟨dx, dq, e1, e2⟩ := h; ⟨dx, dq, s _ _ e1, s _ _ e2⟩
/-- in ascending order -/
def Asc (ts : List (Str × Str)) : Prop := PyProof.Rows.sortedS (ts.map Prod.fst) = true
/-- facts of a class of the text -/
structure FoC (K : PySem.W.Frag) (CF : Addr) : Prop where
  cl : Cls K CF
  nA : NoAttr K CF "above"
def spFInit (CF : Addr) : Sp := fun vs H Q _ => ∃ (x q dx : Addr) (t : List (Str × Str)), vs = [.ref x, .ref q] ∧ H x = some (.ins CF dx []) ∧ H q = some (.dK (prs t)) ∧ TreeOk t ∧
  ∀ (H' : Hp) (ts : List (Str × Str)), ts.Perm t → Asc ts → FAt CF H' x ts → (∀ b o, b ≠ x → H b = some o → H' b = some o) → Q .non H'
def spFFlags (CF : Addr) : Sp := fun vs H Q _ => ∃ (x : Addr) (ts : List (Str × Str)), vs = [.ref x] ∧ FAt CF H x ts ∧ ∀ p, H p = none → Q (.ref p) (upd H p (.lst ((ts.map Prod.fst).map V.str)))
def spFParents (CF : Addr) : Sp := fun vs H Q _ => ∃ (x : Addr) (ts : List (Str × Str)), vs = [.ref x] ∧ FAt CF H x ts ∧ ∀ p, H p = none → Q (.ref p) (upd H p (.dK (prs ts)))
theorem scFInit : FnScope ["self", "parents", "name"] ["self", "parents"] (defScope s_Forest___init__) := ⟨rfl, rfl, rfl, by decide +kernel, rfl, by decide +kernel, by decide +kernel⟩
theorem perm_pairs : ∀ {ts t : List (Str × Str)}, (t.map Prod.fst).Nodup → (ts.map Prod.fst).Perm (t.map Prod.fst) → (∀ p ∈ ts, p ∈ t) → ts.Perm t
  | [], t, _, pf, _ => by
    have := pf.length_eq
    rw [List.length_map, List.length_map] at this
    rw [List.length_eq_zero_iff.mp (this.symm : t.length = 0)]
  | p :: ts, t, nd, pf, h => by
    have mp := h p (List.mem_cons_self ..)
    have pe := List.perm_cons_erase mp
    have pk : (ts.map Prod.fst).Perm ((t.erase p).map Prod.fst) := (pf.trans (pe.map Prod.fst)).cons_inv
    have nk := (pe.map Prod.fst).nodup_iff.mp nd
    obtain ⟨n1, n2⟩ := List.nodup_cons.mp (show (p.1 :: (t.erase p).map Prod.fst).Nodup from nk)
    refine ((perm_pairs n2 pk fun q hq => ?_).cons p).trans pe.symm
    rcases List.mem_cons.mp (pe.mem_iff.mp (h q (List.mem_cons_of_mem _ hq))) with e | m
    · exfalso
      refine n1 (pk.mem_iff.mp (List.mem_map.mpr ⟨q, hq, ?_⟩))
      rw [e]
    · exact m
theorem ok_finit {f fN CF : Addr} {fd fdN : FuncData} (F : Fun K "__init__" "Forest.__init__" s_Forest___init__ f fd) (T : Nm mg) (O : FoC K CF) (GN : Dn P w K mg base CX0 2 "need_parents" ["parents"] spNeed fN fdN) :
    FnOk P w K mg base CX0 3 f fd ["self", "parents"] (spFInit CF) := by
  refine F.ok scFInit (fun vs H Q E h => ?_) (fun cdv A outer s H vs Q E hr h => ?_)
  · obtain ⟨x, q, dx, t, rfl, _⟩ := h
    rfl
  · obtain ⟨x, q, dx, t, rfl, hx, hq, o, k⟩ := h
    have hu := hu_of hr
    refine ⟨_, pss_cons (ps_expr (pe_call GN.ok hr rfl GN.mgn GN.kp GN.bn .nil pass0 (pa_cons (pv 1) pa_nil)))
      (pss_one (ps_fld (pv 0) (pe_dc (own := [("name", 2)]) (g := gName 2) (tt := tYes) rfl scFInit.nd (pi_list (pe_callB (call_sortedD rfl) (by rfl) T.srt (by decide +kernel) (pa_cons (pv 1) pa_nil)))
        (blkOk_by (N := ["self", "parents", "name"]) (sc := defScope s_Forest___init__) (by decide +kernel))
        (fun _ _ _ _ _ => pg_name (i := 2) scFInit.nd rfl (Or.inl rfl)) (fun _ _ _ _ _ => pts_nil) (fun _ _ _ _ _ => pv 2) (fun _ _ _ _ _ => pe_dget hu (pv 1) (pv 2) (fun _ _ => rfl))) rfl)), ?_⟩
    have few := o.few
    have big : 1000 ≤ sizeLine := by decide
    refine ⟨_, rfl, q, t, rfl, hq, o, fun H1 s1 => ?_⟩
    have hq1 := s1 _ _ hq
    refine ⟨_, rfl, q, prs t, t.map Prod.fst, rfl, .inl hq1, prs_keys t, by rw [List.length_map]; omega, fun ys p perm srt np => ⟨p, rfl, ⟨_, SqL.of upd_same⟩, fun D nD => ?_⟩⟩
    obtain ⟨H2, e2⟩ : ∃ X, X = upd H1 p (.lst (ys.map V.str)) := ⟨_, rfl⟩
    have s2 : Same H H2 := s1.trans (e2 ▸ same_new np)
    have at2 : H2 p = some (.lst (ys.map V.str)) := by rw [e2]; exact upd_same
    rw [← e2] at nD ⊢
    have ndy : ys.Nodup := perm.nodup_iff.mpr o.nd
    have ly := perm.length_eq
    rw [List.length_map] at ly
    refine dc_it walk_list (fun i H' => Same H2 H' ∧ ∃ ts : List (Str × Str), H' D = some (.dK (prs ts)) ∧ ts.map Prod.fst = ys.take i ∧ ∀ p ∈ ts, p ∈ t) ⟨same_new nD, [], upd_same, by rw [List.take_zero] <;> rfl, fun p h => by cases h⟩ (fun i H' _ z => SqL.of (z.1 _ _ at2)) ?_ ?_
    · intro i y Ha Hb hi ⟨q1, ts, hD, ets, hts⟩ ⟨eb, ex⟩
      subst eb
      rw [List.getElem?_map] at ex
      obtain ⟨a, ha, rfl⟩ := Option.map_eq_some_iff.mp ex
      have ma : a ∈ t.map Prod.fst := perm.mem_iff.mp (List.mem_of_getElem? ha)
      obtain ⟨pa, hv⟩ := par_some o.nd ma
      have hqa := q1 _ _ (s2 _ _ hq)
      have fresh : a ∉ ts.map Prod.fst := by
        rw [ets]
        intro hm
        obtain ⟨j, hj⟩ := List.mem_iff_getElem?.mp hm
        have jl := (List.getElem?_eq_some_iff.mp hj).1
        have il := (List.getElem?_eq_some_iff.mp ha).1
        rw [List.length_take] at jl
        rw [List.getElem?_take, if_pos (by omega)] at hj
        have := (List.getElem?_inj (by omega) ndy).mp (hj.trans ha.symm)
        omega
      have lt := congrArg List.length ets
      rw [List.length_map, List.length_take] at lt
      refine ⟨rfl, ?_⟩
      refine ⟨_, rfl, _, rfl, _, rfl, q, V.str pa, rfl, by have z := DGet.k (k := Sum.inr a) hqa; rw [val_prs, hv] at z; exact z, prs ts, Sum.inr a, rfl, hD, by rw [prs_len]; omega, ?_, ts ++ [(a, pa)], ?_, ?_, fun z hz => ?_⟩
      · intro b u e
        rw [upd_ne (ne_of_none e nD)]
        exact q1 b u e
      · rw [upd_same, put_new fresh]
      · rw [List.map_append, ets, take_more ha] <;> rfl
      · rcases List.mem_append.mp hz with h | h
        · exact hts z h
        · rw [List.mem_singleton.mp h]
          exact par_mem hv
    · intro H3 ⟨q1, ts, hD, ets, hts⟩
      rw [List.length_map, List.take_length] at ets
      have s3 : Same H H3 := s2.trans q1
      refine ⟨_, rfl, x, CF, dx, [], rfl, s3 _ _ hx, O.cl, O.nA, by show 0 < 1000; decide, ?_⟩
      have xD : D ≠ x := (ne_of_none (s2 _ _ hx) nD).symm
      refine k _ ts (perm_pairs o.nd (by rw [ets]; exact perm) hts) (by unfold Asc; rw [ets]; exact srt) ⟨dx, D, upd_same, by rw [upd_ne xD]; exact hD⟩ fun b u bx e => ?_
      rw [upd_ne bx]
      exact s3 b u e
theorem scFFlags : FnScope ["self"] ["self"] (defScope s_Forest_flags) := ⟨rfl, rfl, rfl, by decide +kernel, rfl, by decide +kernel, by decide +kernel⟩
theorem ok_fflags {f CF : Addr} {fd : FuncData} (F : Fun K "flags" "Forest.flags" s_Forest_flags f fd) (T : Nm mg) (O : FoC K CF) : FnOk P w K mg base CX0 1 f fd ["self"] (spFFlags CF) := by
  refine F.ok scFFlags (fun vs H Q E h => ?_) (fun cdv A outer s H vs Q E hr h => ?_)
  · obtain ⟨x, ts, rfl, _⟩ := h
    rfl
  · obtain ⟨x, ts, rfl, ⟨dx, dq, hx, hd⟩, k⟩ := h
    refine ⟨_, pss_one (ps_ret (pe_callTy (call_listD rfl) (by rfl) T.lst (by decide +kernel) (pa_cons (pe_fld (pv 0) rfl) pa_nil))), ?_⟩
    refine ⟨_, rfl, x, CF, dx, _, .ref dq, rfl, hx, O.cl, O.nA, rfl, dq, prs ts, rfl, .inl hd, fun p np => ?_⟩
    rw [keys_prs]
    exact k p np
/-- a property of a class -/
structure Pr1 (P : Program) (w : World) (K : PySem.W.Frag) (mg : Str → Option Value) (base : Heap) (CF : Addr) (x : Str) (sp : Sp) (p g : Addr) (fd : FuncData) : Prop where
  pr : PropOf K CF x p g
  fn : FnOk P w K mg base CX0 1 g fd ["self"] sp
  bn : Binds K fd ["self"] []
def spPlacesOf (CF : Addr) : Sp := fun vs H Q _ => ∃ (x : Addr) (ts : List (Str × Str)), vs = [.ref x] ∧ FAt CF H x ts ∧ ts.length ≤ 12 ∧ ∀ p H', Same H H' → H p = none → H' p = some (.lst ((("" : Str) :: ts.map Prod.fst).map V.str)) → Q (.ref p) H'
end
end FT


/-! integer_of: of any word -/
namespace FT
open PySem L2 TL ClX
def digits : Str := "0123456789"
structure Cd (mg : Str → Option Value) : Prop where
  dig : ∃ t, mg "DIGITS" = some (.str digits t)
  most : ∃ t, mg "MOST_DIGITS" = some (.int 31 t)
  nofl : ∃ t, mg "NO_FLAG" = some (.str "-" t)
/-- a number's text -/
def nT (n : Nat) : Str := Str.ofString (toString ((n : Nat) : Int))
theorem tl_nT (n : Nat) : tl (nT n) = numL n := tl_num n
theorem head48 : ∀ (m n : Nat), n ≤ m → (numL n).head? = some 48 → n = 0
  | 0, n, h, _ => by omega
  | m + 1, n, h, e => by
    by_cases l : n < 10
    · rw [numL_lt l] at e
      have := Option.some.inj e
      omega
    · rw [numL_step (by omega), List.head?_append] at e
      cases c : (numL (n / 10)).head? with
      | none =>
        rw [List.head?_eq_none_iff] at c
        exact absurd c (numL_ne _)
      | some z =>
        rw [c] at e
        have ez : z = 48 := Option.some.inj e
        rw [ez] at c
        have := head48 m (n / 10) (by omega) c
        omega
theorem nT_len {n : Nat} (h : n < 10 ^ 31) : 1 ≤ (nT n).length ∧ (nT n).length ≤ 31 := by
  rw [len_tl, tl_nT]
  exact ⟨List.length_pos_iff.mpr (numL_ne n), numL_len (by decide) h⟩
theorem nT_int {n : Nat} (h : n < 10 ^ 31) : intText? (nT n) = some (n : Int) := int_num (Nat.le_trans (numL_len (by decide) h) (by decide))
theorem in_digits {c : Nat} (h0 : 48 ≤ c) (h1 : c ≤ 57) : c ∈ digits.cps.toList := by
  have all : ∀ i : Fin 10, (48 + i.1) ∈ digits.cps.toList := by decide +kernel
  have q := all ⟨c - 48, by omega⟩
  rw [show 48 + (⟨c - 48, by omega⟩ : Fin 10).1 = c by show 48 + (c - 48) = c; omega] at q
  exact q
theorem digits_in {c : Nat} (h : c ∈ digits.cps.toList) : 48 ≤ c ∧ c ≤ 57 := by
  have all : ∀ x ∈ digits.cps.toList, 48 ≤ x ∧ x ≤ 57 := by decide +kernel
  exact all c h
/-- the value of digits, the first ones first -/
def dvl (l : List Nat) : Nat := l.foldl (fun a c => 10 * a + (c - 48)) 0
theorem dvl_snoc (l : List Nat) (c : Nat) : dvl (l ++ [c]) = 10 * dvl l + (c - 48) := by
  unfold dvl
  rw [List.foldl_append] <;> rfl
/-- digits, no zero ahead of others -/
theorem dvl_num : ∀ (m : Nat) (l : List Nat), l.length ≤ m → l ≠ [] → (∀ c ∈ l, 48 ≤ c ∧ c ≤ 57) → (l.head? = some 48 → l = [48]) → numL (dvl l) = l ∧ dvl l < 10 ^ l.length
  | 0, l, h, ne, _, _ => absurd (List.length_eq_zero_iff.mp (Nat.le_zero.mp h)) ne
  | m + 1, l, h, ne, d, z => by
    rcases List.eq_nil_or_concat l with e | ⟨r, c, e⟩
    · exact absurd e ne
    · rw [List.concat_eq_append] at e
      subst e
      have dc := d c (List.mem_append_right _ (List.mem_singleton.mpr rfl))
      rw [dvl_snoc, List.length_append, List.length_singleton]
      cases r with
      | nil =>
        show numL (10 * 0 + (c - 48)) = [c] ∧ _ < 10 ^ (0 + 1)
        rw [numL_lt (by omega)]
        refine ⟨by congr 1; omega, by show 10 * 0 + (c - 48) < 10; omega⟩
      | cons a r =>
        have ha : a ≠ 48 := fun e => by
          have := z (by rw [e] <;> rfl)
          have := congrArg List.length this
          rw [List.length_append] at this
          simp at this
        obtain ⟨i1, i2⟩ := dvl_num m (a :: r) (by rw [List.length_append, List.length_singleton] at h; omega) (by simp) (fun c hc => d c (List.mem_append_left _ hc)) (fun e => absurd (Option.some.inj e) ha)
        have pos : 0 < dvl (a :: r) := by
          rcases Nat.eq_zero_or_pos (dvl (a :: r)) with e0 | p
          · rw [e0] at i1
            have : a = 48 := (List.cons.inj i1).1.symm
            exact absurd this ha
          · exact p
        refine ⟨?_, ?_⟩
        · rw [numL_step (by omega), show (10 * dvl (a :: r) + (c - 48)) / 10 = dvl (a :: r) by omega, show (10 * dvl (a :: r) + (c - 48)) % 10 = c - 48 by omega, i1]
          congr 2
          omega
        · rw [Nat.pow_succ]
          omega
/-- a word that denotes a number -/
def IsN (z : Str) : Prop := ∃ n : Nat, n < 10 ^ 31 ∧ z = nT n
theorem isN_of {z : Str} (l1 : 1 ≤ z.length) (l2 : z.length ≤ 31) (d : ∀ c ∈ tl z, 48 ≤ c ∧ c ≤ 57) (h : (tl z).head? = some 48 → tl z = [48]) : IsN z := by
  rw [len_tl] at l1 l2
  obtain ⟨e, lt⟩ := dvl_num (tl z).length (tl z) (Nat.le_refl _) (fun e => by rw [e] at l1; simp at l1) d h
  refine ⟨dvl (tl z), Nat.lt_of_lt_of_le lt (Nat.pow_le_pow_right (by decide) l2), ext_tl ?_⟩
  rw [tl_nT, e]
def spIntOf : Sp := fun vs H Q _ => ∃ z : Str, vs = [.str z] ∧ z.length ≤ 1000000 ∧ (∀ n : Nat, n < 10 ^ 31 → z = nT n → ∀ H', Same H H' → Q (.int (n : Int)) H') ∧ (¬ IsN z → ∀ H', Same H H' → Q .non H')
section
variable {P : Program} {w : World} {K : PySem.W.Frag} {mg : Str → Option Value} {base : Heap}
theorem scIntOf : FnScope ["word", "letter"] ["word"] (defScope s_integer_of) := ⟨rfl, rfl, rfl, by decide +kernel, rfl, by decide +kernel, by decide +kernel⟩
theorem ok_intOf {f : Addr} {fd : FuncData} (F : Fun K "integer_of" "integer_of" s_integer_of f fd) (T : Nm mg) (C : Cd mg) : FnOk P w K mg base CX0 1 f fd ["word"] spIntOf := by
  obtain ⟨t1, g1⟩ := C.most
  obtain ⟨t2, g2⟩ := C.dig
  refine F.ok scIntOf (fun vs H Q E h => ?_) (fun cdv A outer s H vs Q E hr h => ?_)
  · obtain ⟨n, rfl, _⟩ := h
    rfl
  · obtain ⟨z, rfl, lz, kY, kN⟩ := h
    refine ⟨_, pss_cons (ps_if (PW.pt (pw_or (pt_not (pt_chain op_le op_le pe_int (pe_callB call_len_str (by rfl) T.len PySem.boot_len (pa_cons (pv 0) pa_nil)) (pe_glob (v := .int 31) (by rfl) g1 ⟨_, rfl⟩)))
        (pw_or1 (pt_not (pt_val (pe_callB (cr_all rfl) (by rfl) T.all (by decide +kernel) (pa_cons (pe_lc (own := [("letter", 1)]) (g := gName 1) (tt := tYes) (te := tOp (fun x y H Q => ∃ (c : Nat) (z : Str), x = .str ⟨#[c]⟩ ∧ y = .str z ∧ Q (.bl (decide (c ∈ z.cps.toList))) H) (tVar 1) (tC (.str digits))) rfl scIntOf.nd (pi_str (pv 0))
        (blkOk_by (N := ["word", "letter"]) (sc := defScope s_integer_of) (by decide +kernel))
        (fun _ _ _ _ _ => pg_name (i := 1) scIntOf.nd rfl (Or.inl rfl)) (fun _ _ _ _ _ => pts_nil) (fun _ _ _ _ _ => pe_cmpR op_in_sign (pv 1) (pe_glob (v := .str digits) (by rfl) g2 ⟨_, rfl⟩) rfl)) pa_nil))))))) (pss_one (ps_ret pe_non)) pss_nil)
      (pss_one (ps_ret (pe_ifExp (PW.pt (pw_and (pt_cmpR op_eq (pe_ix ix_str (pv 0) pe_int (fun _ _ => rfl)) pe_str (nomark _)) (pw_and1 (pt_cmpR op_ne (pv 0) pe_str (nomark _))))) pe_non (pe_callTy call_int_str (by rfl) T.int (by decide +kernel) (pa_cons (pv 0) pa_nil))))), ?_⟩
    have big : 1000000 ≤ sizeLine := by decide
    refine ⟨_, rfl, z, rfl, by omega, _, _, rfl, rfl, _, rfl, ?_⟩
    by_cases l1 : 1 ≤ z.length
    · rw [if_pos (decide_eq_true (by omega))]
      refine ⟨_, _, rfl, rfl, _, rfl, ?_⟩
      by_cases l2 : z.length ≤ 31
      · rw [decide_eq_true (show (z.length : Int) ≤ 31 by omega)]
        refine iteF ?_
        refine ⟨_, rfl, z, rfl, fun D nD => lc_it walk_str (fun i H' => Same H H' ∧ H' D = some (.lst ((((tl z).take i).map fun c => decide (c ∈ digits.cps.toList)).map V.bl))) ⟨same_new nD, upd_same⟩ (fun _ _ _ _ => trivial) ?_ ?_⟩
        · intro i x Ha Hb hi ⟨q1, q2⟩ ⟨e, ch, hc, ex⟩
          subst e
          subst ex
          have hc' : (tl z)[i]? = some ch := by
            show z.cps.toList[i]? = some ch
            rw [Array.getElem?_toList]
            exact hc
          refine ⟨rfl, ?_⟩
          refine ⟨_, rfl, ch, digits, rfl, rfl, _, q2, ?_, ?_, ?_⟩
          · rw [List.length_map, List.length_map, List.length_take, ← len_tl]
            omega
          · intro b o e
            rw [upd_ne (ne_of_none e nD)]
            exact q1 b o e
          · rw [upd_same, take_more hc', List.map_append, List.map_append] <;> rfl
        · intro H' ⟨q1, q2⟩
          rw [show z.cps.size = (tl z).length from rfl, List.take_length] at q2
          refine ⟨D, _, rfl, SqL.of q2, _, rfl, ?_⟩
          by_cases ad : ((tl z).map fun c => decide (c ∈ digits.cps.toList)).all id = true
          · rw [ad]
            refine iteF ?_
            have d : ∀ c ∈ tl z, 48 ≤ c ∧ c ≤ 57 := fun c hc => by
              rw [List.all_map, List.all_eq_true] at ad
              exact digits_in (of_decide_eq_true (ad c hc))
            obtain ⟨c, rest, ec⟩ : ∃ c rest, tl z = c :: rest := by
              cases e : tl z with
              | nil => rw [len_tl, e] at l1; cases l1
              | cons c r => exact ⟨c, r, rfl⟩
            refine ⟨_, rfl, z, 0, c, rfl, rfl, by omega, by rw [show z.cps.toList = c :: rest from ec]; exact (atI_nat (xs := c :: rest) (j := 0) rfl : atI (c :: rest) ((0 : Nat) : Int) = _), rfl, _, rfl, ?_⟩
            by_cases h48 : c = 48
            · subst h48
              rw [decide_eq_true (show V.str ⟨#[48]⟩ = V.str "0" from rfl)]
              show if true = true then _ else _
              rw [if_pos rfl]
              refine ⟨_, rfl, rfl, _, rfl, ?_⟩
              by_cases ez : z = "0"
              · rw [decide_eq_true (show V.str z = V.str "0" by rw [ez])]
                have e0 : z = nT 0 := by rw [ez] <;> rfl
                exact iteF ⟨_, rfl, z, ((0 : Nat) : Int), rfl, by rw [e0]; exact nT_int (by decide), by omega, kY 0 (by decide) e0 H' q1⟩
              · rw [decide_eq_false (show ¬ V.str z = V.str "0" from fun e => ez (V.str.inj e))]
                show if true = true then _ else _
                rw [if_pos rfl]
                refine kN (fun ⟨n, hn, e⟩ => ez ?_) H' q1
                have n0 : n = 0 := head48 n n (Nat.le_refl _) (by rw [← tl_nT, ← e, ec] <;> rfl)
                rw [e, n0] <;> rfl
            · rw [decide_eq_false (show ¬ V.str ⟨#[c]⟩ = V.str "0" from fun e => by
                have e2 := congrArg tl (V.str.inj e)
                exact h48 (List.cons.inj e2).1)]
              refine iteF ?_
              obtain ⟨n, hn, e⟩ := isN_of l1 l2 d (fun e => by rw [ec] at e; exact absurd (Option.some.inj e) h48)
              refine iteF ?_
              exact ⟨_, rfl, z, (n : Int), rfl, by rw [e]; exact nT_int hn, by omega, kY n hn e H' q1⟩
          · have ad' := Bool.eq_false_iff.mpr ad
            rw [ad']
            show if true = true then _ else _
            rw [if_pos rfl]
            refine kN (fun ⟨n, hn, e⟩ => ad ?_) H' q1
            rw [List.all_map, List.all_eq_true]
            intro c hc
            rw [e, tl_nT] at hc
            have := numL_digits n c hc
            exact decide_eq_true (in_digits this.1 this.2)
      · rw [decide_eq_false (show ¬ (z.length : Int) ≤ 31 by omega)]
        show if true = true then _ else _
        rw [if_pos rfl]
        exact kN (fun ⟨n, hn, e⟩ => l2 (by rw [e]; exact (nT_len hn).2)) H Same.refl
    · rw [if_neg (fun e => l1 (by have := of_decide_eq_true e; omega))]
      refine ⟨_, rfl, ?_⟩
      show if true = true then _ else _
      rw [if_pos rfl]
      exact kN (fun ⟨n, hn, e⟩ => l1 (by rw [e]; exact (nT_len hn).1)) H Same.refl
end
end FT


/-! the package's errors: their __init__, how they are raised. -/
namespace FT
open PySem L2 TL ClX
/-- what the top has written of an error class at C, its __init__ at I; f its attribute, or the empty text -/
structure Er (K : PySem.W.Frag) (mg : Str → Option Value) (nm f : Str) (C I : Addr) : Prop where
  g : mg nm = some (.ref C)
  x : XCls K C
  ini : PySem.W.findIn K (.ref C) "__init__" = some (some (.ref I))
  ity : PySem.W.typeIn K (.ref I) = some (.type "function")
  no : PySem.W.findIn K (.ref C) f = some none
/-- the base class -/
structure Rt (K : PySem.W.Frag) (mg : Str → Option Value) (R : Addr) : Prop where
  g : mg "RolloutError" = some (.ref R)
  ini : XIni K R
def spInit1 (C : Addr) (f : Str) : Sp := fun vs H Q _ => ∃ (a : Addr) (v : V), vs = [.ref a, v] ∧ H a = some (exo a C none) ∧ ∀ d, H d = none → d ≠ a → Q .non (upd (upd H d (exd d [(f, v)])) a (exo a C (some d)))
def spInit0 (C : Addr) : Sp := fun vs H Q _ => ∃ (a : Addr), vs = [.ref a] ∧ H a = some (exo a C none) ∧ Q .non H
/-- C(v): what is asked -/
theorem raise1 {C : Addr} {f : Str} {H1 : Hp} {Q : XK} {v : V} (k : ∀ d, H1 d = none → Q (.ref C) (some d) (upd H1 d (.xd [(f, v)]))) :
    [v].length ≤ 1000 ∧ ∀ a, H1 a = none → spInit1 C f (.ref a :: ([v] ++ [])) (upd H1 a (exo a C none))
      (fun w H2 => w = .non ∧ ∃ (d : Addr) (fs : List (Str × V)), H2 a = some (exo a C (some d)) ∧ H2 d = some (exd d fs) ∧ H1 d = none ∧ Q (.ref C) (some d) (upd (del H2 a) d (.xd fs))) (fun _ _ _ => False) := by
  refine ⟨by show 1 ≤ 1000; omega, fun a na => ⟨a, v, rfl, upd_same, fun d nd nda => ⟨rfl, d, [(f, v)], upd_same, by rw [upd_ne nda, upd_same], ?_, ?_⟩⟩⟩
  · rw [upd_ne nda] at nd
    exact nd
  · rw [upd_ne nda] at nd
    have e : upd (del (upd (upd (upd H1 a (exo a C none)) d (exd d [(f, v)])) a (exo a C (some d))) a) d (.xd [(f, v)]) = upd H1 d (.xd [(f, v)]) := by
      funext b
      by_cases h1 : b = d
      · subst h1
        rw [upd_same, upd_same]
      · rw [upd_ne h1, upd_ne h1]
        by_cases h2 : b = a
        · subst h2
          rw [del_same, na]
        · rw [del_ne h2, upd_ne h2, upd_ne h1, upd_ne h2]
    rw [e]
    exact k d nd
/-- an error class with its __init__, as a whole: with one value -/
structure Er1 (P : Program) (w : World) (K : PySem.W.Frag) (mg : Str → Option Value) (base : Heap) (nm f : Str) (C I : Addr) (fd : FuncData) : Prop where
  e : Er K mg nm f C I
  fn : FnOk P w K mg base CX0 1 I fd ["self", f] (spInit1 C f)
  bn : Binds K fd ["self", f] []
structure Er0 (P : Program) (w : World) (K : PySem.W.Frag) (mg : Str → Option Value) (base : Heap) (nm : Str) (C I : Addr) (fd : FuncData) : Prop where
  e : Er K mg nm "" C I
  fn : FnOk P w K mg base CX0 1 I fd ["self"] (spInit0 C)
  bn : Binds K fd ["self"] []
section
variable {X : Cx} {W : WX} {nm f : Str} {C I : Addr} {fd : FuncData} {ex : Expr} {te : TE} {p pos pos2 : Pos}
/-- raise C(e) -/
theorem ps_err1 (L : Er1 X.prog X.w X.K X.mg X.base nm f C I fd) (hc : X.calm = true) (tk : Takes X W) (hr : Room 2 X.A) (hg : Gl X nm) (he : PE X ex te) (hdb : (nm == ("__debug__" : Str)) = false := by decide)
    (hse : starEach (ex :: []) X.env = (false, eval ex X.env) :: starEach [] X.env := by rfl) (hpl : (backTo pos (starEach [] X.env)).any (·.1) = false := by rfl) :
    PS X (.Raise (some (.Call (.Name nm p) [ex] [] pos)) none pos2) (fun _ σ H => tMkO C (spInit1 C f) [] (tCons te tNil) σ H fun cls d H' => W cls d σ H') :=
  ps_raise hc tk (pmk_oex L.e.x.oex L.e.ini L.e.ity L.fn hr L.bn .nil (fun _ _ _ _ _ _ _ h => h.elim) hg L.e.g (pa_cons (hs := hse) he pa_nil) hdb hse hpl)
end
end FT


namespace FT
open PySem L2 TL ClX
section
variable {P : Program} {w : World} {K : PySem.W.Frag} {mg : Str → Option Value} {base : Heap}
theorem sc_InvalidText : FnScope ["self", "line"] ["self", "line"] (defScope s_InvalidText___init__) := ⟨rfl, rfl, rfl, by decide +kernel, rfl, by decide +kernel, by decide +kernel⟩
theorem ok_InvalidText {f R C I : Addr} {fd : FuncData} (F : Fun K "__init__" "InvalidText.__init__" s_InvalidText___init__ f fd) (T : Rt K mg R) (L : Er K mg "InvalidText" "line" C I) : FnOk P w K mg base CX0 1 f fd ["self", "line"] (spInit1 C "line") := by
  refine F.ok sc_InvalidText (fun vs H Q E h => ?_) (fun cdv A outer s H vs Q E hr h => ?_)
  · obtain ⟨a, v, rfl, _⟩ := h
    rfl
  · obtain ⟨a, v, rfl, ha, k⟩ := h
    refine ⟨_, pss_cons (ps_expr (pe_clsinit T.ini rfl T.g (pa_cons (pv 0) (pa_cons pe_str pa_nil)))) (pss_one (ps_ost (pv 0) (pv 1))), ?_⟩
    refine ⟨_, rfl, a, C, _, rfl, by show 1 ≤ 1000; omega, L.x.oex, ha, ?_⟩
    exact ⟨_, rfl, _, rfl, a, C, rfl, L.x.oex, L.no, .inl ⟨ha, fun d nd nda => k d nd nda⟩⟩
end
end FT


/-! data of any kind; what is raised; numbers by places -/
namespace FT
open PySem L2 TL ClX
/-! ### data of any kind -/
inductive Dat (K : PySem.W.Frag) (H : Hp) : V → String → Prop where
  | non : Dat K H .non "NoneType"
  | bl (b : Bool) : Dat K H (.bl b) "bool"
  | int (i : Int) : Dat K H (.int i) "int"
  | str (z : Str) : Dat K H (.str z) "str"
  | lst {a : Addr} {xs : List V} (h : H a = some (.lst xs)) : Dat K H (.ref a) "list"
  | tup {a : Addr} {xs : List V} (h : H a = some (.tup xs)) : Dat K H (.ref a) "tuple"
  | dct {a : Addr} {kvs : List (Key × V)} (h : H a = some (.dK kvs)) : Dat K H (.ref a) "dict"
theorem Dat.ty {K : PySem.W.Frag} {H : Hp} {v : V} {T : String} (d : Dat K H v T) : TyX K H v (.type T) := by
  cases d with
  | non => exact .base .non
  | bl b => exact .base (.bl b)
  | int i => exact .base (.int i)
  | str z => exact .base (.str z)
  | lst h => exact .base (.lst h)
  | tup h => exact .base (.tup h)
  | dct h => exact .base (.dK h)
theorem Dat.mono {K : PySem.W.Frag} {H H' : Hp} {v : V} {T : String} (s : Same H H') (d : Dat K H v T) : Dat K H' v T := by
  cases d with
  | non => exact .non
  | bl b => exact .bl b
  | int i => exact .int i
  | str z => exact .str z
  | lst h => exact .lst (s _ _ h)
  | tup h => exact .tup (s _ _ h)
  | dct h => exact .dct (s _ _ h)
def IsDat (K : PySem.W.Frag) (H : Hp) (v : V) : Prop := ∃ T, Dat K H v T
theorem IsDat.mono {K : PySem.W.Frag} {H H' : Hp} {v : V} (s : Same H H') (d : IsDat K H v) : IsDat K H' v := let ⟨T, d⟩ := d; ⟨T, d.mono s⟩
/-- isinstance(v, int) -/
def isIntV : V → Bool
  | .int _ => true
  | .bl _ => true
  | _ => false
def isBlV : V → Bool
  | .bl _ => true
  | _ => false
def isDictV (H : Hp) (v : V) : Bool := match v with
  | .ref a => match H a with
    | some (.dK _) => true
    | _ => false
  | _ => false
theorem Dat.str_ {K : PySem.W.Frag} {H : Hp} {v : V} {T : String} (d : Dat K H v T) : PySem.W.kitOne K (.type T) (.type "str") = some (decide (T = "str")) := by
  cases d with
  | non => exact kit_ty (r := false) (by decide +kernel)
  | bl b => exact kit_ty (r := false) (by decide +kernel)
  | int i => exact kit_ty (r := false) (by decide +kernel)
  | str z => exact kit_ty (r := true) (by decide +kernel)
  | lst h => exact kit_ty (r := false) (by decide +kernel)
  | tup h => exact kit_ty (r := false) (by decide +kernel)
  | dct h => exact kit_ty (r := false) (by decide +kernel)
/-- an integer, no bool, of at least l -/
def isGe (v : V) (l : Int) : Bool := match v with
  | .int i => decide (l ≤ i)
  | _ => false
/-! ### what is raised -/
inductive Err where
  | e0 (C : Addr)
  | e1 (C : Addr) (f : Str) (v : V)
/-- the way out of such an error, from the heap H -/
def Out (H : Hp) (E : XK) : Err → Prop
  | .e0 C => ∀ H', Same H H' → E (.ref C) none H'
  | .e1 C f v => ∀ d H', Same H H' → H d = none → H' d = some (.xd [(f, v)]) → E (.ref C) (some d) H'
theorem Out.mono {H H1 : Hp} {E : XK} {e : Err} (s : Same H H1) (o : Out H E e) : Out H1 E e := by
  cases e with
  | e0 C => exact fun H' s' => o H' (s.trans s')
  | e1 C f v => exact fun d H' s' n => o d H' (s.trans s') (s.free n)
/-- raise C(v) in a def that lets it out -/
theorem out1 {C : Addr} {f : Str} {v : V} {H H1 : Hp} {E : XK} (o : Out H E (.e1 C f v)) (s : Same H H1) :
    [v].length ≤ 1000 ∧ ∀ a, H1 a = none → spInit1 C f (.ref a :: ([v] ++ [])) (upd H1 a (exo a C none))
      (fun w H2 => w = .non ∧ ∃ (d : Addr) (fs : List (Str × V)), H2 a = some (exo a C (some d)) ∧ H2 d = some (exd d fs) ∧ H1 d = none ∧ E (.ref C) (some d) (upd (del H2 a) d (.xd fs))) (fun _ _ _ => False) :=
  raise1 (Q := fun cls d H' => E cls d H') fun d nd => o d _ (s.trans (same_new nd)) (s.free nd) upd_same
/-! ### numbers by places -/
def tblI (l : List Str) (g : Str → Int) : List (Key × V) := kvT (l.map fun a => (a, V.int (g a)))
theorem tblI_len (l : List Str) (g : Str → Int) : (tblI l g).length = l.length := by unfold tblI; rw [kvT_len, List.length_map]
theorem tblI_fst (l : List Str) (g : Str → Int) : (l.map fun a => (a, V.int (g a))).map Prod.fst = l := by rw [List.map_map]; exact List.map_id _
theorem tblI_at {l : List Str} {g : Str → Int} {i : Nat} {k : Key} {v : V} (h : (tblI l g)[i]? = some (k, v)) : ∃ a, l[i]? = some a ∧ k = Sum.inr a ∧ v = .int (g a) := by
  unfold tblI kvT at h
  rw [List.map_map, List.getElem?_map] at h
  obtain ⟨a, ha, e⟩ := Option.map_eq_some_iff.mp h
  cases e
  exact ⟨a, ha, rfl, rfl⟩
theorem tblI_val {l : List Str} {g : Str → Int} {a : Str} (h : a ∈ l) : valV (tblI l g) (Sum.inr a) = some (.int (g a)) := by
  unfold tblI
  rw [kvT_val]
  induction l with
  | nil => cases h
  | cons b l ih =>
    rw [List.map_cons, look_cons]
    by_cases e : b = a
    · subst e
      exact if_pos rfl
    · rw [if_neg e]
      exact ih ((List.mem_cons.mp h).resolve_left fun z => e z.symm)
theorem tblI_snoc {l : List Str} {g : Str → Int} {a : Str} {z : Int} (h : a ∉ l) (e : z = g a) : putK (tblI l g) (Sum.inr a) (.int z) = tblI (l ++ [a]) g := by
  unfold tblI
  rw [kvT_put (by rw [tblI_fst]; exact h), List.map_append, e] <;> rfl
/-! ### feasible sizes -/
/-- sizes: a dict, its pairs told, or another value -/
def SzV (K : PySem.W.Frag) (H : Hp) (sv : V) : Option (List (Key × V)) → Prop
  | some kvs => ∃ q, sv = .ref q ∧ H q = some (.dK kvs) ∧ ∀ p ∈ kvs, IsDat K H p.2
  | none => ∃ T, Dat K H sv T ∧ T ≠ "dict"
theorem SzV.mono {K : PySem.W.Frag} {H H' : Hp} {sv : V} {o : Option (List (Key × V))} (s : Same H H') (h : SzV K H sv o) : SzV K H' sv o := by
  cases o with
  | none => exact let ⟨T, d, n⟩ := h; ⟨T, d.mono s, n⟩
  | some kvs => exact let ⟨q, e, h, a⟩ := h; ⟨q, e, s _ _ h, fun p hp => (a p hp).mono s⟩
def szOf (kvs : List (Key × V)) (a : Str) : Int := match valV kvs (Sum.inr a) with
  | some (.int i) => i
  | _ => 0
def badKey (kvs : List (Key × V)) (a : Str) : Bool := !isGe ((valV kvs (Sum.inr a)).getD .non) 0
/-- the place of the first fault, as the error tells it -/
def feas (ts : List (Str × Str)) (n : Int) : Option (List (Key × V)) → Option V
  | none => some .non
  | some kvs => if kvs.length ≠ ts.length then some .non else if (ts.map Prod.fst).all (fun a => (valV kvs (Sum.inr a)).isSome) = false then some .non else
    match (ts.map Prod.fst).find? (badKey kvs) with
    | some a => some (.str a)
    | none => ((("" : Str) :: ts.map Prod.fst).find? fun p => decide (resid ts n (szOf kvs) p < 0)).map V.str
def usersOk (v : V) (m : Int) : Bool := match v with
  | .int i => decide (1 ≤ i) && decide (i ≤ m)
  | _ => false
def feE (CS : Addr) (ts : List (Str × Str)) (n : Int) (o : Option (List (Key × V))) : Option Err := (feas ts n o).map fun v => .e1 CS "place" v
def szE (CU CS : Addr) (ts : List (Str × Str)) (uv : V) (o : Option (List (Key × V))) : Option Err := if usersOk uv (10 ^ 30) = true then feE CS ts (match uv with | .int n => n | _ => 0) o else some (.e0 CU)
/-- a def that hands back None, or raises -/
def Res (H : Hp) (Q : VK) (E : XK) : Option Err → Prop
  | none => ∀ H', Same H H' → Q .non H'
  | some e => Out H E e
theorem Res.mono {H H1 : Hp} {Q : VK} {E : XK} {o : Option Err} (s : Same H H1) (r : Res H Q E o) : Res H1 Q E o := by
  cases o with
  | none => exact fun H' s' => r H' (s.trans s')
  | some e => exact Out.mono s r
def spIsInt (K : PySem.W.Frag) : Sp := fun vs H Q _ => ∃ (v : V) (l : Int), vs = [v, .int l] ∧ IsDat K H v ∧ Q (.bl (isGe v l)) H
def spUsers (K : PySem.W.Frag) (CU : Addr) : Sp := fun vs H Q E => ∃ (v : V) (m : Int), vs = [v, .int m] ∧ IsDat K H v ∧ Res H Q E (if usersOk v m = true then none else some (.e0 CU))
def spResid (CF : Addr) : Sp := fun vs H Q _ => ∃ (x q : Addr) (n : Int) (ts : List (Str × Str)) (kvs : List (Key × V)), vs = [.ref x, .int n, .ref q] ∧ FAt CF H x ts ∧ TreeOk ts ∧ H q = some (.dK kvs) ∧ (∀ a ∈ ts.map Prod.fst, valV kvs (Sum.inr a) = some (.int (szOf kvs a))) ∧
  ∀ p H', Same H H' → H p = none → H' p = some (.dK (tblI ("" :: ts.map Prod.fst) (resid ts n (szOf kvs)))) → Q (.ref p) H'
def spFeas (K : PySem.W.Frag) (CF CS : Addr) : Sp := fun vs H Q E => ∃ (x : Addr) (n : Int) (sv : V) (ts : List (Str × Str)) (o : Option (List (Key × V))), vs = [.ref x, .int n, sv] ∧ FAt CF H x ts ∧ TreeOk ts ∧ SzV K H sv o ∧ Res H Q E (feE CS ts n o)
def spNSizes (K : PySem.W.Frag) (CF CU CS : Addr) : Sp := fun vs H Q E => ∃ (x : Addr) (uv sv : V) (ts : List (Str × Str)) (o : Option (List (Key × V))), vs = [.ref x, uv, sv] ∧ FAt CF H x ts ∧ TreeOk ts ∧ IsDat K H uv ∧ SzV K H sv o ∧ Res H Q E (szE CU CS ts uv o)
end FT


/-! texts: what they denote, plain -/
namespace FT
open PySem L2 TL ClX
theorem nT_inj {n m : Nat} (hn : n < 10 ^ 31) (hm : m < 10 ^ 31) (e : nT n = nT m) : n = m := by
  have h1 := nT_int hn
  rw [e, nT_int hm] at h1
  have := Option.some.inj h1
  omega
/-- a part: flag=number -/
def IsPart (a w : Str) : Prop := ∃ n : Nat, n < 10 ^ 31 ∧ w = a ++ "=" ++ nT n
open Classical in
noncomputable def numP (a w : Str) : Nat := if h : IsPart a w then h.choose else 0
theorem numP_eq {a w : Str} {n : Nat} (hn : n < 10 ^ 31) (e : w = a ++ "=" ++ nT n) : numP a w = n := by
  have h : IsPart a w := ⟨n, hn, e⟩
  unfold numP
  rw [dif_pos h]
  obtain ⟨h1, h2⟩ := h.choose_spec
  refine nT_inj h1 hn ?_
  have h3 := congrArg tl (e.symm.trans h2)
  rw [tl_append, tl_append (a ++ "=")] at h3
  exact (ext_tl (List.append_cancel_left h3)).symm
theorem cut_fromT (z : Str) (k : Nat) : tl (cutS z (some (k : Int)) none) = (tl z).drop k := by
  have e : HT.sIx z.length 0 (some (k : Int)) = min k z.length := HT.sIx_nat _ _ k
  show ((tl z).drop (HT.sIx z.length 0 (some (k : Int)))).take (z.length - HT.sIx z.length 0 (some (k : Int))) = (tl z).drop k
  rw [e, len_tl]
  rcases Nat.le_total k (tl z).length with h | h
  · rw [Nat.min_eq_left h, List.take_of_length_le]
    rw [List.length_drop]
    omega
  · rw [Nat.min_eq_right h, List.drop_eq_nil_of_le (Nat.le_refl _), List.take_nil, List.drop_eq_nil_of_le h]
theorem cut_toT (z : Str) (k : Nat) : tl (cutS z none (some (k : Int))) = (tl z).take k := by
  have e : HT.sIx z.length z.length (some (k : Int)) = min k z.length := HT.sIx_nat _ _ k
  show ((tl z).drop 0).take (HT.sIx z.length z.length (some (k : Int)) - 0) = (tl z).take k
  rw [e, List.drop_zero, Nat.sub_zero, len_tl, ← List.take_take, List.take_length]
theorem cut_any_len (z : Str) (lo hi : Option Int) : (cutS z lo hi).length ≤ z.length := by
  rw [len_tl]
  unfold cutS
  show ((tl z).drop _ |>.take _).length ≤ _
  rw [List.length_take, List.length_drop, len_tl]
  omega
/-- what stands behind the flag -/
def tailP (a w : Str) : Str := cutS w (some ((a.length : Int) + 1)) none
def headP (a w : Str) : Str := cutS w none (some ((a.length : Int) + 1))
theorem tl_tailP (a w : Str) : tl (tailP a w) = (tl w).drop ((tl a).length + 1) := by
  unfold tailP
  rw [show ((a.length : Int) + 1) = (((tl a).length + 1 : Nat) : Int) by rw [len_tl]; omega, cut_fromT]
theorem tl_headP (a w : Str) : tl (headP a w) = (tl w).take ((tl a).length + 1) := by
  unfold headP
  rw [show ((a.length : Int) + 1) = (((tl a).length + 1 : Nat) : Int) by rw [len_tl]; omega, cut_toT]
theorem tl_ae (a : Str) : (tl (a ++ "=")).length = (tl a).length + 1 := by
  rw [tl_append, List.length_append] <;> rfl
theorem starts_head (a w : Str) : Txt.startswith w (a ++ "=") = decide (headP a w = a ++ "=") := by
  unfold Txt.startswith
  rw [StrLaws.subAt_eq, List.drop_zero, Bool.eq_iff_iff, Bool.and_eq_true, decide_eq_true_eq, decide_eq_true_eq, beq_iff_eq]
  have l1 : (a ++ "=").length = (tl a).length + 1 := by rw [len_tl, tl_ae]
  rw [l1]
  constructor
  · intro ⟨_, h⟩
    refine ext_tl ?_
    rw [tl_headP]
    exact h
  · intro h
    have h2 := congrArg tl h
    rw [tl_headP] at h2
    refine ⟨?_, h2⟩
    have h3 := congrArg List.length h2
    rw [List.length_take, tl_ae] at h3
    rw [len_tl]
    omega
theorem head_split {a w : Str} (h : headP a w = a ++ "=") : w = a ++ "=" ++ tailP a w := by
  refine ext_tl ?_
  rw [tl_append, ← h, tl_headP, tl_tailP, List.take_append_drop]
theorem part_iff (a w : Str) : IsPart a w ↔ headP a w = a ++ "=" ∧ IsN (tailP a w) := by
  constructor
  · intro ⟨n, hn, e⟩
    have l : (tl a).length + 1 = (tl (a ++ "=")).length := (tl_ae a).symm
    constructor
    · refine ext_tl ?_
      rw [tl_headP, e, tl_append (a ++ "="), l, List.take_left]
    · refine ⟨n, hn, ext_tl ?_⟩
      rw [tl_tailP, e, tl_append (a ++ "="), l, List.drop_left]
  · intro ⟨h, n, hn, e⟩
    refine ⟨n, hn, ?_⟩
    rw [← e]
    exact head_split h
theorem part_num {a w : Str} {n : Nat} (h : headP a w = a ++ "=") (hn : n < 10 ^ 31) (e : tailP a w = nT n) : IsPart a w ∧ numP a w = n := by
  have ew : w = a ++ "=" ++ nT n := by
    rw [← e]
    exact head_split h
  exact ⟨⟨n, hn, ew⟩, numP_eq hn ew⟩
/-- all parts are right -/
def GoodW (fl ws : List Str) : Prop := ws.length = fl.length ∧ ∀ (i : Nat) (a w : Str), fl[i]? = some a → ws[i]? = some w → IsPart a w
/-- the number of a flag -/
noncomputable def gW (fl ws : List Str) (a : Str) : Int := (numP a ((ws[fl.idxOf a]?).getD "") : Nat)
theorem gW_at {fl ws : List Str} (nd : fl.Nodup) {i : Nat} {a w : Str} (ha : fl[i]? = some a) (hw : ws[i]? = some w) : gW fl ws a = (numP a w : Nat) := by
  have il := (List.getElem?_eq_some_iff.mp ha).1
  have ea := (List.getElem?_eq_some_iff.mp ha).2
  have : fl.idxOf a = i := by
    rw [← ea]
    exact nd.idxOf_getElem i il
  unfold gW
  rw [this, hw] <;> rfl
/-- a line that is no place's -/
def badL (fl : List Str) (r : Str) : Bool := decide (r ≠ "-") && decide (r ∉ fl)
theorem badL_dash {fl : List Str} : badL fl "-" = false := rfl
theorem badL_no {fl : List Str} {r : Str} (h : r ≠ "-") : badL fl r = decide (r ∉ fl) := by
  unfold badL
  rw [decide_eq_true h] <;> rfl
def plc (r : Str) : Str := if r = "-" then "" else r
/-- the places of lines, or the line of the error -/
def plOf (fl ws : List Str) : Nat ⊕ List Str := match ws.dropLast.findIdx? (badL fl) with
  | some i => .inl i
  | none => if ws.getLast? = some ("" : Str) ∧ 1 ≤ ws.dropLast.length ∧ ws.dropLast.length ≤ 60 then .inr (ws.dropLast.map plc) else .inl ws.dropLast.length
theorem plOf_bad {fl ws : List Str} {i : Nat} {r : Str} (h : ws.dropLast[i]? = some r) (b : badL fl r = true) (ok : ∀ (j : Nat) (q : Str), j < i → ws.dropLast[j]? = some q → badL fl q = false) : plOf fl ws = .inl i := by
  have e : ws.dropLast.findIdx? (badL fl) = some i := by
    rw [List.findIdx?_eq_some_iff_getElem]
    obtain ⟨il, er⟩ := List.getElem?_eq_some_iff.mp h
    refine ⟨il, by rw [er]; exact b, fun j hj => ?_⟩
    rw [ok j _ hj (List.getElem?_eq_getElem (Nat.lt_trans hj il))]
    exact Bool.false_ne_true
  unfold plOf
  rw [e]
theorem plOf_ok {fl ws : List Str} (ok : ∀ q ∈ ws.dropLast, badL fl q = false) : plOf fl ws = if ws.getLast? = some ("" : Str) ∧ 1 ≤ ws.dropLast.length ∧ ws.dropLast.length ≤ 60 then .inr (ws.dropLast.map plc) else .inl ws.dropLast.length := by
  have e : ws.dropLast.findIdx? (badL fl) = none := by
    rw [List.findIdx?_eq_none_iff]
    exact ok
  unfold plOf
  rw [e]
theorem split_ne (x y : Str) : Txt.split x y ≠ [] := by
  unfold Txt.split
  split
  · simp
  · split
    · simp
    · rw [StrLaws.partsBetween_eq]
      obtain ⟨p, r, e⟩ := StrLaws.partsFrom_ne x y.length 0 (Builtin.Str.occurrences x y 0 x.length (x.length + 1))
      rw [e]
      simp
/-- the parts' weight -/
def wgt (ls : List Str) : Nat := (ls.map fun z => z.length + 1).sum
theorem wgt_app (a b : List Str) : wgt (a ++ b) = wgt a + wgt b := by
  unfold wgt
  rw [List.map_append, List.sum_append]
theorem wgt_cons (z : Str) (l : List Str) : wgt (z :: l) = z.length + 1 + wgt l := by
  unfold wgt
  rw [List.map_cons, List.sum_cons]
theorem wgt_len : ∀ ls : List Str, ls.length ≤ wgt ls
  | [] => Nat.zero_le _
  | z :: l => by
    have := wgt_len l
    rw [wgt_cons, List.length_cons]
    omega
theorem wgt_sum : ∀ ls : List Str, (ls.map (·.length)).sum + ls.length = wgt ls
  | [] => rfl
  | z :: l => by
    have := wgt_sum l
    rw [wgt_cons, List.map_cons, List.sum_cons, List.length_cons]
    omega
theorem join_wgt (y : Str) (h1 : y.length = 1) : ∀ ls : List Str, ls ≠ [] → (Str.join y ls).length + 1 = wgt ls
  | [], h => absurd rfl h
  | [z], _ => by
    rw [wgt_cons]
    rfl
  | z :: u :: r, _ => by
    have ih := join_wgt y h1 (u :: r) (by simp)
    rw [wgt_cons]
    show (z ++ y ++ Str.join y (u :: r)).length + 1 = _
    rw [Str.length_append, Str.length_append]
    omega
theorem join_wgt_le (y : Str) (h1 : y.length = 1) (ls : List Str) : (Txt.join y ls).length ≤ wgt ls := by
  rw [join_eq]
  cases ls with
  | nil => exact Nat.zero_le _
  | cons a l =>
    have := join_wgt y h1 (a :: l) (by simp)
    omega
theorem split_wgt {x y : Str} (h1 : y.length = 1) : wgt (Txt.split x y) = x.length + 1 := by
  rw [← join_wgt y h1 _ (split_ne x y), StrLaws.join_split]
theorem split_few {x y : Str} (h1 : y.length = 1) : (Txt.split x y).length ≤ x.length + 1 := by
  rw [← split_wgt h1]
  exact wgt_len _
theorem wgt_mem {ls : List Str} {z : Str} (h : z ∈ ls) : z.length + 1 ≤ wgt ls := by
  induction ls with
  | nil => cases h
  | cons u l ih =>
    rw [wgt_cons]
    rcases List.mem_cons.mp h with rfl | h
    · omega
    · have := ih h
      omega
end FT


/-! lists of texts as data, for == and !=. -/
namespace FT
open PySem L2 TL
theorem dps_strs {K : PySem.W.Frag} {H : Hp} : ∀ ts : List Str, DpAll K H (ts.map V.str) (ts.map PyData.str)
  | [] => .nil
  | t :: ts => .cons (.str t) (dps_strs ts)
theorem strs_lay : ∀ {ts : List Str}, (∀ t ∈ ts, PyData.strOk t = true) → PyData.canLayAll0 (ts.map PyData.str) = true ∧ PyData.depthAll (ts.map PyData.str) ≤ 0
  | [], _ => ⟨rfl, Nat.le_refl _⟩
  | t :: ts, h => by
    obtain ⟨h1, h2⟩ := strs_lay (ts := ts) fun b hb => h b (List.mem_cons_of_mem _ hb)
    constructor
    · show (PyData.strOk t && PyData.canLayAll0 (ts.map PyData.str)) = true
      rw [h t (List.mem_cons_self ..), h1] <;> rfl
    · show max 0 (PyData.depthAll (ts.map PyData.str)) ≤ 0
      omega
theorem strs_shaped {ts : List Str} (h : ∀ t ∈ ts, PyData.strOk t = true) : SeqAt.shaped (.list (ts.map PyData.str)) = true := by
  obtain ⟨h1, h2⟩ := strs_lay h
  unfold SeqAt.shaped
  have c : (PyData.list (ts.map PyData.str)).canLay0 = true := h1
  rw [c]
  have d : (PyData.list (ts.map PyData.str)).depth ≤ 64 := by
    show PyData.depthAll (ts.map PyData.str) + 1 ≤ 64
    omega
  rw [decide_eq_true d] <;> rfl
end FT


/-! family C (as k50): the drawing state of three items; begin, draw, pick. -/
namespace FT
open PySem L2 TL ClX
/-- the drawing state: at d the list [cells, next, mixed], the cells at c -/
def DrawAt (H : Hp) (d c : Addr) : Prop := ∃ (nx mx : Int) (cells : List Int), H d = some (.lst [.ref c, .int nx, .int mx]) ∧ H c = some (.lst (cells.map V.int)) ∧ cells ≠ [] ∧ cells.length ≤ 63 ∧ (∀ z ∈ cells, 0 ≤ z) ∧ 0 ≤ nx ∧ 0 ≤ mx ∧ mx < 2147483647
/-- all that was tracked, but d and c, is as it was -/
def Keep (d c : Addr) (H H' : Hp) : Prop := ∀ b o, b ≠ d → b ≠ c → H b = some o → H' b = some o
theorem Keep.refl {d c : Addr} {H : Hp} : Keep d c H H := fun _ _ _ _ e => e
theorem Keep.trans {d c : Addr} {H H1 H2 : Hp} (a : Keep d c H H1) (b : Keep d c H1 H2) : Keep d c H H2 := fun x o h h' e => b x o h h' (a x o h h' e)
theorem Keep.of_same {d c : Addr} {H H' : Hp} (s : Same H H') : Keep d c H H' := fun b o _ _ e => s b o e
theorem DrawAt.mono {H H' : Hp} {d c : Addr} (s : Same H H') (x : DrawAt H d c) : DrawAt H' d c := by
  obtain ⟨nx, mx, cells, h1, h2, r⟩ := x
  exact ⟨nx, mx, cells, s _ _ h1, s _ _ h2, r⟩
theorem DrawAt.apart {H : Hp} {d c p : Addr} (x : DrawAt H d c) (n : H p = none) : p ≠ d ∧ p ≠ c := by
  obtain ⟨nx, mx, cells, h1, h2, r⟩ := x
  exact ⟨(ne_of_none h1 n).symm, (ne_of_none h2 n).symm⟩
theorem ints_ne {ns : List Int} {c : Addr} {r : List V} : ns.map V.int ≠ V.ref c :: r := by
  cases ns with
  | nil => intro h; cases h
  | cons a t => intro h; cases h
theorem DrawAt.ne {H : Hp} {d c : Addr} (x : DrawAt H d c) : c ≠ d := by
  obtain ⟨_, _, _, h1, h2, _⟩ := x
  exact ne_of h2 h1 fun z => ints_ne (HO.lst.inj z)
def spBegin (K : PySem.W.Frag) : Sp := fun vs H Q _ => ∃ (a : Addr) (ns : List Int), vs = [.ref a] ∧ SqL K H a (ns.map V.int) ∧ ns.length ≤ 63 ∧
  ∀ (H' : Hp) (d c : Addr), Same H H' → H d = none → H c = none → DrawAt H' d c → Q (.ref d) H'
def spDraw : Sp := fun vs H Q _ => ∃ (d c : Addr) (n : Int), vs = [.ref d, .int n] ∧ DrawAt H d c ∧ 0 < n ∧ n.natAbs < 2 ^ 200 ∧
  ∀ (k : Int) (H' : Hp), 0 ≤ k → k < n → DrawAt H' d c → Keep d c H H' → Q (.int k) H'
/-- an item of a list, a sign of a text -/
def Items (K : PySem.W.Frag) (H : Hp) (d c : Addr) (v : V) (n : Nat) (P : Nat → V → Prop) : Prop :=
  (∃ (l : Addr) (xs : List V), v = .ref l ∧ l ≠ d ∧ l ≠ c ∧ H l = some (.lst xs) ∧ xs.length = n ∧ ∀ i x, xs[i]? = some x → P i x) ∨
  (∃ z : Str, v = .str z ∧ z.length = n ∧ ∀ i s, z.cps.toList[i]? = some s → P i (.str ⟨#[s]⟩))
def spPick (K : PySem.W.Frag) : Sp := fun vs H Q _ => ∃ (d c : Addr) (v : V) (n : Nat) (P : Nat → V → Prop), vs = [.ref d, v] ∧ DrawAt H d c ∧ Items K H d c v n P ∧ 0 < n ∧ n < 1000 ∧
  ∀ (i : Nat) (x : V) (H' : Hp), P i x → DrawAt H' d c → Keep d c H H' → Q x H'
def mags (ms : List Int) : List Int := ms.map fun i => if i < 0 then -i else i
theorem mags_nn (ms : List Int) : ∀ z ∈ mags ms, 0 ≤ z := fun z h => by
  obtain ⟨i, _, rfl⟩ := List.mem_map.mp h
  split <;> omega
theorem at_mod {cells : List Int} {nx : Int} (ne : cells ≠ []) : ∃ (j : Nat) (z : Int), nx % ((cells.map V.int).length : Int) = (j : Int) ∧ j < cells.length ∧ cells[j]? = some z ∧ z ∈ cells := by
  have l0 : 0 < cells.length := List.length_pos_iff.mpr ne
  rw [List.length_map]
  have h1 : 0 ≤ nx % (cells.length : Int) := Int.emod_nonneg _ (by omega)
  have h2 : nx % (cells.length : Int) < (cells.length : Int) := Int.emod_lt_of_pos _ (by omega)
  refine ⟨(nx % (cells.length : Int)).toNat, cells[(nx % (cells.length : Int)).toNat]'(by omega), by omega, by omega, by simp, List.getElem_mem _⟩
section
variable {P : Program} {w : World} {K : PySem.W.Frag} {mg : Str → Option Value} {base : Heap}
theorem scBegin : FnScope ["_law_script", "_law_cell"] ["_law_script"] (defScope s__law_begin) := ⟨rfl, rfl, rfl, by decide +kernel, rfl, by decide +kernel, by decide +kernel⟩
theorem ok_begin {f : Addr} {fd : FuncData} (F : Fun K "_law_begin" "_law_begin" s__law_begin f fd) (T : Nm mg) : FnOk P w K mg base CX0 1 f fd ["_law_script"] (spBegin K) := by
  refine F.ok scBegin (fun vs H Q E h => ?_) (fun cdv A outer s H vs Q E hr h => ?_)
  · obtain ⟨a, ns, rfl, _⟩ := h
    rfl
  · obtain ⟨a, ns, rfl, hS, hlen, k⟩ := h
    refine ⟨_, pss_one (ps_ret (pe_lst (pa_cons (pe_orT (pe_lc (own := [("_law_cell", 1)]) (g := gName 1) (tt := tYes) rfl scBegin.nd (pi_list (pe_slice sl_list (pv 0) po_none (po_some pe_int))) (blkOk_by (N := ["_law_script", "_law_cell"]) (sc := defScope s__law_begin) (by decide +kernel))
      (fun _ _ _ _ _ => pg_name (i := 1) scBegin.nd rfl (Or.inl rfl)) (fun _ _ _ _ _ => pts_nil) (fun _ _ _ _ _ => pe_callB call_abs (by rfl) T.abs (by decide +kernel) (pa_cons (pv 1) pa_nil))) (pe_one (pe_lst (pa_cons pe_int pa_nil))))
      (pa_cons pe_int (pa_cons pe_int pa_nil))))), ?_⟩
    obtain ⟨ms, em, lm⟩ := cut_ints ns none (some 63)
    refine ⟨_, rfl, _, rfl, a, _, rfl, hS, fun p np => ?_⟩
    rw [em]
    have s1 : Same H (upd H p (.lst (ms.map V.int))) := same_new np
    refine ⟨p, rfl, ⟨_, SqL.of upd_same⟩, fun D nD => lc_list (xs := ms.map V.int) (fun i H' => Same (upd H p (.lst (ms.map V.int))) H' ∧ H' D = some (.lst ((mags (ms.take i)).map V.int))) ?_ ?_ ?_ ?_⟩
    · exact ⟨same_new nD, by rw [upd_same, List.take_zero] <;> rfl⟩
    · exact fun i H' _ q => Same.sql q.1 (SqL.of upd_same)
    · intro i x H' hx ⟨q1, q2⟩
      obtain ⟨z, hz, rfl⟩ : ∃ z, ms[i]? = some z ∧ x = V.int z := by
        rw [List.getElem?_map] at hx
        obtain ⟨z, hz, rfl⟩ := Option.map_eq_some_iff.mp hx
        exact ⟨z, hz, rfl⟩
      refine ⟨rfl, ?_⟩
      refine ⟨_, rfl, z, rfl, _, q2, ?_, ?_⟩
      · rw [List.length_map]
        unfold mags
        rw [List.length_map, List.length_take]
        exact Nat.lt_of_le_of_lt (Nat.min_le_right _ _) (Nat.lt_of_le_of_lt (Nat.le_trans lm hlen) (by decide))
      · refine ⟨fun b o e => ?_, ?_⟩
        · rw [upd_ne (ne_of_none e nD)]
          exact q1 b o e
        · rw [upd_same, take_more hz]
          unfold mags
          rw [List.map_append, List.map_append] <;> rfl
    · intro H' ⟨q1, q2⟩
      rw [List.length_map, List.take_length] at q2
      have sH : Same H H' := Same.trans s1 q1
      refine ⟨_, .inl ⟨_, SqL.of q2, rfl⟩, ?_⟩
      have hD : H D = none := Same.free s1 nD
      refine ite2 (fun nz => ?_) (fun nz => ?_)
      · refine ⟨by show 3 ≤ sizeLine; decide, fun d nd => ?_⟩
        have ncd : D ≠ d := ne_of_none q2 nd
        refine k _ d D (Same.trans sH (same_new nd)) (Same.free sH nd) hD ⟨0, 1, mags ms, upd_same, by rw [upd_ne ncd]; exact q2, fun z => ?_, ?_, mags_nn ms, by omega, by omega, by omega⟩
        · rw [z] at nz
          cases nz
        · unfold mags
          rw [List.length_map]
          exact Nat.le_trans lm hlen
      · refine ⟨by show 1 ≤ sizeLine; decide, fun c nc => ?_⟩
        refine ⟨by show 3 ≤ sizeLine; decide, fun d nd => ?_⟩
        have ncd : c ≠ d := ne_of_none upd_same nd
        have nd' : H' d = none := by
          rw [upd_ne (Ne.symm ncd)] at nd
          exact nd
        exact k _ d c (Same.trans sH (Same.trans (same_new nc) (same_new nd))) (Same.free sH nd') (Same.free sH nc) ⟨0, 1, [1], upd_same, by rw [upd_ne ncd, upd_same] <;> rfl, by simp, by decide, by simp, by omega, by omega, by omega⟩
theorem scDraw : FnScope ["_law_state", "_law_many", "_law_cells", "_law_at", "_law_cell"] ["_law_state", "_law_many"] (defScope s__law_draw) := ⟨rfl, rfl, rfl, by decide +kernel, rfl, by decide +kernel, by decide +kernel⟩
theorem ok_draw {f : Addr} {fd : FuncData} (F : Fun K "_law_draw" "_law_draw" s__law_draw f fd) (T : Nm mg) : FnOk P w K mg base CX0 1 f fd ["_law_state", "_law_many"] spDraw := by
  refine F.ok scDraw (fun vs H Q E h => ?_) (fun cdv A outer s H vs Q E hr h => ?_)
  · obtain ⟨d, c, n, rfl, _⟩ := h
    rfl
  · obtain ⟨d, c, n, rfl, hD, n0, n1, k⟩ := h
    have ncd := hD.ne
    obtain ⟨nx, mx, cells, hd, hc, ne, len, nn, a0, m0, m1⟩ := hD
    refine ⟨_, pss_cons (ps_set (i := 2) scDraw.nd rfl (.inl rfl) (pe_ix ix_list (pv 0) pe_int (fun _ _ => rfl)))
      (pss_cons (ps_set (i := 3) scDraw.nd rfl (.inl rfl) (pe_op op_mod (pe_ix ix_list (pv 0) pe_int (fun _ _ => rfl)) (pe_callB call_len_seq (by rfl) T.len PySem.boot_len (pa_cons (pv 2) pa_nil))))
      (pss_cons (ps_set (i := 4) scDraw.nd rfl (.inl rfl) (pe_ix ix_list (pv 2) (pv 3) (fun _ _ => rfl)))
      (pss_cons (ps_if (pt_cmpR op_ge (pv 4) (pe_op op_pow pe_int pe_int) (nomark _))
        (pss_cons (ps_asg (pe_op op_fdivW (pv 4) (pv 1)) (pg_sub (pv 2) (pv 3) set_list)) (pss_one (ps_ret (pe_op op_mod (pv 4) (pv 1))))) pss_nil)
      (pss_cons (ps_asg (pe_op op_add (pe_ix ix_list (pv 0) pe_int (fun _ _ => rfl)) pe_int) (pg_sub (pv 0) pe_int set_list))
      (pss_cons (ps_asg (pe_op op_mod (pe_op op_add (pe_op op_add (pe_op op_add (pe_op op_mul (pe_ix ix_list (pv 0) pe_int (fun _ _ => rfl)) pe_int) (pv 4)) (pe_op op_mul pe_int (pe_ix ix_list (pv 0) pe_int (fun _ _ => rfl)))) pe_int) pe_int) (pg_sub (pv 0) pe_int set_list))
      (pss_one (ps_ret (pe_op op_mod (pe_op op_fdiv (pe_op op_mod (pe_op op_mul (pe_ix ix_list (pv 0) pe_int (fun _ _ => rfl)) (pe_ix ix_list (pv 0) pe_int (fun _ _ => rfl))) pe_int) pe_int) (pv 1))))))))), ?_⟩
    obtain ⟨j, z, ej, jl, hz, zm⟩ := at_mod (nx := nx) ne
    have z0 := nn z zm
    have l0 : (0 : Int) < ((cells.map V.int).length : Int) := by
      have := List.length_pos_iff.mpr ne
      rw [List.length_map]
      omega
    refine ⟨_, rfl, d, _, 0, .ref c, rfl, rfl, SqL.of hd, rfl, ?_⟩
    refine ⟨_, rfl, d, _, 1, .int nx, rfl, rfl, SqL.of hd, rfl, _, rfl, c, _, rfl, .inl (SqL.of hc), _, _, rfl, rfl, l0, ?_⟩
    refine ⟨_, rfl, _, rfl, c, _, _, .int z, rfl, rfl, SqL.of hc, by rw [ej]; exact atI_nat (map_at hz), ?_⟩
    refine ⟨_, rfl, 10, 18, rfl, rfl, ⟨by decide, by decide, by decide⟩, _, _, rfl, rfl, _, rfl, ?_⟩
    refine ite2 (fun _ => ?_) (fun _ => ?_)
    · refine ⟨_, rfl, _, rfl, _, _, rfl, rfl, wide_div n0 n1 (by decide) (by decide), _, rfl, _, rfl, c, _, _, j, rfl, rfl, hc, by rw [ej]; exact ixN_nat (by rw [List.length_map]; exact jl), ?_⟩
      rw [show (cells.map V.int).set j (.int (z / n)) = (cells.set j (z / n)).map V.int by rw [List.map_set]]
      refine ⟨_, rfl, _, rfl, _, _, rfl, rfl, n0, ?_⟩
      refine k _ _ (Int.emod_nonneg _ (by omega)) (Int.emod_lt_of_pos _ n0) ⟨nx, mx, _, by rw [upd_ne ncd.symm]; exact hd, upd_same, ?_, by rw [List.length_set]; exact len, ?_, a0, m0, m1⟩ (fun b o _ h2 e => by rw [upd_ne h2]; exact e)
      · intro e
        have := congrArg List.length e
        rw [List.length_set] at this
        exact ne (List.length_eq_zero_iff.mp this)
      · intro y hy
        rcases List.mem_or_eq_of_mem_set hy with h | h
        · exact nn y h
        · rw [h]
          exact Int.ediv_nonneg z0 (by omega)
    · refine ⟨_, rfl, d, _, 1, .int nx, rfl, rfl, SqL.of hd, rfl, _, _, rfl, rfl, _, rfl, d, _, 1, 1, rfl, rfl, hd, rfl, ?_⟩
      refine ⟨_, rfl, d, _, 2, .int mx, rfl, rfl, SqL.of upd_same, rfl, _, _, rfl, rfl, .inl ⟨by omega, by omega⟩, _, rfl, _, _, rfl, rfl, _, rfl, d, _, 1, .int (nx + 1), rfl, rfl, SqL.of upd_same, rfl, _, _, rfl, rfl, .inl ⟨by decide, by decide⟩,
        _, _, rfl, rfl, _, _, rfl, rfl, _, _, rfl, rfl, (by show (0 : Int) < 2147483647; decide), _, rfl, d, _, 2, 2, rfl, rfl, upd_same, rfl, ?_⟩
      rw [upd_upd]
      obtain ⟨m, em⟩ : ∃ m, m = (mx * 48271 + z + 7919 * (nx + 1) + 12345) % 2147483647 := ⟨_, rfl⟩
      have h0 : 0 ≤ m := by rw [em]; exact Int.emod_nonneg _ (by decide)
      have h1 : m < 2147483647 := by rw [em]; exact Int.emod_lt_of_pos _ (by decide)
      refine ⟨_, rfl, d, _, 2, .int m, rfl, rfl, SqL.of upd_same, by rw [em] <;> rfl, _, rfl, d, _, 2, .int m, rfl, rfl, SqL.of upd_same, by rw [em] <;> rfl, _, _, rfl, rfl, .inl ⟨by omega, by omega⟩, _, _, rfl, rfl, (by show (0 : Int) < 2147483629; decide), _, _, rfl, rfl, ⟨by decide, by decide⟩,
        _, rfl, _, _, rfl, rfl, n0, ?_⟩
      exact k _ _ (Int.emod_nonneg _ (by omega)) (Int.emod_lt_of_pos _ n0) ⟨nx + 1, m, cells, by rw [upd_same, em] <;> rfl, by rw [upd_ne ncd]; exact hc, ne, len, nn, by omega, h0, h1⟩ (fun b o h2 _ e => by rw [upd_ne h2]; exact e)
theorem scPick : FnScope ["_law_state", "_law_some"] ["_law_state", "_law_some"] (defScope s__law_pick) := ⟨rfl, rfl, rfl, by decide +kernel, rfl, by decide +kernel, by decide +kernel⟩
theorem ok_pick {f fT : Addr} {fd fdT : FuncData} (F : Fun K "_law_pick" "_law_pick" s__law_pick f fd) (T : Nm mg) (FTk : Fun K "_law_draw" "_law_draw" s__law_draw fT fdT) (bT : Binds K fdT ["_law_state", "_law_many"] []) (gT : mg "_law_draw" = some (.ref fT)) :
    FnOk P w K mg base CX0 2 f fd ["_law_state", "_law_some"] (spPick K) := by
  have GT : FnOk P w K mg base CX0 1 fT fdT ["_law_state", "_law_many"] spDraw := ok_draw FTk T
  refine F.ok scPick (fun vs H Q E h => ?_) (fun cdv A outer s H vs Q E hr h => ?_)
  · obtain ⟨d, c, v, n, P, rfl, _⟩ := h
    rfl
  · obtain ⟨d, c, v, n, Pr, rfl, hD, it, x0, x1, k⟩ := h
    have hr1 : Room 1 _ := hr.mono (by decide)
    refine ⟨_, pss_one (ps_ret (pe_ix ix_seq (pv 1) (pe_call GT hr1 rfl gT FTk.kp bT .nil pass0 (pa_cons (pv 0) (pa_cons (pe_callB call_len (by rfl) T.len PySem.boot_len (pa_cons (pv 1) pa_nil)) pa_nil))) (fun _ _ => rfl))), ?_⟩
    have small : ∀ n : Nat, n < 1000 → ((n : Int)).natAbs < 2 ^ 200 := fun n hn => by
      rw [Int.natAbs_natCast]
      exact Nat.lt_trans hn (by decide)
    rcases it with ⟨l, xs, rfl, nd, nc, hl, en, hp⟩ | ⟨z, rfl, en, hp⟩
    · refine ⟨_, rfl, _, rfl, _, rfl, _, xs.length, rfl, .inl ⟨xs, SqL.of hl, rfl⟩, d, c, _, rfl, hD, by omega, small _ (by omega), fun i H' i0 i1 hD' off => ?_⟩
      have hi : i.toNat < xs.length := by omega
      have e : xs[i.toNat]? = some xs[i.toNat] := List.getElem?_eq_getElem hi
      have e2 := atI_nat e
      rw [show ((i.toNat : Nat) : Int) = i by omega] at e2
      exact .inl ⟨l, xs, i, xs[i.toNat], rfl, rfl, SqL.of (off l _ nd nc hl), e2, k i.toNat _ H' (hp _ _ e) hD' off⟩
    · have zl : z.length ≤ sizeLine := Nat.le_trans (by omega : z.length ≤ 1000) (by decide)
      refine ⟨_, rfl, _, rfl, _, rfl, _, z.length, rfl, ⟨zl, rfl⟩, d, c, _, rfl, hD, by omega, small _ (by omega), fun i H' i0 i1 hD' off => ?_⟩
      have hi : i.toNat < z.cps.toList.length := by
        have : z.length = z.cps.toList.length := by simp [Str.length]
        omega
      have e : z.cps.toList[i.toNat]? = some z.cps.toList[i.toNat] := List.getElem?_eq_getElem hi
      have e2 := atI_nat e
      rw [show ((i.toNat : Nat) : Int) = i by omega] at e2
      exact .inr (.inr ⟨z, i, _, rfl, rfl, zl, e2, k i.toNat _ H' (hp _ _ e) hD' off⟩)
end
end FT


/-! names that do not end in f, plain. -/
namespace FT
open PySem L2 TL
/-- a name that the law draws: letters, one to eight, not ending in f -/
def NameF (z : Str) : Prop := (∀ c ∈ tl z, 97 ≤ c ∧ c ≤ 122 ∧ c ≠ 100 ∧ c ≠ 102) ∧ 1 ≤ (tl z).length ∧ (tl z).length ≤ 8
instance (z : Str) : Decidable (NameF z) := by unfold NameF; infer_instance
theorem NameF.len {z : Str} (h : NameF z) : 1 ≤ z.length ∧ z.length ≤ 8 := by
  rw [len_tl]
  exact ⟨h.2.1, h.2.2⟩
theorem NameF.nobody {z : Str} (h : NameF z) : z ≠ "nobody" := fun e => by
  subst e
  revert h
  decide +kernel
theorem NameF.big {z : Str} (h : NameF z) : z ≠ "A" := fun e => by
  subst e
  revert h
  decide +kernel
theorem NameF.self {z : Str} (h : NameF z) : z ≠ "self" := fun e => by
  subst e
  revert h
  decide +kernel
theorem NameF.name {z : Str} (h : NameF z) : NameL z := ⟨fun c hc => ⟨(h.1 c hc).1, (h.1 c hc).2.1⟩, h.2.1, h.2.2, h.self⟩
def ends : List Str := ["ax", "ay", "az", "au", "av", "aw", "bx", "by", "bz", "bu", "bv", "bw", "cx", "cy"]
theorem split_ends : Txt.split "ax ay az au av aw bx by bz bu bv bw cx cy" " " = ends := by decide +kernel
theorem ends_ok : ∀ e ∈ ends, (tl e).length = 2 ∧ (∀ c ∈ tl e, 97 ≤ c ∧ c ≤ 122 ∧ c ≠ 100 ∧ c ≠ 102) := by decide +kernel
def cand (f e : Str) : Str := cutS f none (some 6) ++ e
theorem tl_cut6 (z : Str) : tl (cutS z none (some 6)) = (tl z).take 6 := by
  have e : HT.sIx z.length z.length (some 6) = min 6 z.length := HT.sIx_nat _ _ 6
  show ((tl z).drop 0).take (HT.sIx z.length z.length (some 6) - 0) = (tl z).take 6
  rw [e, List.drop_zero, Nat.sub_zero, len_tl, ← List.take_take, List.take_length]
theorem cand_ok {f e : Str} (hf : NameF f) (he : e ∈ ends) : NameF (cand f e) := by
  obtain ⟨l2, ch⟩ := ends_ok e he
  have t : tl (cand f e) = (tl f).take 6 ++ tl e := by
    unfold cand
    rw [tl_append, tl_cut6]
  refine ⟨fun c hc => ?_, ?_, ?_⟩
  · rw [t] at hc
    rcases List.mem_append.mp hc with h | h
    · exact hf.1 c (List.mem_of_mem_take h)
    · exact ch c h
  · rw [t, List.length_append]
    omega
  · rw [t, List.length_append, List.length_take]
    omega
theorem sub_len {α : Type} [DecidableEq α] : ∀ (l m : List α), l.Nodup → (∀ x ∈ l, x ∈ m) → l.length ≤ m.length
  | [], m, _, _ => Nat.zero_le _
  | a :: l, m, nd, h => by
    have ha : a ∈ m := h a (List.mem_cons_self ..)
    obtain ⟨na, nl⟩ := List.nodup_cons.mp nd
    have := sub_len l (m.erase a) nl fun x hx => (List.mem_erase_of_ne (fun e : x = a => na (by rw [← e]; exact hx))).mpr (h x (List.mem_cons_of_mem _ hx))
    rw [List.length_erase_of_mem ha] at this
    have : 1 ≤ m.length := List.length_pos_of_mem ha
    show l.length + 1 ≤ m.length
    omega
theorem cands_nodup (f : Str) : (ends.map (cand f)).Nodup := by
  have nd : ends.Nodup := by decide +kernel
  refine List.pairwise_map.mpr (nd.imp fun ne e => ne ?_)
  unfold cand at e
  refine ext_tl ?_
  have e' := congrArg tl e
  rw [tl_append, tl_append] at e'
  exact List.append_cancel_left e'
/-- the names that are still free, in their order -/
def free (fs : List Str) (l : List Str) : List Str := l.filter fun x => !decide (x ∈ fs)
theorem free_some {f : Str} {fs : List Str} (hf : NameF f) (few : fs.length ≤ 11) : ∃ x r, free fs (f :: ends.map (cand f)) = x :: r ∧ NameF x ∧ x ∉ fs := by
  have ne : free fs (f :: ends.map (cand f)) ≠ [] := fun e => by
    have all : ∀ x ∈ ends.map (cand f), x ∈ fs := fun x hx => by
      refine Decidable.byContradiction fun n => ?_
      have : x ∈ free fs (f :: ends.map (cand f)) := List.mem_filter.mpr ⟨List.mem_cons_of_mem _ hx, by rw [decide_eq_false n] <;> rfl⟩
      rw [e] at this
      cases this
    have := sub_len _ _ (cands_nodup f) all
    rw [List.length_map] at this
    have : ends.length = 14 := rfl
    omega
  cases e : free fs (f :: ends.map (cand f)) with
  | nil => exact absurd e ne
  | cons x r =>
    have hx : x ∈ free fs (f :: ends.map (cand f)) := by rw [e]; exact List.mem_cons_self ..
    obtain ⟨h1, h2⟩ := List.mem_filter.mp hx
    refine ⟨x, r, rfl, ?_, fun hm => ?_⟩
    · rcases List.mem_cons.mp h1 with rfl | h1
      · exact hf
      · obtain ⟨e, he, rfl⟩ := List.mem_map.mp h1
        exact cand_ok hf he
    · rw [decide_eq_true hm] at h2
      cases h2
theorem join_signs : ∀ ys : List Str, (∀ y ∈ ys, ∃ s : Nat, y = ⟨#[s]⟩ ∧ s ∈ ([97, 98, 99, 109, 122] : List Nat)) → (tl (Txt.join "" ys)).length = ys.length ∧ ∀ c ∈ tl (Txt.join "" ys), c ∈ ([97, 98, 99, 109, 122] : List Nat)
  | [], _ => by
    rw [join_eq]
    exact ⟨rfl, fun c h => by cases h⟩
  | [y], h => by
    obtain ⟨s, rfl, hs⟩ := h y (List.mem_cons_self ..)
    rw [join_eq]
    exact ⟨rfl, fun c hc => by
      rw [List.mem_singleton.mp hc]
      exact hs⟩
  | y :: z :: r, h => by
    obtain ⟨s, rfl, hs⟩ := h y (List.mem_cons_self ..)
    obtain ⟨h1, h2⟩ := join_signs (z :: r) fun q hq => h q (List.mem_cons_of_mem _ hq)
    rw [join_eq] at h1 h2 ⊢
    have t : tl (Str.join "" (⟨#[s]⟩ :: z :: r)) = s :: tl (Str.join "" (z :: r)) := by
      show tl (⟨#[s]⟩ ++ "" ++ Str.join "" (z :: r)) = _
      rw [tl_append, tl_append] <;> rfl
    rw [t]
    refine ⟨by rw [List.length_cons, h1] <;> rfl, fun c hc => ?_⟩
    rcases List.mem_cons.mp hc with rfl | hc
    · exact hs
    · exact h2 c hc
theorem join_name {ys : List Str} (h : ∀ y ∈ ys, ∃ s : Nat, y = ⟨#[s]⟩ ∧ s ∈ ([97, 98, 99, 109, 122] : List Nat)) (h1 : 1 ≤ ys.length) (h4 : ys.length ≤ 4) : NameF (Txt.join "" ys) := by
  obtain ⟨l, ch⟩ := join_signs ys h
  refine ⟨fun c hc => ?_, by omega, by omega⟩
  · have := ch c hc
    simp only [List.mem_cons, List.not_mem_nil, or_false] at this
    omega
end FT


namespace FT
open PySem L2 TL ClX
def spNames (K : PySem.W.Frag) : Sp := fun vs H Q _ => ∃ (d c : Addr) (n : Nat), vs = [.ref d, .int (n : Int)] ∧ DrawAt H d c ∧ 1 ≤ n ∧ n ≤ 12 ∧
  ∀ (l : Addr) (fs : List Str) (H' : Hp), fs.length = n → fs.Nodup → (∀ z ∈ fs, NameF z) → H l = none → H' l = some (.lst (fs.map V.str)) → DrawAt H' d c → Keep d c H H' → Q (.ref l) H'
theorem DrawAt.off {H : Hp} {d c p : Addr} {o : HO} (x : DrawAt H d c) (n1 : p ≠ d) (n2 : p ≠ c) : DrawAt (upd H p o) d c := by
  obtain ⟨nx, mx, cells, h1, h2, r⟩ := x
  exact ⟨nx, mx, cells, by rw [upd_ne n1.symm]; exact h1, by rw [upd_ne n2.symm]; exact h2, r⟩
theorem Keep.put {d c p : Addr} {H H' : Hp} {o : HO} (k : Keep d c H H') (n : H p = none) : Keep d c H (upd H' p o) := fun b u h1 h2 e => by
  rw [upd_ne (ne_of_none e n)]
  exact k b u h1 h2 e
theorem Keep.free {d c p : Addr} {H H' : Hp} (k : Keep d c H H') (n : H' p = none) (n1 : p ≠ d) (n2 : p ≠ c) : H p = none := by
  cases e : H p with
  | none => rfl
  | some o =>
    rw [k p o n1 n2 e] at n
    cases n
def words7 : List Str := ["start", "size", "must", "stay", "root", "new", "eightaaa"]
theorem words7_ok : ∀ z ∈ words7, NameF z := by decide +kernel
/-- a sign of the law's letters -/
def Sgn (y : Str) : Prop := ∃ s : Nat, y = ⟨#[s]⟩ ∧ s ∈ ([97, 98, 99, 109, 122] : List Nat)
theorem sum_sgn : ∀ ys : List Str, (∀ y ∈ ys, Sgn y) → (ys.map (·.length)).sum = ys.length
  | [], _ => rfl
  | y :: ys, h => by
    obtain ⟨s, rfl, _⟩ := h y (List.mem_cons_self ..)
    rw [List.map_cons, List.sum_cons, sum_sgn ys fun q hq => h q (List.mem_cons_of_mem _ hq), List.length_cons]
    show 1 + ys.length = ys.length + 1
    omega
theorem free_step {fs cs : List Str} {i : Nat} {x : Str} (h : cs[i]? = some x) : free fs (cs.take (i + 1)) = free fs (cs.take i) ++ (if x ∈ fs then [] else [x]) := by
  rw [take_more h]
  unfold free
  rw [List.filter_append]
  by_cases e : x ∈ fs
  · rw [if_pos e, List.filter_cons, decide_eq_true e, List.filter_nil] <;> rfl
  · rw [if_neg e, List.filter_cons, decide_eq_false e, List.filter_nil] <;> rfl
abbrev rAddS : R2 := fun x y H Q => ∃ i j, x = .str i ∧ y = .str j ∧ i.length + j.length ≤ sizeLine ∧ Q (.str (i ++ j)) H
def tNameTurn (K : PySem.W.Frag) : TS := tSeq (tAsg (tM1 (fun x xs H Q => ∃ (a : Str) (p : Addr), ∃ ys : List Str, x = .str a ∧ xs = [.ref p] ∧ (SqL K H p (ys.map V.str) ∨ SqT K H p (ys.map V.str)) ∧ (ys.map (·.length)).sum + ys.length * a.length ≤ 16777216 ∧ Q (.str (Txt.join a ys)) H)
    (tC (.str "")) (tLc (iRng1 (tCons (tOp rAdd (tC (.int 1)) (tCall spDraw [] E0 (tCons (tVar 0) (tCons (tC (.int 4)) tNil)))) tNil)) (gName 7) tYes (tCall (spPick K) [] E0 (tCons (tVar 0) (tCons (tC (.str "abcmz")) tNil))) [7])) (gName 4))
  (tSeq (tAsg (tCall (spPick K) [] E0 (tCons (tVar 0) (tCons (tLst (tCons (tC (.str "start")) (tCons (tC (.str "size")) (tCons (tC (.str "must")) (tCons (tC (.str "stay")) (tCons (tC (.str "root")) (tCons (tC (.str "new")) (tCons (tC (.str "eightaaa")) tNil)))))))) tNil))) (gName 5))
  (tSeq (tAsg (tCall (spPick K) [] E0 (tCons (tVar 0) (tCons (tLst (tCons (tVar 4) (tCons (tVar 4) (tCons (tVar 5) tNil)))) tNil))) (gName 4))
  (tSeq (tAsg (tLc (iList K (tM1 (fun x xs H Q => ∃ a b, x = .str a ∧ xs = [.str b] ∧ (b.length == 0) = false ∧ a.length + 2 ≤ sizeLine ∧ rNewStrs (Txt.split a b) H Q) (tC (.str "ax ay az au av aw bx by bz bu bv bw cx cy")) (tC (.str " ")))) (gName 8) tYes
      (tOp rAddS (tSl rSlS (tVar 4) tNoPart (tPart (tC (.int 6)))) (tVar 8)) [8]) (gName 6))
  (tDrop (tBM K "list" rAppend (tVar 2) (tCons (tOp (rIxL K) (tLc (iList K (tOp rCat (tLst (tCons (tVar 4) tNil)) (tVar 6))) (gName 9) (tTest (tOp (rIn K true) (tVar 9) (tVar 2))) (tVar 9) [9]) (tC (.int 0))) tNil))))))
theorem nameTurn_ok {K : PySem.W.Frag} {D : Ends} {H : Hp} {u1 u3 u4 u5 u6 u7 u8 u9 : Option V} {d c l : Addr} {fs : List Str} (dr : DrawAt H d c) (ld : l ≠ d) (lc : l ≠ c) (hl : H l = some (.lst (fs.map V.str))) (few : fs.length ≤ 11)
    (nx : ∀ u4 u5 u6 u7 u8 u9 H' x, NameF x → x ∉ fs → DrawAt H' d c → (∀ b o, b ≠ d → b ≠ c → b ≠ l → H b = some o → H' b = some o) → H' l = some (.lst ((fs ++ [x]).map V.str)) → D.nx [some (.ref d), u1, some (.ref l), u3, u4, u5, u6, u7, u8, u9] H') :
    tNameTurn K D [some (.ref d), u1, some (.ref l), u3, u4, u5, u6, u7, u8, u9] H := by
  have big : 1000 ≤ sizeLine := by decide
  refine ⟨⟨_, rfl⟩, _, rfl, d, c, 4, rfl, dr, by decide, by decide, fun m H1 m0 m1 dr1 kp1 => ⟨_, _, rfl, rfl, _, rfl, by omega, by omega, fun D1 nD1 => ?_⟩⟩
  obtain ⟨D1d, D1c⟩ := dr1.apart nD1
  refine lc_it (walk_range (lo := 0) (n := (1 + m).toNat)) (fun i H' => DrawAt H' d c ∧ Keep d c H1 H' ∧ ∃ ys : List Str, H' D1 = some (.lst (ys.map V.str)) ∧ ys.length = i ∧ ∀ y ∈ ys, Sgn y) ⟨dr1.off D1d D1c, Keep.refl.put nD1, [], upd_same, rfl, fun y h => by cases h⟩ (fun _ _ _ _ => trivial) ?_ ?_
  · intro i x Ha Hb hi ⟨da, ka, ys, ey, ly, sy⟩ ⟨e1, e2⟩
    subst e1
    subst e2
    refine ⟨rfl, ?_⟩
    refine ⟨_, rfl, d, c, _, 5, (fun _ x => ∃ y, x = .str y ∧ Sgn y), rfl, da, .inr ⟨"abcmz", rfl, rfl, fun i s hs => ⟨_, rfl, s, rfl, List.mem_of_getElem? hs⟩⟩, by decide, by decide, fun i' x Hc px dc kc => ?_⟩
    obtain ⟨y, rfl, gy⟩ := px
    refine ⟨_, kc D1 _ D1d D1c ey, ?_, dc.off D1d D1c, (ka.trans kc).put nD1, ys ++ [y], by rw [upd_same, List.map_append] <;> rfl, by rw [List.length_append, ly] <;> rfl, fun q hq => ?_⟩
    · rw [List.length_map, ly]
      omega
    · rcases List.mem_append.mp hq with h | h
      · exact sy q h
      · rw [List.mem_singleton.mp h]
        exact gy
  · intro H2 ⟨d2, k2, ys, ey, ly, sy⟩
    refine ⟨_, D1, ys, rfl, rfl, .inl (SqL.of ey), by rw [sum_sgn ys sy]; show ys.length + ys.length * 0 ≤ 16777216; omega, ?_⟩
    have fl : NameF (Txt.join "" ys) := join_name sy (by omega) (by omega)
    have K2 : Keep d c H H2 := kp1.trans k2
    refine ⟨_, rfl, by show 7 ≤ sizeLine; decide, fun p np => ?_⟩
    obtain ⟨pd, pc⟩ := d2.apart np
    refine ⟨d, c, _, 7, (fun _ x => ∃ z, x = .str z ∧ NameF z), rfl, d2.off pd pc, .inl ⟨p, words7.map V.str, rfl, pd, pc, upd_same, rfl, items_strs words7_ok⟩, by decide, by decide, fun i x H3 px d3 k3 => ?_⟩
    obtain ⟨wd, rfl, wok⟩ := px
    have K3 : Keep d c H H3 := (K2.trans (Keep.of_same (same_new np))).trans k3
    refine ⟨_, rfl, _, rfl, _, rfl, _, rfl, by show 3 ≤ sizeLine; decide, fun p3 np3 => ?_⟩
    obtain ⟨pd3, pc3⟩ := d3.apart np3
    refine ⟨d, c, _, 3, (fun _ x => ∃ z, x = .str z ∧ NameF z), rfl, d3.off pd3 pc3, .inl ⟨p3, [Txt.join "" ys, Txt.join "" ys, wd].map V.str, rfl, pd3, pc3, upd_same, rfl, items_strs fun z hz => ?_⟩, by decide, by decide, fun i x H4 px d4 k4 => ?_⟩
    · simp only [List.mem_cons, List.not_mem_nil, or_false] at hz
      rcases hz with rfl | rfl | rfl
      · exact fl
      · exact fl
      · exact wok
    obtain ⟨f, rfl, fok⟩ := px
    have K4 : Keep d c H H4 := (K3.trans (Keep.of_same (same_new np3))).trans k4
    refine ⟨⟨_, rfl⟩, _, _, rfl, rfl, by decide +kernel, by decide +kernel, fun p4 np4 => ?_⟩
    rw [split_ends]
    obtain ⟨H5, e5⟩ : ∃ X, X = upd H4 p4 (.lst (ends.map V.str)) := ⟨_, rfl⟩
    have at5 : H5 p4 = some (.lst (ends.map V.str)) := by rw [e5]; exact upd_same
    have s5 : Same H4 H5 := e5 ▸ same_new np4
    rw [← e5]
    have fl8 := fok.len
    refine ⟨p4, rfl, ⟨_, SqL.of at5⟩, fun D4 nD4 => lc_list (xs := ends.map V.str) (fun i H' => Same H5 H' ∧ H' D4 = some (.lst (((ends.take i).map (cand f)).map V.str))) ⟨same_new nD4, by rw [upd_same] <;> rfl⟩ (fun i H' _ q => Same.sql q.1 (SqL.of at5)) ?_ ?_⟩
    · intro i x Ha hx ⟨q1, q2⟩
      rw [List.getElem?_map] at hx
      obtain ⟨e, he, rfl⟩ := Option.map_eq_some_iff.mp hx
      have l2 := (ends_ok e (List.mem_of_getElem? he)).1
      rw [← len_tl] at l2
      have l6 := cutS_length f none (some 6)
      refine ⟨rfl, ?_⟩
      refine ⟨_, rfl, _, rfl, f, rfl, by omega, _, rfl, _, _, rfl, rfl, by omega, _, q2, ?_, ?_, ?_⟩
      · rw [List.length_map, List.length_map, List.length_take]
        have : ends.length = 14 := rfl
        omega
      · intro b o eb
        rw [upd_ne (ne_of_none eb nD4)]
        exact q1 b o eb
      · rw [upd_same, take_more he, List.map_append, List.map_append] <;> rfl
    · intro H6 ⟨s6, a6⟩
      rw [List.length_map, List.take_length] at a6
      have s46 : Same H4 H6 := s5.trans s6
      have l4 := K4 l _ ld lc hl
      have l6 := s46 _ _ l4
      refine ⟨_, rfl, .inl ⟨rfl, _, SqL.of l6⟩, ?_⟩
      refine ⟨_, rfl, by show 1 ≤ sizeLine; decide, fun q nq => ⟨_, rfl, q, D4, _, _, rfl, rfl, upd_same, by rw [upd_ne (ne_of_none a6 nq)]; exact a6, by rw [List.length_map, List.length_map]; show 1 + 14 ≤ sizeLine; omega, fun r nr => ?_⟩⟩
      obtain ⟨H7, e7⟩ : ∃ X, X = upd (upd H6 q (.lst [.str f])) r (.lst ([.str f] ++ (ends.map (cand f)).map V.str)) := ⟨_, rfl⟩
      have s7 : Same H6 H7 := e7 ▸ (same_new nq).trans (same_new nr)
      have at7 : H7 r = some (.lst ((f :: ends.map (cand f)).map V.str)) := by rw [e7, upd_same] <;> rfl
      rw [← e7]
      refine ⟨r, rfl, ⟨_, SqL.of at7⟩, fun D7 nD7 => lc_list (xs := (f :: ends.map (cand f)).map V.str) (fun i H' => Same H7 H' ∧ H' D7 = some (.lst ((free fs ((f :: ends.map (cand f)).take i)).map V.str))) ⟨same_new nD7, by rw [upd_same] <;> rfl⟩ (fun i H' _ q => Same.sql q.1 (SqL.of at7)) ?_ ?_⟩
      · intro i x Ha hx ⟨q1, q2⟩
        rw [List.getElem?_map] at hx
        obtain ⟨e, he, rfl⟩ := Option.map_eq_some_iff.mp hx
        refine ⟨rfl, ?_⟩
        refine ⟨_, rfl, _, rfl, l, _, rfl, .inl (SqL.of (q1 _ _ (s7 _ _ l6))), rfl, flat_strs fs, _, rfl, ?_⟩
        rw [inV_strs, free_step he]
        by_cases hm : e ∈ fs
        · rw [if_pos hm, decide_eq_true hm, List.append_nil]
          exact iteF ⟨q1, q2⟩
        · rw [if_neg hm, decide_eq_false hm]
          show if true = true then _ else _
          rw [if_pos rfl]
          refine ⟨_, rfl, _, q2, ?_, ?_, ?_⟩
          · rw [List.length_map]
            have h1 : (free fs ((f :: ends.map (cand f)).take i)).length ≤ ((f :: ends.map (cand f)).take i).length := List.length_filter_le _ _
            rw [List.length_take, List.length_cons, List.length_map] at h1
            have : ends.length = 14 := rfl
            omega
          · intro b o eb
            rw [upd_ne (ne_of_none eb nD7)]
            exact q1 b o eb
          · rw [upd_same, List.map_append] <;> rfl
      · intro H8 ⟨s8, a8⟩
        rw [List.length_map, List.take_length] at a8
        obtain ⟨x, rest, ex, xok, xn⟩ := free_some fok few
        rw [ex] at a8
        have l8 := s8 _ _ (s7 _ _ l6)
        refine ⟨D7, _, 0, .str x, rfl, rfl, SqL.of a8, (atI_nat (j := 0) rfl : atI _ ((0 : Nat) : Int) = _), ?_⟩
        refine ⟨l, _, _, rfl, rfl, l8, by rw [List.length_map]; omega, ?_⟩
        have s48 : Same H4 H8 := s46.trans (s7.trans s8)
        refine nx _ _ _ _ _ _ _ x xok xn ((d4.mono s48).off ld lc) (fun b o b1 b2 b3 eb => ?_) (by rw [upd_same, List.map_append] <;> rfl)
        rw [upd_ne b3]
        exact s48 _ _ (K4 b o b1 b2 eb)
def tNames (K : PySem.W.Frag) : TS := tSeq (tAsg (tLst tNil) (gName 2)) (tSeq (tFor (iRng1 (tCons (tVar 1) tNil)) (gName 3) (tNameTurn K)) (tRet (tVar 2)))
theorem names_ok {K : PySem.W.Frag} {D : Ends} {H : Hp} {d c : Addr} {n : Nat} {u2 u3 u4 u5 u6 u7 u8 u9 : Option V} (dr : DrawAt H d c) (n12 : n ≤ 12)
    (k : ∀ (l : Addr) (fs : List Str) (H' : Hp), fs.length = n → fs.Nodup → (∀ z ∈ fs, NameF z) → H l = none → H' l = some (.lst (fs.map V.str)) → DrawAt H' d c → Keep d c H H' → D.rt (.ref l) H') :
    tNames K D [some (.ref d), some (.int (n : Int)), u2, u3, u4, u5, u6, u7, u8, u9] H := by
  refine ⟨by show 0 ≤ sizeLine; decide, fun l nl => ?_⟩
  obtain ⟨ld, lc⟩ := dr.apart nl
  refine ⟨_, rfl, _, rfl, by omega, by omega, ?_⟩
  refine for_it (walk_range (lo := 0) (n := ((n : Int)).toNat)) (fun j σ' H' => (∃ u3 u4 u5 u6 u7 u8 u9, σ' = [some (.ref d), some (.int (n : Int)), some (.ref l), u3, u4, u5, u6, u7, u8, u9]) ∧ DrawAt H' d c ∧ Keep d c H H' ∧
    ∃ fs : List Str, H' l = some (.lst (fs.map V.str)) ∧ fs.length = j ∧ fs.Nodup ∧ ∀ z ∈ fs, NameF z) ⟨⟨_, _, _, _, _, _, _, rfl⟩, dr.off ld lc, Keep.refl.put nl, [], upd_same, rfl, List.nodup_nil, fun z h => by cases h⟩ (fun _ _ _ _ _ => trivial) ?_ ?_
  · intro j x σ' Ha Hb hj ⟨⟨u3, u4, u5, u6, u7, u8, u9, e⟩, da, ka, fs, el, ln, nd, ok⟩ ⟨e1, e2⟩
    subst e
    subst e1
    subst e2
    refine nameTurn_ok da ld lc el (by omega) fun u4 u5 u6 u7 u8 u9 H' x xok xn d' k' l' => ⟨⟨_, _, _, _, _, _, _, rfl⟩, d', fun b o b1 b2 e => ?_, fs ++ [x], l', by rw [List.length_append, ln] <;> rfl, ?_, fun z hz => ?_⟩
    · exact k' b o b1 b2 (ne_of_none e nl) (ka b o b1 b2 e)
    · refine List.nodup_append.mpr ⟨nd, by simp, fun a ha b hb => ?_⟩
      rw [List.mem_singleton.mp hb]
      exact fun z => xn (z ▸ ha)
    · rcases List.mem_append.mp hz with h | h
      · exact ok z h
      · rw [List.mem_singleton.mp h]
        exact xok
  · intro σ' H' ⟨⟨u3, u4, u5, u6, u7, u8, u9, e⟩, da, ka, fs, el, ln, nd, ok⟩
    subst e
    exact ⟨_, rfl, k l fs H' (by omega) nd ok nl el da ka⟩
section
variable {P : Program} {w : World} {K : PySem.W.Frag} {mg : Str → Option Value} {base : Heap}
theorem scNames : FnScope ["_law_state", "_law_many", "_law_found", "_law_k", "_law_flag", "_law_word", "_law_others", "_law_j", "_law_ending", "_law_lone"] ["_law_state", "_law_many"] (defScope s__law_names) := ⟨rfl, rfl, rfl, by decide +kernel, rfl, by decide +kernel, by decide +kernel⟩
theorem ok_names {f fD fP : Addr} {fd fdD fdP : FuncData} (F : Fun K "_law_names" "_law_names" s__law_names f fd) (T : Nm mg) (FD : Fun K "_law_draw" "_law_draw" s__law_draw fD fdD) (bD : Binds K fdD ["_law_state", "_law_many"] []) (gD : mg "_law_draw" = some (.ref fD))
    (FP : Fun K "_law_pick" "_law_pick" s__law_pick fP fdP) (bP : Binds K fdP ["_law_state", "_law_some"] []) (gP : mg "_law_pick" = some (.ref fP)) : FnOk P w K mg base CX0 3 f fd ["_law_state", "_law_many"] (spNames K) := by
  have GD : FnOk P w K mg base CX0 1 fD fdD ["_law_state", "_law_many"] spDraw := ok_draw FD T
  have GP : FnOk P w K mg base CX0 2 fP fdP ["_law_state", "_law_some"] (spPick K) := ok_pick FP T FD bD gD
  refine F.ok scNames (fun vs H Q E h => ?_) (fun cdv A outer s H vs Q E hr h => ?_)
  · obtain ⟨d, c, n, rfl, _⟩ := h
    rfl
  · obtain ⟨d, c, n, rfl, hD, n1, n12, k⟩ := h
    have hr1 : Room 1 _ := hr.mono (by decide)
    refine ⟨tNames K, ?_, names_ok hD n12 k⟩
    exact pss_cons (ps_set (i := 2) scNames.nd rfl (.inr rfl) (pe_lst pa_nil))
      (pss_cons (ps_for PassesOwn.never rfl (pi_range1 rfl T.rng (pa_cons (pv 1) pa_nil)) (pg_name (i := 3) scNames.nd rfl (.inl rfl))
        (pss_cons (ps_set (i := 4) scNames.nd rfl (.inr rfl) (pe_join pe_str (pe_lc (own := [("_law_j", 7)]) (g := gName 7) (tt := tYes) rfl scNames.nd (pi_range1 rfl T.rng (pa_cons (pe_op op_add pe_int (pe_call GD hr1 rfl gD FD.kp bD .nil pass0 (pa_cons (pv 0) (pa_cons pe_int pa_nil)))) pa_nil))
          (blkOk_by (N := ["_law_state", "_law_many", "_law_found", "_law_k", "_law_flag", "_law_word", "_law_others", "_law_j", "_law_ending", "_law_lone"]) (sc := defScope s__law_names) (by decide +kernel))
          (fun _ _ _ _ _ => pg_name (i := 7) scNames.nd rfl (Or.inl rfl)) (fun _ _ _ _ _ => pts_nil) (fun _ _ _ _ _ => pe_call GP hr rfl gP FP.kp bP .nil pass0 (pa_cons (pv 0) (pa_cons pe_str pa_nil))))))
        (pss_cons (ps_set (i := 5) scNames.nd rfl (.inl rfl) (pe_call GP hr rfl gP FP.kp bP .nil pass0 (pa_cons (pv 0) (pa_cons (pe_lst (pa_cons pe_str (pa_cons pe_str (pa_cons pe_str (pa_cons pe_str (pa_cons pe_str (pa_cons pe_str (pa_cons pe_str pa_nil)))))))) pa_nil))))
        (pss_cons (ps_set (i := 4) scNames.nd rfl (.inr rfl) (pe_call GP hr rfl gP FP.kp bP .nil pass0 (pa_cons (pv 0) (pa_cons (pe_lst (pa_cons (pv 4) (pa_cons (pv 4) (pa_cons (pv 5) pa_nil)))) pa_nil))))
        (pss_cons (ps_setLc (i := 6) (own := [("_law_ending", 8)]) (g := gName 8) (tt := tYes) rfl scNames.nd rfl rfl (sw_true rfl rfl rfl (by decide +kernel)) (pi_list (pe_split pe_str pe_str))
          (blkOk_by (N := ["_law_state", "_law_many", "_law_found", "_law_k", "_law_flag", "_law_word", "_law_others", "_law_j", "_law_ending", "_law_lone"]) (sc := defScope s__law_names) (by decide +kernel))
          (fun _ _ _ _ _ => pg_name (i := 8) scNames.nd rfl (Or.inl rfl)) (fun _ _ _ _ _ => pts_nil) (fun _ _ _ _ _ => pe_op op_add_str (pe_slice sl_str (pv 4) po_none (po_some pe_int)) (pv 8)))
        (pss_one (ps_expr (pe_bm PySem.F.plainAttrs_list PySem.F.slot_list_append PySem.F.type_list_append mt_append (pv 2) (pa_cons (pe_ix ix_list (pe_lc (own := [("_law_lone", 9)]) (g := gName 9) (tt := tTest (tOp (rIn K true) (tVar 9) (tVar 2))) rfl scNames.nd (pi_list (pe_op op_cat (pe_lst (pa_cons (pv 4) pa_nil)) (pv 6)))
          (blkOk_by (N := ["_law_state", "_law_many", "_law_found", "_law_k", "_law_flag", "_law_word", "_law_others", "_law_j", "_law_ending", "_law_lone"]) (sc := defScope s__law_names) (by decide +kernel))
          (fun _ _ _ _ _ => pg_name (i := 9) scNames.nd rfl (Or.inl rfl)) (fun _ _ _ _ _ => pts_one (pt_cmpR op_notIn_seq (pv 9) (pv 2) rfl)) (fun _ _ _ _ _ => pv 9)) pe_int (fun _ _ => rfl)) pa_nil)))))))))
      (pss_one (ps_ret (pv 2))))
end
end FT


namespace FT
open PySem L2 TL ClX
structure TreeUp (t : List (Str × Str)) : Prop where
  one : 1 ≤ t.length
  few : t.length ≤ 12
  nd : (t.map Prod.fst).Nodup
  nm : ∀ z ∈ t.map Prod.fst, NameF z
  up : ∀ (i : Nat) (p : Str × Str), t[i]? = some p → p.2 = "" ∨ p.2 ∈ (t.take i).map Prod.fst
def spTree : Sp := fun vs H Q _ => ∃ (d c : Addr) (n : Nat), vs = [.ref d, .int (n : Int)] ∧ DrawAt H d c ∧ 1 ≤ n ∧ n ≤ 12 ∧
  ∀ (q : Addr) (t : List (Str × Str)) (H' : Hp), TreeUp t → t.length = n → H q = none → H' q = some (.dK (prs t)) → DrawAt H' d c → Keep d c H H' → Q (.ref q) H'
theorem cut_sub {xs : List V} (ne : xs ≠ []) : cutV xs (some (-2)) none ≠ [] ∧ ∀ x ∈ cutV xs (some (-2)) none, x ∈ xs := by
  have l0 : 0 < xs.length := List.length_pos_iff.mpr ne
  have e : HT.sIx xs.length 0 (some (-2)) = ((-2 : Int) + (xs.length : Int)).toNat := by
    show (if (-2 : Int) < 0 then ((-2 : Int) + (xs.length : Int)).toNat else min (-2 : Int).toNat xs.length) = _
    rw [if_pos (by decide)]
  have c : cutV xs (some (-2)) none = (xs.drop ((-2 : Int) + (xs.length : Int)).toNat).take (xs.length - ((-2 : Int) + (xs.length : Int)).toNat) := by
    show (xs.drop (HT.sIx xs.length 0 (some (-2)))).take (xs.length - HT.sIx xs.length 0 (some (-2))) = _
    rw [e]
  rw [c]
  refine ⟨fun z => ?_, fun x hx => List.mem_of_mem_drop (List.mem_of_mem_take hx)⟩
  have := congrArg List.length z
  rw [List.length_take, List.length_drop, List.length_nil] at this
  omega
theorem at_back {xs : List V} (ne : xs ≠ []) : ∃ x, atI xs (-1) = some x ∧ x ∈ xs := by
  have l0 : 0 < xs.length := List.length_pos_iff.mpr ne
  refine ⟨xs[xs.length - 1], ?_, List.getElem_mem _⟩
  unfold atI ixN
  rw [if_neg (by decide), if_pos (by omega)]
  show xs[_]? = _
  rw [show ((-1 : Int) + (xs.length : Int)).toNat = xs.length - 1 by omega, List.getElem?_eq_getElem (by omega)]
def tLastTwo (K : PySem.W.Frag) : TE := tSl (rSlL K) (tVar 7) (tPart (tUn (rU fun i => .int (-i)) (tC (.int 2)))) tNoPart
def tTreeTurn (K : PySem.W.Frag) : TS := tSeq (tAsg (tOp rCat (tLst (tCons (tC (.str "")) tNil)) (tSl (rSlL K) (tVar 2) tNoPart (tPart (tVar 5)))) (gName 7))
  (tSeq (tAsg (tLst (tCons (tOp (rIxL K) (tVar 7) (tUn (rU fun i => .int (-i)) (tC (.int 1)))) (tCons (tC (.str "")) (tCons (tCall (spPick K) [] E0 (tCons (tVar 0) (tCons (tVar 7) tNil))) (tCons (tCall (spPick K) [] E0 (tCons (tVar 0) (tCons (tVar 7) tNil))) (tCons (tCall (spPick K) [] E0 (tCons (tVar 0) (tCons (tLastTwo K) tNil))) tNil)))))) (gName 8))
  (sDPut (tVar 4) (tVar 6) (tOp (rIxL K) (tVar 8) (tVar 3))))
theorem treeTurn_ok {K : PySem.W.Frag} {D : Ends} {H : Hp} {u1 u7 u8 : Option V} {d c pn q : Addr} {w j : Nat} {fs : List Str} {f : Str} {t : List (Str × Str)} (dr : DrawAt H d c) (qd : q ≠ d) (qc : q ≠ c) (pd : pn ≠ d) (pc : pn ≠ c) (hn : H pn = some (.lst (fs.map V.str))) (hq : H q = some (.dK (prs t)))
    (hw : w < 5) (hj : j ≤ fs.length) (f12 : fs.length ≤ 12) (fresh : f ∉ t.map Prod.fst) (t12 : t.length ≤ 12)
    (nx : ∀ u7 u8 H' (z : Str), (z = "" ∨ z ∈ fs.take j) → DrawAt H' d c → (∀ b o, b ≠ d → b ≠ c → b ≠ q → H b = some o → H' b = some o) → H' q = some (.dK (prs (t ++ [(f, z)]))) → D.nx [some (.ref d), u1, some (.ref pn), some (.int (w : Int)), some (.ref q), some (.int (j : Int)), some (.str f), u7, u8] H') :
    tTreeTurn K D [some (.ref d), u1, some (.ref pn), some (.int (w : Int)), some (.ref q), some (.int (j : Int)), some (.str f), u7, u8] H := by
  have big : 1000 ≤ sizeLine := by decide
  let A : List Str := "" :: fs.take j
  have lenA : A.length = j + 1 := by
    show (fs.take j).length + 1 = j + 1
    rw [List.length_take, Nat.min_eq_left hj]
  have mem : ∀ z ∈ A, z = "" ∨ z ∈ fs.take j := fun z hz => List.mem_cons.mp hz
  refine ⟨by show 1 ≤ sizeLine; omega, fun p1 n1 => ⟨_, rfl, _, rfl, _, rfl, pn, fs.map V.str, rfl, SqL.of ?_, fun p2 n2 => ⟨p1, p2, [.str ""], _, rfl, rfl, ?_, upd_same, ?_, fun pa na => ?_⟩⟩⟩
  · rw [upd_ne (ne_of_none hn n1)]
    exact hn
  · rw [upd_ne (ne_of_none upd_same n2), upd_same]
  · have := cutV_length (fs.map V.str) none (some (j : Int))
    rw [List.length_map] at this
    show 1 + _ ≤ sizeLine
    omega
  rw [cut_take (by rw [List.length_map]; exact hj), ← List.map_take] at na ⊢
  obtain ⟨H1, e1⟩ : ∃ X, X = upd (upd (upd H p1 (.lst [.str ""])) p2 (.lst ((fs.take j).map V.str))) pa (.lst ([.str ""] ++ (fs.take j).map V.str)) := ⟨_, rfl⟩
  have s1 : Same H H1 := e1 ▸ ((same_new n1).trans (same_new n2)).trans (same_new na)
  have at1 : H1 pa = some (.lst (A.map V.str)) := by rw [e1, upd_same] <;> rfl
  have pad : pa ≠ d ∧ pa ≠ c := ((dr.mono (same_new n1)).mono (same_new n2)).apart na
  rw [← e1]
  have dr1 := dr.mono s1
  have neA : A.map V.str ≠ [] := by simp [A]
  obtain ⟨x0, hx0, mx0⟩ := at_back neA
  obtain ⟨z0, mz0, rfl⟩ := List.mem_map.mp mx0
  refine ⟨_, rfl, 1, rfl, pa, _, _, .str z0, rfl, rfl, SqL.of at1, hx0, ?_⟩
  refine ⟨_, rfl, _, rfl, d, c, _, A.length, (fun _ x => ∃ z, x = .str z ∧ z ∈ A), rfl, dr1, .inl ⟨pa, A.map V.str, rfl, pad.1, pad.2, at1, by rw [List.length_map], items_strs fun z hz => hz⟩, by omega, by omega, fun i x H2 px dr2 k2 => ?_⟩
  obtain ⟨z1, rfl, mz1⟩ := px
  have at2 := k2 pa _ pad.1 pad.2 at1
  refine ⟨_, rfl, _, rfl, d, c, _, A.length, (fun _ x => ∃ z, x = .str z ∧ z ∈ A), rfl, dr2, .inl ⟨pa, A.map V.str, rfl, pad.1, pad.2, at2, by rw [List.length_map], items_strs fun z hz => hz⟩, by omega, by omega, fun i x H3 px dr3 k3 => ?_⟩
  obtain ⟨z2, rfl, mz2⟩ := px
  have at3 := k3 pa _ pad.1 pad.2 at2
  refine ⟨_, rfl, _, rfl, 2, rfl, _, rfl, pa, _, rfl, SqL.of at3, fun p4 n4 => ?_⟩
  obtain ⟨c1, c2⟩ := cut_sub neA
  have p4d := dr3.apart n4
  have l4 := cutV_length (A.map V.str) (some (-2)) none
  rw [List.length_map] at l4
  refine ⟨d, c, _, (cutV (A.map V.str) (some (-2)) none).length, (fun _ x => ∃ z, x = .str z ∧ z ∈ A), rfl, dr3.off p4d.1 p4d.2, .inl ⟨p4, _, rfl, p4d.1, p4d.2, upd_same, rfl, fun i x hx => ?_⟩, List.length_pos_iff.mpr c1, by omega, fun i x H4 px dr4 k4 => ?_⟩
  · obtain ⟨z, mz, rfl⟩ := List.mem_map.mp (c2 x (List.mem_of_getElem? hx))
    exact ⟨z, rfl, mz⟩
  obtain ⟨z3, rfl, mz3⟩ := px
  have K4 : Keep d c H H4 := ((((Keep.of_same s1).trans k2).trans k3).trans (Keep.of_same (same_new n4))).trans k4
  refine ⟨by show 5 ≤ sizeLine; omega, fun p5 n5 => ?_⟩
  let B : List Str := [z0, "", z1, z2, z3]
  have mB : ∀ z ∈ B, z ∈ A := fun z hz => by
    simp only [B, List.mem_cons, List.not_mem_nil, or_false] at hz
    rcases hz with rfl | rfl | rfl | rfl | rfl
    · exact mz0
    · exact List.mem_cons_self ..
    · exact mz1
    · exact mz2
    · exact mz3
  have lB : w < B.length := hw
  have hB : (B.map V.str)[w]? = some (.str B[w]) := by rw [List.getElem?_map, List.getElem?_eq_getElem lB] <;> rfl
  have qH4 := K4 q _ qd qc hq
  have q5 : q ≠ p5 := ne_of_none qH4 n5
  refine ⟨_, rfl, _, rfl, p5, B.map V.str, _, .str B[w], rfl, rfl, SqL.of upd_same, atI_nat hB, ?_⟩
  refine ⟨_, rfl, _, rfl, q, _, rfl, DPut.k (k := Sum.inr f) (kvs := prs t) (by rw [upd_ne q5]; exact qH4) (by rw [prs_len]; omega), ?_⟩
  rw [put_new fresh]
  have p5d := dr4.apart n5
  refine nx _ _ _ B[w] (mem _ (mB _ (List.getElem_mem _))) ((dr4.off p5d.1 p5d.2).off qd qc) (fun b o b1 b2 b3 eb => ?_) upd_same
  rw [upd_ne b3, upd_ne (ne_of_none (K4 b o b1 b2 eb) n5)]
  exact K4 b o b1 b2 eb
def tTree (K : PySem.W.Frag) : TS := tSeq (tPar3 2 3 4 (tCons (tCall (spNames K) [] E0 (tCons (tVar 0) (tCons (tVar 1) tNil))) (tCons (tCall spDraw [] E0 (tCons (tVar 0) (tCons (tC (.int 5)) tNil))) (tCons tDNewK tNil))))
  (tSeq (tFor (iEnum K (tCons (tVar 2) tNil)) (gTup K 2 (gCons (gName 5) (gCons (gName 6) gNil))) (tTreeTurn K)) (tRet (tVar 4)))
theorem tree_ok {K : PySem.W.Frag} {D : Ends} {H : Hp} {d c : Addr} {n : Nat} {u2 u3 u4 u5 u6 u7 u8 : Option V} (dr : DrawAt H d c) (n1 : 1 ≤ n) (n12 : n ≤ 12)
    (k : ∀ (q : Addr) (t : List (Str × Str)) (H' : Hp), TreeUp t → t.length = n → H q = none → H' q = some (.dK (prs t)) → DrawAt H' d c → Keep d c H H' → D.rt (.ref q) H') :
    tTree K D [some (.ref d), some (.int (n : Int)), u2, u3, u4, u5, u6, u7, u8] H := by
  refine ⟨_, rfl, _, rfl, d, c, n, rfl, dr, n1, n12, fun pn fs H1 ln nd ok npn hn dr1 k1 => ?_⟩
  have pnd := dr.apart npn
  refine ⟨_, rfl, d, c, 5, rfl, dr1, by decide, by decide, fun w H2 w0 w5 dr2 k2 q nq => ?_⟩
  obtain ⟨qd, qc⟩ := dr2.apart nq
  have hn2 := k2 pn _ pnd.1 pnd.2 hn
  have K2 : Keep d c H H2 := k1.trans k2
  refine ⟨_, _, _, rfl, ?_⟩
  obtain ⟨w', ew⟩ : ∃ w' : Nat, w = (w' : Int) := ⟨w.toNat, by omega⟩
  subst ew
  refine ⟨_, rfl, pn, fs.map V.str, rfl, SqL.of (by rw [upd_ne (ne_of_none hn2 nq)]; exact hn2), ?_⟩
  refine for_it walk_enum (fun j σ' H' => (∃ u5 u6 u7 u8, σ' = [some (.ref d), some (.int (n : Int)), some (.ref pn), some (.int (w' : Int)), some (.ref q), u5, u6, u7, u8]) ∧ DrawAt H' d c ∧ H' pn = some (.lst (fs.map V.str)) ∧ Keep d c H2 H' ∧
    ∃ t : List (Str × Str), H' q = some (.dK (prs t)) ∧ t.map Prod.fst = fs.take j ∧ ∀ (i : Nat) (p : Str × Str), t[i]? = some p → p.2 = "" ∨ p.2 ∈ (t.take i).map Prod.fst)
    ⟨⟨_, _, _, _, rfl⟩, dr2.off qd qc, by rw [upd_ne (ne_of_none hn2 nq)]; exact hn2, Keep.refl.put nq, [], upd_same, by rw [List.take_zero] <;> rfl, fun i p h => by simp at h⟩ (fun j σ' H' _ q => SqL.of q.2.2.1) ?_ ?_
  · intro j T σ' Ha Hb hj ⟨⟨u5, u6, u7, u8, e⟩, da, hna, ka, t, hq, et, up⟩ ⟨T', y, z, eT, nT, eH, ey, ez⟩
    subst e
    subst eT
    subst eH
    cases ey
    rw [List.length_map] at hj
    have ez2 : (fs.map V.str)[j]? = some z := ez
    rw [List.getElem?_map] at ez2
    obtain ⟨f, hf, rfl⟩ := Option.map_eq_some_iff.mp ez2
    have tl := congrArg List.length et
    rw [List.length_map, List.length_take] at tl
    have fresh : f ∉ t.map Prod.fst := by
      rw [et]
      intro hm
      obtain ⟨i, hi⟩ := List.mem_iff_getElem?.mp hm
      have hi2 := (List.getElem?_eq_some_iff.mp hi).1
      rw [List.length_take] at hi2
      rw [List.getElem?_take, if_pos (by omega)] at hi
      have := (List.getElem?_inj (by omega) nd).mp (hi.trans hf.symm)
      omega
    have hT := da.apart nT
    have sT : Same Ha (upd Ha T' (.tup [.int (j : Int), .str f])) := same_new nT
    refine ⟨T', _, rfl, .inl (.inl upd_same), rfl, ?_⟩
    refine ⟨_, _, rfl, _, _, rfl, rfl, ?_⟩
    refine treeTurn_ok (da.mono sT) qd qc pnd.1 pnd.2 (sT _ _ hna) (sT _ _ hq) (by omega) (by omega) (by omega) fresh (by omega) fun u7 u8 H' z hz d' k' q' => ⟨⟨_, _, _, _, rfl⟩, d', k' pn _ pnd.1 pnd.2 (ne_of (sT _ _ hna) (sT _ _ hq) (by intro z; cases z)) (sT _ _ hna), fun b o b1 b2 e => ?_, t ++ [(f, z)], q', ?_, ?_⟩
    · exact k' b o b1 b2 (ne_of_none e nq) (sT _ _ (ka b o b1 b2 e))
    · rw [List.map_append, et, take_more hf] <;> rfl
    · intro i p h
      by_cases hi : i < t.length
      · rw [List.getElem?_append_left hi] at h
        rw [List.take_append_of_le_length (by omega)]
        exact up i p h
      · have hl := (List.getElem?_eq_some_iff.mp h).1
        rw [List.length_append] at hl
        have ei : i = t.length := by
          have : ([(f, z)] : List (Str × Str)).length = 1 := rfl
          omega
        subst ei
        rw [List.getElem?_append_right (Nat.le_refl _), Nat.sub_self] at h
        have ep : (f, z) = p := Option.some.inj h
        subst ep
        rw [List.take_append_of_le_length (Nat.le_refl _), List.take_length, et]
        exact hz
  · intro σ' H' ⟨⟨u5, u6, u7, u8, e⟩, da, hna, ka, t, hq, et, up⟩
    subst e
    rw [List.length_map, List.take_length] at et
    have lt := congrArg List.length et
    rw [List.length_map] at lt
    exact ⟨_, rfl, k q t H' ⟨by omega, by omega, by rw [et]; exact nd, by rw [et]; exact ok, up⟩ (by omega) (K2.free nq qd qc) hq da (K2.trans ka)⟩
section
variable {P : Program} {w : World} {K : PySem.W.Frag} {mg : Str → Option Value} {base : Heap}
theorem scTree : FnScope ["_law_state", "_law_many", "_law_names_here", "_law_way", "_law_found", "_law_k", "_law_flag", "_law_above", "_law_some"] ["_law_state", "_law_many"] (defScope s__law_tree) := ⟨rfl, rfl, rfl, by decide +kernel, rfl, by decide +kernel, by decide +kernel⟩
theorem ok_tree {f fD fP fN : Addr} {fd fdD fdP fdN : FuncData} (F : Fun K "_law_tree" "_law_tree" s__law_tree f fd) (T : Nm mg) (FD : Fun K "_law_draw" "_law_draw" s__law_draw fD fdD) (bD : Binds K fdD ["_law_state", "_law_many"] []) (gD : mg "_law_draw" = some (.ref fD))
    (FP : Fun K "_law_pick" "_law_pick" s__law_pick fP fdP) (bP : Binds K fdP ["_law_state", "_law_some"] []) (gP : mg "_law_pick" = some (.ref fP))
    (FN : Fun K "_law_names" "_law_names" s__law_names fN fdN) (bN : Binds K fdN ["_law_state", "_law_many"] []) (gN : mg "_law_names" = some (.ref fN)) : FnOk P w K mg base CX0 4 f fd ["_law_state", "_law_many"] spTree := by
  have GD : FnOk P w K mg base CX0 1 fD fdD ["_law_state", "_law_many"] spDraw := ok_draw FD T
  have GP : FnOk P w K mg base CX0 2 fP fdP ["_law_state", "_law_some"] (spPick K) := ok_pick FP T FD bD gD
  have GN : FnOk P w K mg base CX0 3 fN fdN ["_law_state", "_law_many"] (spNames K) := ok_names FN T FD bD gD FP bP gP
  refine F.ok scTree (fun vs H Q E h => ?_) (fun cdv A outer s H vs Q E hr h => ?_)
  · obtain ⟨d, c, n, rfl, _⟩ := h
    rfl
  · obtain ⟨d, c, n, rfl, hD, n1, n12, k⟩ := h
    have hr1 : Room 1 _ := hr.mono (by decide)
    have hr2 : Room 2 _ := hr.mono (by decide)
    refine ⟨tTree K, ?_, tree_ok hD n1 n12 k⟩
    exact pss_cons (ps_par3 (i := 2) (j := 3) (l := 4) rfl scTree.nd rfl rfl rfl (by decide) (by decide) (by decide) rfl rfl rfl (pa_cons (pe_call GN hr rfl gN FN.kp bN .nil pass0 (pa_cons (pv 0) (pa_cons (pv 1) pa_nil))) (pa_cons (pe_call GD hr1 rfl gD FD.kp bD .nil pass0 (pa_cons (pv 0) (pa_cons pe_int pa_nil))) (pa_cons pe_dnewK pa_nil))) (by rfl))
      (pss_cons (ps_for PassesOwn.never rfl (pi_enum rfl T.enu (pa_cons (pv 2) pa_nil)) (pg_tup rfl (pgs_cons (pg_name (i := 5) scTree.nd rfl (.inl rfl)) (pgs_cons (pg_name (i := 6) scTree.nd rfl (.inl rfl)) pgs_nil)))
        (pss_cons (ps_set (i := 7) scTree.nd rfl (.inl rfl) (pe_op op_cat (pe_lst (pa_cons pe_str pa_nil)) (pe_slice sl_list (pv 2) po_none (po_some (pv 5)))))
        (pss_cons (ps_set (i := 8) scTree.nd rfl (.inl rfl) (pe_lst (pa_cons (pe_ix ix_list (pv 7) (pe_un un_neg pe_int) (fun _ _ => rfl)) (pa_cons pe_str (pa_cons (pe_call GP hr2 rfl gP FP.kp bP .nil pass0 (pa_cons (pv 0) (pa_cons (pv 7) pa_nil))) (pa_cons (pe_call GP hr2 rfl gP FP.kp bP .nil pass0 (pa_cons (pv 0) (pa_cons (pv 7) pa_nil)))
          (pa_cons (pe_call GP hr2 rfl gP FP.kp bP .nil pass0 (pa_cons (pv 0) (pa_cons (pe_slice sl_list (pv 7) (po_some (pe_un un_neg pe_int)) po_none) pa_nil))) pa_nil)))))))
        (pss_one (ps_dput (hu_of hr) (pv 4) (pv 6) (pe_ix ix_list (pv 8) (pv 3) (fun _ _ => rfl)) rfl)))))
      (pss_one (ps_ret (pv 4))))
end
end FT


namespace FT
open PySem L2 TL ClX
theorem cut_strs (A : List Str) (lo hi : Option Int) : ∃ L : List Str, cutV (A.map V.str) lo hi = L.map V.str ∧ (∀ z ∈ L, z ∈ A) ∧ L.length ≤ A.length := by
  unfold cutV
  generalize HT.sIx (A.map V.str).length 0 lo = i
  generalize HT.sIx (A.map V.str).length (A.map V.str).length hi - i = k
  refine ⟨(A.drop i).take k, by rw [List.map_take, List.map_drop], fun z hz => List.mem_of_mem_drop (List.mem_of_mem_take hz), ?_⟩
  rw [List.length_take, List.length_drop]
  omega
theorem cut_two {xs : List V} (ne : xs ≠ []) : cutV xs none (some 2) ≠ [] := fun z => by
  have l0 : 0 < xs.length := List.length_pos_iff.mpr ne
  have e : HT.sIx xs.length xs.length (some 2) = min 2 xs.length := HT.sIx_nat _ _ 2
  have c : cutV xs none (some 2) = (xs.drop 0).take (min 2 xs.length - 0) := by
    show (xs.drop 0).take (HT.sIx xs.length xs.length (some 2) - 0) = _
    rw [e]
  rw [c] at z
  have := congrArg List.length z
  rw [List.length_take, List.length_drop, List.length_nil] at this
  omega
theorem cut_last {xs : List V} (ne : xs ≠ []) : cutV xs (some (-1)) none ≠ [] := fun z => by
  have l0 : 0 < xs.length := List.length_pos_iff.mpr ne
  have e : HT.sIx xs.length 0 (some (-1)) = ((-1 : Int) + (xs.length : Int)).toNat := by
    show (if (-1 : Int) < 0 then ((-1 : Int) + (xs.length : Int)).toNat else min (-1 : Int).toNat xs.length) = _
    rw [if_pos (by decide)]
  have c : cutV xs (some (-1)) none = (xs.drop ((-1 : Int) + (xs.length : Int)).toNat).take (xs.length - ((-1 : Int) + (xs.length : Int)).toNat) := by
    show (xs.drop (HT.sIx xs.length 0 (some (-1)))).take (xs.length - HT.sIx xs.length 0 (some (-1))) = _
    rw [e]
  rw [c] at z
  have := congrArg List.length z
  rw [List.length_take, List.length_drop, List.length_nil] at this
  omega
def spPlaces : Sp := fun vs H Q _ => ∃ (d c q : Addr) (m : Nat) (t : List (Str × Str)), vs = [.ref d, .ref q, .int (m : Int)] ∧ DrawAt H d c ∧ H q = some (.dK (prs t)) ∧ t.length ≤ 12 ∧ m ≤ 100 ∧
  ∀ (l : Addr) (zs : List Str) (H' : Hp), zs.length = m → (∀ z ∈ zs, z = "" ∨ z ∈ t.map Prod.fst) → H l = none → H' l = some (.lst (zs.map V.str)) → DrawAt H' d c → Keep d c H H' → Q (.ref l) H'
def tPlaces (K : PySem.W.Frag) : TS := tSeq (tAsg (tOp rCat (tLst (tCons (tC (.str "")) tNil)) (tCB (fun xs H Q => ∃ (a : Addr) (kvs : List (Key × V)), xs = [.ref a] ∧ Rd H a (.dK kvs) ∧ ∀ p, H p = none → Q (.ref p) (upd H p (.lst (kvs.map fun kv => kV kv.1)))) (tCons (tVar 1) tNil))) (gName 3))
  (tSeq (tAsg (tCall (spPick K) [] E0 (tCons (tVar 0) (tCons (tLst (tCons (tVar 3) (tCons (tVar 3) (tCons (tSl (rSlL K) (tVar 3) tNoPart (tPart (tC (.int 2)))) (tCons (tSl (rSlL K) (tVar 3) (tPart (tUn (rU fun i => .int (-i)) (tC (.int 1)))) tNoPart) tNil))))) tNil))) (gName 3))
  (tRet (tLc (iRng1 (tCons (tVar 2) tNil)) (gName 4) tYes (tCall (spPick K) [] E0 (tCons (tVar 0) (tCons (tVar 3) tNil))) [4])))
theorem places_ok {K : PySem.W.Frag} {D : Ends} {H : Hp} {d c q : Addr} {m : Nat} {t : List (Str × Str)} {u3 u4 : Option V} (dr : DrawAt H d c) (hq : H q = some (.dK (prs t))) (t12 : t.length ≤ 12) (m100 : m ≤ 100)
    (k : ∀ (l : Addr) (zs : List Str) (H' : Hp), zs.length = m → (∀ z ∈ zs, z = "" ∨ z ∈ t.map Prod.fst) → H l = none → H' l = some (.lst (zs.map V.str)) → DrawAt H' d c → Keep d c H H' → D.rt (.ref l) H') :
    tPlaces K D [some (.ref d), some (.ref q), some (.int (m : Int)), u3, u4] H := by
  have big : 1000 ≤ sizeLine := by decide
  let A : List Str := "" :: t.map Prod.fst
  have lenA : A.length = t.length + 1 := by
    show (t.map Prod.fst).length + 1 = _
    rw [List.length_map]
  refine ⟨by show 1 ≤ sizeLine; omega, fun p1 n1 => ⟨_, rfl, q, prs t, rfl, .inl (by rw [upd_ne (ne_of_none hq n1)]; exact hq), fun p2 n2 => ⟨p1, p2, [.str ""], _, rfl, rfl, by rw [upd_ne (ne_of_none upd_same n2), upd_same], upd_same, ?_, fun pa na => ?_⟩⟩⟩
  · rw [keys_prs, List.length_map, List.length_map]
    show 1 + _ ≤ sizeLine
    omega
  rw [keys_prs] at na ⊢
  obtain ⟨H1, e1⟩ : ∃ X, X = upd (upd (upd H p1 (.lst [.str ""])) p2 (.lst ((t.map Prod.fst).map V.str))) pa (.lst ([.str ""] ++ (t.map Prod.fst).map V.str)) := ⟨_, rfl⟩
  have s1 : Same H H1 := e1 ▸ ((same_new n1).trans (same_new n2)).trans (same_new na)
  have at1 : H1 pa = some (.lst (A.map V.str)) := by rw [e1, upd_same] <;> rfl
  have pad : pa ≠ d ∧ pa ≠ c := ((dr.mono (same_new n1)).mono (same_new n2)).apart na
  rw [← e1]
  have neA : A.map V.str ≠ [] := by simp [A]
  refine ⟨_, rfl, _, rfl, _, rfl, _, rfl, _, rfl, pa, _, rfl, SqL.of at1, fun p3 n3 => ?_⟩
  have s3 := same_new (o := .lst (cutV (A.map V.str) none (some 2))) n3
  have at3 := s3 _ _ at1
  refine ⟨_, rfl, 1, rfl, _, rfl, pa, _, rfl, SqL.of at3, fun p4 n4 => ?_⟩
  have s4 := same_new (o := .lst (cutV (A.map V.str) (some (-1)) none)) n4
  refine ⟨by show 4 ≤ sizeLine; omega, fun p5 n5 => ?_⟩
  have s5 := same_new (o := .lst [.ref pa, .ref pa, .ref p3, .ref p4]) n5
  obtain ⟨H5, e5⟩ : ∃ X, X = upd (upd (upd H1 p3 (.lst (cutV (A.map V.str) none (some 2)))) p4 (.lst (cutV (A.map V.str) (some (-1)) none))) p5 (.lst [.ref pa, .ref pa, .ref p3, .ref p4]) := ⟨_, rfl⟩
  have dr1 := dr.mono s1
  have p3d := dr1.apart n3
  have p4d := (dr1.mono s3).apart n4
  have p5d := ((dr1.mono s3).mono s4).apart n5
  have s15 : Same H1 H5 := e5 ▸ (s3.trans s4).trans s5
  have ha : H5 pa = some (.lst (A.map V.str)) := s15 _ _ at1
  have h3 : H5 p3 = some (.lst (cutV (A.map V.str) none (some 2))) := by
    rw [e5]
    exact s5 _ _ (s4 _ _ upd_same)
  have h4 : H5 p4 = some (.lst (cutV (A.map V.str) (some (-1)) none)) := by
    rw [e5]
    exact s5 _ _ upd_same
  obtain ⟨L3, el3, m3, ll3⟩ := cut_strs A none (some 2)
  obtain ⟨L4, el4, m4, ll4⟩ := cut_strs A (some (-1)) none
  have ne3 : L3 ≠ [] := fun z => cut_two neA (by rw [el3, z] <;> rfl)
  have ne4 : L4 ≠ [] := fun z => cut_last neA (by rw [el4, z] <;> rfl)
  rw [el3] at h3
  rw [el4] at h4
  refine ⟨d, c, _, 4, (fun _ x => ∃ (r : Addr) (L : List Str), x = .ref r ∧ H5 r = some (.lst (L.map V.str)) ∧ L ≠ [] ∧ (∀ z ∈ L, z ∈ A) ∧ r ≠ d ∧ r ≠ c ∧ L.length ≤ A.length), rfl, ?_, .inl ⟨p5, _, rfl, p5d.1, p5d.2, upd_same, rfl, fun i x hx => ?_⟩, by decide, by decide, fun i x H6 px dr6 k6 => ?_⟩
  · rw [← e5]
    exact dr1.mono s15
  · have hm := List.mem_of_getElem? hx
    simp only [List.mem_cons, List.not_mem_nil, or_false] at hm
    rcases hm with rfl | rfl | rfl | rfl
    · exact ⟨pa, A, rfl, ha, by simp [A], fun z hz => hz, pad.1, pad.2, Nat.le_refl _⟩
    · exact ⟨pa, A, rfl, ha, by simp [A], fun z hz => hz, pad.1, pad.2, Nat.le_refl _⟩
    · exact ⟨p3, L3, rfl, h3, ne3, m3, p3d.1, p3d.2, ll3⟩
    · exact ⟨p4, L4, rfl, h4, ne4, m4, p4d.1, p4d.2, ll4⟩
  rw [← e5] at k6
  obtain ⟨r, L, rfl, hr, neL, mL, rd, rc, lL⟩ := px
  have hr6 := k6 r _ rd rc hr
  have K6 : Keep d c H H6 := (Keep.of_same (s1.trans s15)).trans k6
  have posL : 0 < L.length := List.length_pos_iff.mpr neL
  refine ⟨_, rfl, _, rfl, by omega, by omega, fun D1 nD1 => ?_⟩
  have D1d := dr6.apart nD1
  refine lc_it (walk_range (lo := 0) (n := ((m : Int)).toNat)) (fun i H' => DrawAt H' d c ∧ Keep d c H6 H' ∧ ∃ zs : List Str, H' D1 = some (.lst (zs.map V.str)) ∧ zs.length = i ∧ ∀ z ∈ zs, z ∈ A) ⟨dr6.off D1d.1 D1d.2, Keep.refl.put nD1, [], upd_same, rfl, fun y h => by cases h⟩ (fun _ _ _ _ => trivial) ?_ ?_
  · intro i x Ha Hb hi ⟨da, ka, ys, ey, ly, sy⟩ ⟨e1, e2⟩
    subst e1
    subst e2
    refine ⟨rfl, ?_⟩
    refine ⟨_, rfl, _, rfl, d, c, _, L.length, (fun _ x => ∃ z, x = .str z ∧ z ∈ L), rfl, da, .inl ⟨r, _, rfl, rd, rc, ka r _ rd rc hr6, by rw [List.length_map], items_strs fun z hz => hz⟩, posL, by omega, fun i' x Hc px dc kc => ?_⟩
    obtain ⟨z, rfl, hz⟩ := px
    refine ⟨_, kc D1 _ D1d.1 D1d.2 ey, by rw [List.length_map, ly]; omega, dc.off D1d.1 D1d.2, (ka.trans kc).put nD1, ys ++ [z], by rw [upd_same, List.map_append] <;> rfl, by rw [List.length_append, ly] <;> rfl, fun y hy => ?_⟩
    rcases List.mem_append.mp hy with h | h
    · exact sy y h
    · rw [List.mem_singleton.mp h]
      exact mL z hz
  · intro H7 ⟨d7, k7, zs, ez, lz, sz⟩
    exact k D1 zs H7 (by omega) (fun z hz => List.mem_cons.mp (sz z hz)) (K6.free nD1 D1d.1 D1d.2) ez d7 (K6.trans k7)
section
variable {P : Program} {w : World} {K : PySem.W.Frag} {mg : Str → Option Value} {base : Heap}
theorem scPlaces : FnScope ["_law_state", "_law_tree_here", "_law_users", "_law_some", "_law_user"] ["_law_state", "_law_tree_here", "_law_users"] (defScope s__law_places) := ⟨rfl, rfl, rfl, by decide +kernel, rfl, by decide +kernel, by decide +kernel⟩
theorem ok_places {f fD fP : Addr} {fd fdD fdP : FuncData} (F : Fun K "_law_places" "_law_places" s__law_places f fd) (T : Nm mg) (FD : Fun K "_law_draw" "_law_draw" s__law_draw fD fdD) (bD : Binds K fdD ["_law_state", "_law_many"] []) (gD : mg "_law_draw" = some (.ref fD))
    (FP : Fun K "_law_pick" "_law_pick" s__law_pick fP fdP) (bP : Binds K fdP ["_law_state", "_law_some"] []) (gP : mg "_law_pick" = some (.ref fP)) : FnOk P w K mg base CX0 3 f fd ["_law_state", "_law_tree_here", "_law_users"] spPlaces := by
  have GP : FnOk P w K mg base CX0 2 fP fdP ["_law_state", "_law_some"] (spPick K) := ok_pick FP T FD bD gD
  refine F.ok scPlaces (fun vs H Q E h => ?_) (fun cdv A outer s H vs Q E hr h => ?_)
  · obtain ⟨d, c, q, m, t, rfl, _⟩ := h
    rfl
  · obtain ⟨d, c, q, m, t, rfl, hD, hq, t12, m100, k⟩ := h
    refine ⟨tPlaces K, ?_, places_ok hD hq t12 m100 k⟩
    exact pss_cons (ps_set (i := 3) scPlaces.nd rfl (.inr rfl) (pe_op op_cat (pe_lst (pa_cons pe_str pa_nil)) (pe_callTy (call_listD rfl) (by rfl) T.lst (by decide +kernel) (pa_cons (pv 1) pa_nil))))
      (pss_cons (ps_set (i := 3) scPlaces.nd rfl (.inr rfl) (pe_call GP hr rfl gP FP.kp bP .nil pass0 (pa_cons (pv 0) (pa_cons (pe_lst (pa_cons (pv 3) (pa_cons (pv 3) (pa_cons (pe_slice sl_list (pv 3) po_none (po_some pe_int)) (pa_cons (pe_slice sl_list (pv 3) (po_some (pe_un un_neg pe_int)) po_none) pa_nil))))) pa_nil))))
      (pss_one (ps_ret (pe_lc (own := [("_law_user", 4)]) (g := gName 4) (tt := tYes) rfl scPlaces.nd (pi_range1 rfl T.rng (pa_cons (pv 2) pa_nil))
        (blkOk_by (N := ["_law_state", "_law_tree_here", "_law_users", "_law_some", "_law_user"]) (sc := defScope s__law_places) (by decide +kernel))
        (fun _ _ _ _ _ => pg_name (i := 4) scPlaces.nd rfl (Or.inl rfl)) (fun _ _ _ _ _ => pts_nil) (fun _ _ _ _ _ => pe_call GP hr rfl gP FP.kp bP .nil pass0 (pa_cons (pv 0) (pa_cons (pv 3) pa_nil)))))))
end
end FT


/-! a text times a number: its length -/
namespace L2
open PySem PySem.Spec PyProof.Rows
section
variable {X : Cx}
def rMulS : R2 := fun x y H Q => ∃ (a : Str) (n : Int), x = .str a ∧ y = .int n ∧ a.length ≤ 1000 ∧ 0 ≤ n ∧ n ≤ 1000 ∧ ∀ b : Str, b.length = a.length * n.toNat → Q (.str b) H
theorem op_mulS : OpR X (binaryOp .Mult) rMulS := by
  intro pins s σ H x y v u Q I rx ry h
  obtain ⟨a, n, rfl, rfl, la, n0, n1, q⟩ := h
  obtain ⟨t, rfl⟩ := rx
  obtain ⟨t', rfl⟩ := ry
  have e := len_mul a n
  rw [if_neg (fun c => absurd (of_decide_eq_true c) (by omega))] at e
  have e2 : (Txt.mul a n).length = a.length * n.toNat := by
    have : ((a.length * n.toNat : Nat) : Int) = (a.length : Int) * n := by
      rw [Int.natCast_mul, Int.toNat_of_nonneg n0]
    omega
  exact SB.mul (mulOk_of 1000 1000 la (by omega) (by omega) (by decide) (by decide)) fun t' k => ⟨.str (Txt.mul a n), H, I.tok _, ⟨_, rfl⟩, q _ e2⟩
end
end L2


/-! _law_bent: some text, not too long -/
namespace FT
open PySem L2 TL ClX
def spBent : Sp := fun vs H Q _ => ∃ (d c : Addr) (z m : Str), vs = [.ref d, .str z, .str m] ∧ DrawAt H d c ∧ m.length = 1 ∧ z.length ≤ 3000 ∧ ∀ (y : Str) (H' : Hp), y.length ≤ 3 * z.length + 60 → DrawAt H' d c → Keep d c H H' → Q (.str y) H'
abbrev NBt : List Str := ["_law_state", "_law_told", "_law_mark", "_law_at", "_law_sign", "_law_way", "_law_parts", "_law_spot", "_law_mate", "_law_some", "_law_word", "_law_ahead", "_law_behind", "_law_made"]
theorem cut_strsW (A : List Str) (lo hi : Option Int) : ∃ L : List Str, cutV (A.map V.str) lo hi = L.map V.str ∧ L.length ≤ A.length ∧ wgt L ≤ wgt A := by
  unfold cutV
  generalize HT.sIx (A.map V.str).length 0 lo = i
  generalize HT.sIx (A.map V.str).length (A.map V.str).length hi - i = k
  refine ⟨(A.drop i).take k, by rw [List.map_take, List.map_drop], ?_, ?_⟩
  · rw [List.length_take, List.length_drop]
    omega
  · have h1 : wgt A = wgt (A.take i) + wgt (A.drop i) := by rw [← wgt_app, List.take_append_drop]
    have h2 : wgt (A.drop i) = wgt ((A.drop i).take k) + wgt ((A.drop i).drop k) := by rw [← wgt_app, List.take_append_drop]
    omega
theorem wgt_rev (A : List Str) : wgt A.reverse = wgt A := by
  unfold wgt
  exact ((List.reverse_perm A).map _).sum_nat
/-- a list of texts of some weight -/
def LsW (H : Hp) (l : Addr) (W : Nat) : Prop := ∃ A : List Str, H l = some (.lst (A.map V.str)) ∧ wgt A ≤ W
theorem LsW.mono {H H' : Hp} {l : Addr} {W : Nat} (s : Same H H') (h : LsW H l W) : LsW H' l W := let ⟨A, e, w⟩ := h; ⟨A, s _ _ e, w⟩
theorem catW {H : Hp} {l1 l2 : Addr} {W1 W2 : Nat} {Q : VK} (h1 : LsW H l1 W1) (h2 : LsW H l2 W2) (few : W1 + W2 ≤ 100000) (k : ∀ p H', Same H H' → H p = none → LsW H' p (W1 + W2) → Q (.ref p) H') : rCat (.ref l1) (.ref l2) H Q := by
  obtain ⟨A, e1, w1⟩ := h1
  obtain ⟨B, e2, w2⟩ := h2
  have big : 100000 ≤ sizeLine := by decide
  have la := wgt_len A
  have lb := wgt_len B
  refine ⟨l1, l2, _, _, rfl, rfl, e1, e2, by rw [List.length_map, List.length_map]; omega, fun p np => ?_⟩
  exact k p _ (same_new np) np ⟨A ++ B, by rw [upd_same, List.map_append], by rw [wgt_app]; omega⟩
theorem cutW {K : PySem.W.Frag} {H : Hp} {l : Addr} {W : Nat} {lo hi : Option Int} {Q : VK} (h : LsW H l W) (k : ∀ p H', Same H H' → H p = none → LsW H' p W → Q (.ref p) H') : rSlL K (.ref l) lo hi H Q := by
  obtain ⟨A, e, w⟩ := h
  obtain ⟨L, el, _, wl⟩ := cut_strsW A lo hi
  refine ⟨l, _, rfl, SqL.of e, fun p np => ?_⟩
  rw [el]
  exact k p _ (same_new np) np ⟨L, upd_same, by omega⟩
theorem cutN {K : PySem.W.Frag} {σ : St} {H : Hp} {l : Addr} {W : Nat} {lo : Option Int} {Q : VK} (h : LsW H l W) (k : ∀ p H', Same H H' → H p = none → LsW H' p W → Q (.ref p) H') : tNoPart σ H fun u H3 => rSlL K (.ref l) lo u H3 Q := cutW h k
theorem one_ls {H : Hp} {z : Str} {p : Addr} : LsW (upd H p (.lst [.str z])) p (z.length + 1) := ⟨[z], upd_same, by rw [wgt_cons]; exact Nat.le_refl _⟩
section
variable {P : Program} {w : World} {K : PySem.W.Frag} {mg : Str → Option Value} {base : Heap}
theorem scBt : FnScope NBt ["_law_state", "_law_told", "_law_mark"] (defScope s__law_bent) := ⟨rfl, rfl, rfl, by decide +kernel, rfl, by decide +kernel, by decide +kernel⟩
theorem ok_bent {f f1 f2 : Addr} {fd fd1 fd2 : FuncData} (F : Fun K "_law_bent" "_law_bent" s__law_bent f fd) (N : Nm mg) (DD : Dn P w K mg base CX0 1 "_law_draw" ["_law_state", "_law_many"] spDraw f1 fd1) (DP : Dn P w K mg base CX0 2 "_law_pick" ["_law_state", "_law_some"] (spPick K) f2 fd2) : FnOk P w K mg base CX0 3 f fd ["_law_state", "_law_told", "_law_mark"] spBent := by
  refine F.ok scBt (fun vs H Q E h => ?_) (fun cdv A outer s H vs Q E hr h => ?_)
  · obtain ⟨d, c, z, m, rfl, _⟩ := h
    rfl
  · obtain ⟨d, c, z, m, rfl, dr, m1, lz, k⟩ := h
    have hr1 : Room 1 _ := hr.mono (by decide)
    have hr2 : Room 2 _ := hr.mono (by decide)
    have nd := scBt.nd
    have big : 100000 ≤ sizeLine := by decide
    have half : ∀ n : Nat, n ≤ 10000 → ((n : Int)).natAbs < 2 ^ 200 := fun n hn => by
      rw [Int.natAbs_natCast]
      exact Nat.lt_of_le_of_lt hn (by decide)
    refine ⟨_, pss_cons (ps_par3 (i := 3) (j := 4) (l := 5) rfl nd rfl rfl rfl (by decide) (by decide) (by decide) rfl rfl rfl (pa_cons (pe_call DD.ok hr1 rfl DD.mgn DD.kp DD.bn .nil pass0 (pa_cons (pv 0) (pa_cons (pe_op op_add (pe_callB call_len_str (by rfl) N.len PySem.boot_len (pa_cons (pv 1) pa_nil)) pe_int) pa_nil)))
          (pa_cons (pe_call DP.ok hr2 rfl DP.mgn DP.kp DP.bn .nil pass0 (pa_cons (pv 0) (pa_cons pe_str pa_nil))) (pa_cons (pe_call DD.ok hr1 rfl DD.mgn DD.kp DD.bn .nil pass0 (pa_cons (pv 0) (pa_cons pe_int pa_nil))) pa_nil))) (by rfl))
      (pss_cons (ps_if (pt_cmpR op_lt (pv 5) pe_int (nomark _)) (pss_one (ps_ret (pe_op op_add_str (pe_op op_add_str (pe_slice sl_str (pv 1) po_none (po_some (pv 3))) (pe_op op_mulS (pv 4) (pe_callTy call_int1 (by rfl) N.int (by decide +kernel) (pa_cons (pe_cmpR op_ne (pv 5) pe_int (nomark _)) pa_nil))))
          (pe_slice sl_str (pv 1) (po_some (pe_op op_add (pv 3) (pe_callTy call_int1 (by rfl) N.int (by decide +kernel) (pa_cons (pe_cmpR op_gt (pv 5) pe_int (nomark _)) pa_nil)))) po_none)))) pss_nil)
      (pss_cons (ps_if (pt_cmpR op_eq (pv 5) pe_int (nomark _)) (pss_one (ps_ret (pe_slice sl_str (pv 1) po_none (po_some (pe_un un_neg pe_int))))) pss_nil)
      (pss_cons (ps_set (i := 6) nd rfl (.inl rfl) (pe_split (pv 1) (pv 2)))
      (pss_cons (ps_par (i := 7) (j := 8) rfl nd rfl rfl (by decide) rfl rfl (pa_cons (pe_call DD.ok hr1 rfl DD.mgn DD.kp DD.bn .nil pass0 (pa_cons (pv 0) (pa_cons (pe_callB call_len_seq (by rfl) N.len PySem.boot_len (pa_cons (pv 6) pa_nil)) pa_nil))) (pa_cons (pe_call DD.ok hr1 rfl DD.mgn DD.kp DD.bn .nil pass0 (pa_cons (pv 0) (pa_cons (pe_callB call_len_seq (by rfl) N.len PySem.boot_len (pa_cons (pv 6) pa_nil)) pa_nil))) pa_nil)) (by rfl))
      (pss_cons (ps_set (i := 9) nd rfl (.inl rfl) (pe_lst (pa_cons pe_str (pa_cons pe_str (pa_cons pe_str (pa_cons pe_str (pa_cons (pe_op op_add_str pe_str (pe_op op_mulS pe_str pe_int)) (pa_cons (pe_op op_add_str pe_str (pe_op op_mulS pe_str pe_int)) (pa_cons pe_str (pa_cons pe_str (pa_cons (pe_op op_add_str pe_str (pe_ix ix_list (pv 6) (pv 7) (fun _ _ => rfl))) pa_nil)))))))))))
      (pss_cons (ps_set (i := 10) nd rfl (.inl rfl) (pe_call DP.ok hr2 rfl DP.mgn DP.kp DP.bn .nil pass0 (pa_cons (pv 0) (pa_cons (pe_op op_cat (pv 9) (pe_lst (pa_cons (pe_op op_add_str (pe_ix ix_list (pv 6) (pv 7) (fun _ _ => rfl)) (pe_op op_mulS pe_str pe_int)) pa_nil))) pa_nil))))
      (pss_cons (ps_par (i := 11) (j := 12) rfl nd rfl rfl (by decide) rfl rfl (pa_cons (pe_slice sl_list (pv 6) po_none (po_some (pv 7))) (pa_cons (pe_slice sl_list (pv 6) (po_some (pe_op op_add (pv 7) pe_int)) po_none) pa_nil)) (by rfl))
      (pss_cons (ps_set (i := 13) nd rfl (.inl rfl) (pe_lst (pa_cons (pe_op op_cat (pv 11) (pv 12)) (pa_cons (pe_op op_cat (pe_op op_cat (pv 11) (pe_lst (pa_cons (pe_ix ix_list (pv 6) (pv 8) (fun _ _ => rfl)) pa_nil))) (pe_slice sl_list (pv 6) (po_some (pv 7)) po_none)) (pa_cons (pe_op op_cat (pe_op op_cat (pv 11) (pe_lst (pa_cons (pv 10) pa_nil))) (pv 12)) pa_nil)))))
      (pss_cons (ps_set (i := 13) nd rfl (.inl rfl) (pe_op op_cat (pv 13) (pe_lst (pa_cons (pe_op op_cat (pe_op op_cat (pv 11) (pe_revL (pe_slice sl_list (pv 6) (po_some (pv 7)) (po_some (pe_op op_add (pv 7) pe_int))))) (pe_slice sl_list (pv 6) (po_some (pe_op op_add (pv 7) pe_int)) po_none)) (pa_cons (pe_op op_cat (pe_op op_cat (pv 11) (pe_lst (pa_cons (pv 10) pa_nil))) (pe_slice sl_list (pv 6) (po_some (pv 7)) po_none)) pa_nil)))))
      (pss_one (ps_ret (pe_join (pv 2) (pe_ix ix_list (pv 13) (pe_op op_sub (pv 5) pe_int) (fun _ _ => rfl)))))))))))))), ?_⟩
    refine ⟨_, rfl, _, rfl, z, rfl, by omega, _, _, rfl, rfl, d, c, (z.length : Int) + 1, rfl, dr, by omega, half (z.length + 1) (by omega), fun at_ H1 a0 a1 dr1 k1 => ?_⟩
    refine ⟨_, rfl, d, c, _, 13, (fun _ x => ∃ s : Nat, x = .str ⟨#[s]⟩), rfl, dr1, .inr ⟨"abz019 =-_A.\n", rfl, rfl, fun i s hs => ⟨s, rfl⟩⟩, by decide, by decide, fun i' x H2 px dr2 k2 => ?_⟩
    obtain ⟨sg, rfl⟩ := px
    refine ⟨_, rfl, d, c, 9, rfl, dr2, by decide, by decide, fun way H3 w0 w9 dr3 k3 => ⟨_, _, _, rfl, ?_⟩⟩
    have k03 := (k1.trans k2).trans k3
    show (_ : St → Hp → Prop) [some (.ref d), some (.str z), some (.str m), some (.int at_), some (.str ⟨#[sg]⟩), some (.int way), none, none, none, none, none, none, none, none] H3
    have cz : ∀ lo hi, (cutS z lo hi).length ≤ z.length := cut_any_len z
    refine ⟨_, rfl, _, _, rfl, rfl, _, rfl, ?_⟩
    refine ite2 (fun _ => ?_) (fun h3 => ?_)
    · have b01 : ∀ b : Bool, 0 ≤ (if b then 1 else 0 : Int) ∧ (if b then 1 else 0 : Int) ≤ 1 := fun b => by cases b <;> exact ⟨by decide, by decide⟩
      have c1 := cz none (some at_)
      refine ⟨_, rfl, _, rfl, _, rfl, z, rfl, by omega, _, rfl, _, rfl, rfl, .inr ⟨_, rfl, _, _, rfl, rfl, by show 1 ≤ 1000; omega, (b01 _).1, Int.le_trans (b01 _).2 (by decide), fun b lb => ⟨_, _, rfl, rfl, ?_, ?_⟩⟩⟩
      · have := (b01 (!decide (V.int way = V.int 1))).2
        rw [lb]
        show (cutS z none (some at_)).length + 1 * _ ≤ _
        omega
      have lb2 : b.length ≤ 1 := by
        have := (b01 (!decide (V.int way = V.int 1))).2
        rw [lb]
        show 1 * _ ≤ 1
        omega
      refine ⟨_, rfl, _, rfl, _, rfl, _, _, rfl, rfl, .inr ⟨_, rfl, _, _, rfl, rfl, _, rfl, z, rfl, by omega, _, _, rfl, rfl, ?_, ?_⟩⟩
      · have := cz (some (at_ + (if decide (0 < way) then 1 else 0))) none
        rw [Str.length_append]
        omega
      · refine k _ H3 ?_ dr3 k03
        have := cz (some (at_ + (if decide (0 < way) then 1 else 0))) none
        rw [Str.length_append, Str.length_append]
        omega
    have w3 : 3 ≤ way := by
      refine Int.not_lt.mp fun h => h3 (decide_eq_true h)
    refine ⟨_, rfl, rfl, _, rfl, ?_⟩
    refine ite2 (fun _ => ?_) (fun h4 => ?_)
    · have c1 := cz none (some (-1))
      exact ⟨_, rfl, 1, rfl, _, rfl, z, rfl, by omega, k _ H3 (by omega) dr3 k03⟩
    have w4 : 4 ≤ way := by
      have : way ≠ 3 := fun e => h4 (decide_eq_true (by rw [e]))
      omega
    clear h3 h4
    obtain ⟨W, eW⟩ : ∃ W, W = z.length + 1 := ⟨_, rfl⟩
    obtain ⟨ps, eps⟩ : ∃ ps, ps = Txt.split z m := ⟨_, rfl⟩
    have pne : ps ≠ [] := by rw [eps]; exact split_ne _ _
    have wps : wgt ps = W := by rw [eps, eW]; exact split_wgt m1
    have lps : ps.length ≤ W := by rw [← wps]; exact wgt_len ps
    have pps : 0 < ps.length := List.length_pos_iff.mpr pne
    refine ⟨_, rfl, ⟨_, rfl⟩, _, rfl, _, _, rfl, rfl, by rw [m1] <;> rfl, by omega, fun pw nw => ?_⟩
    rw [← eps]
    obtain ⟨H4, e4⟩ : ∃ X, X = upd H3 pw (.lst (ps.map V.str)) := ⟨_, rfl⟩
    have s4 : Same H3 H4 := e4 ▸ same_new nw
    have at4 : H4 pw = some (.lst (ps.map V.str)) := by rw [e4]; exact upd_same
    have pwd := dr3.apart nw
    have dr4 := dr3.mono s4
    rw [← e4]
    have lpm : (ps.map V.str).length = ps.length := List.length_map ..
    refine ⟨_, rfl, _, rfl, pw, _, rfl, .inl (SqL.of at4), d, c, _, rfl, dr4, by rw [lpm]; omega, by rw [lpm]; exact half _ (by omega), fun sp H5 sp0 sp1 dr5 k5 => ?_⟩
    have at5 := k5 _ _ pwd.1 pwd.2 at4
    refine ⟨_, rfl, _, rfl, pw, _, rfl, .inl (SqL.of at5), d, c, _, rfl, dr5, by rw [lpm]; omega, by rw [lpm]; exact half _ (by omega), fun mt H6 mt0 mt1 dr6 k6 => ⟨_, _, rfl, ?_⟩⟩
    have at6 := k6 _ _ pwd.1 pwd.2 at5
    have k06 : Keep d c H H6 := ((k03.trans (Keep.of_same s4)).trans k5).trans k6
    rw [lpm] at sp1 mt1
    have item : ∀ i : Int, 0 ≤ i → i < (ps.length : Int) → ∃ y : Str, atI (ps.map V.str) i = some (.str y) ∧ y.length + 1 ≤ W := fun i h0 h1 => by
      have hi : i.toNat < ps.length := by omega
      refine ⟨ps[i.toNat], ?_, ?_⟩
      · have := atI_nat (map_at (f := V.str) (List.getElem?_eq_getElem hi))
        rw [show ((i.toNat : Nat) : Int) = i by omega] at this
        exact this
      · rw [← wps]
        exact wgt_mem (List.getElem_mem hi)
    obtain ⟨y1, ey1, ly1⟩ := item sp sp0 sp1
    obtain ⟨y2, ey2, ly2⟩ := item mt mt0 mt1
    show (_ : St → Hp → Prop) [some (.ref d), some (.str z), some (.str m), some (.int at_), some (.str ⟨#[sg]⟩), some (.int way), some (.ref pw), some (.int sp), some (.int mt), none, none, none, none, none] H6
    -- some
    refine ⟨_, _, rfl, rfl, by decide, by decide, by decide, fun b1 lb1 => ⟨_, _, rfl, rfl, by rw [lb1]; decide, _, _, rfl, rfl, by decide, by decide, by decide, fun b2 lb2 => ⟨_, _, rfl, rfl, by rw [lb2]; decide, _, rfl, _, rfl, pw, _, _, _, rfl, rfl, SqL.of at6, ey1, _, _, rfl, rfl, by show 1 + y1.length ≤ sizeLine; omega, by show 9 ≤ sizeLine; omega, fun l1 nl1 => ?_⟩⟩⟩
    have lb1' : b1.length = 31 := lb1
    have lb2' : b2.length = 32 := lb2
    have at7 := (same_new (o := .lst [.str "a=0", .str "-", .str "", .str "nobody", .str ("a=" ++ b1), .str ("a=" ++ b2), .str "a=07", .str "b", .str ("0" ++ y1)]) nl1) _ _ at6
    have s67 := same_new (o := .lst [.str "a=0", .str "-", .str "", .str "nobody", .str ("a=" ++ b1), .str ("a=" ++ b2), .str "a=07", .str "b", .str ("0" ++ y1)]) nl1
    obtain ⟨H7, e7⟩ : ∃ X, X = upd H6 l1 (.lst [.str "a=0", .str "-", .str "", .str "nobody", .str ("a=" ++ b1), .str ("a=" ++ b2), .str "a=07", .str "b", .str ("0" ++ y1)]) := ⟨_, rfl⟩
    have hl7 : H7 l1 = some (.lst [.str "a=0", .str "-", .str "", .str "nobody", .str ("a=" ++ b1), .str ("a=" ++ b2), .str "a=07", .str "b", .str ("0" ++ y1)]) := by rw [e7]; exact upd_same
    rw [← e7] at at7 s67 ⊢
    have dr7 := dr6.mono s67
    -- word
    refine ⟨_, rfl, _, rfl, _, rfl, _, rfl, pw, _, _, _, rfl, rfl, SqL.of at7, ey1, _, _, rfl, rfl, by decide, by decide, by decide, fun b3 lb3 => ⟨_, _, rfl, rfl, by rw [lb3]; show y1.length + 31 ≤ sizeLine; omega, by show 1 ≤ sizeLine; omega, fun l2 nl2 => ⟨l1, l2, _, _, rfl, rfl, (same_new nl2) _ _ hl7, upd_same, by show 9 + 1 ≤ sizeLine; omega, fun l3 nl3 => ?_⟩⟩⟩
    have lb3' : b3.length = 31 := lb3
    have s78 := (same_new (o := .lst [V.str (y1 ++ b3)]) nl2).trans (same_new (o := .lst ([.str "a=0", .str "-", .str "", .str "nobody", .str ("a=" ++ b1), .str ("a=" ++ b2), .str "a=07", .str "b", .str ("0" ++ y1)] ++ [V.str (y1 ++ b3)])) nl3)
    have l3d := (dr7.mono (same_new (o := .lst [V.str (y1 ++ b3)]) nl2)).apart nl3
    have dr8 := dr7.mono s78
    refine ⟨d, c, _, 10, (fun _ x => ∃ w : Str, x = .str w ∧ w.length ≤ W + 34), rfl, dr8, .inl ⟨l3, _, rfl, l3d.1, l3d.2, upd_same, rfl, fun i x hx => ?_⟩, by decide, by decide, fun i x H9 px dr9 k9 => ?_⟩
    · have hm := List.mem_of_getElem? hx
      simp only [List.cons_append, List.nil_append, List.mem_cons, List.not_mem_nil, or_false] at hm
      rcases hm with rfl | rfl | rfl | rfl | rfl | rfl | rfl | rfl | rfl | rfl
      · exact ⟨_, rfl, by show 3 ≤ _; omega⟩
      · exact ⟨_, rfl, by show 1 ≤ _; omega⟩
      · exact ⟨_, rfl, by show 0 ≤ _; omega⟩
      · exact ⟨_, rfl, by show 6 ≤ _; omega⟩
      · exact ⟨_, rfl, by rw [Str.length_append, lb1']; show 2 + 31 ≤ _; omega⟩
      · exact ⟨_, rfl, by rw [Str.length_append, lb2']; show 2 + 32 ≤ _; omega⟩
      · exact ⟨_, rfl, by show 4 ≤ _; omega⟩
      · exact ⟨_, rfl, by show 1 ≤ _; omega⟩
      · exact ⟨_, rfl, by rw [Str.length_append]; show 1 + _ ≤ _; omega⟩
      · exact ⟨_, rfl, by rw [Str.length_append, lb3']; omega⟩
    obtain ⟨wd, rfl, lwd⟩ := px
    have at9 := k9 _ _ pwd.1 pwd.2 (s78 _ _ at7)
    have k09 : Keep d c H H9 := (k06.trans (Keep.of_same (s67.trans s78))).trans k9
    have P9 : LsW H9 pw W := ⟨ps, at9, by omega⟩
    show gName 10 (V.str wd) [some (.ref d), some (.str z), some (.str m), some (.int at_), some (.str ⟨#[sg]⟩), some (.int way), some (.ref pw), some (.int sp), some (.int mt), some (.ref l1), none, none, none, none] H9 _
    -- ahead, behind
    refine ⟨_, rfl, _, rfl, _, rfl, cutW P9 fun pa H10 s10 na hA => ⟨_, rfl, _, rfl, _, _, rfl, rfl, _, rfl, cutN (P9.mono s10) fun pb H11 s11 nb hB => ⟨_, _, rfl, ?_⟩⟩⟩
    have P11 := P9.mono (s10.trans s11)
    have A11 := hA.mono s11
    have at11 := (s10.trans s11) _ _ at9
    -- made, first part
    refine ⟨_, rfl, _, rfl, catW A11 hB (by omega) fun r0 H12 s12 n0 h0 => ?_⟩
    refine ⟨_, rfl, _, rfl, _, rfl, pw, _, _, _, rfl, rfl, SqL.of (s12 _ _ at11), ey2, by show 1 ≤ sizeLine; omega, fun q1 nq1 => catW ((A11.mono s12).mono (same_new nq1)) one_ls (by omega) fun q2 H14 s14 nq2 hq2 => ?_⟩
    have s13 := same_new (o := .lst [V.str y2]) nq1
    have P14 := ((P11.mono s12).mono s13).mono s14
    refine ⟨_, rfl, _, rfl, _, rfl, cutN P14 fun q3 H15 s15 nq3 hq3 => catW (hq2.mono s15) hq3 (by omega) fun r1 H16 s16 n1 h1 => ?_⟩
    have A16 := (((((A11.mono s12).mono s13).mono s14).mono s15).mono s16)
    have B16 := (((((hB.mono s12).mono s13).mono s14).mono s15).mono s16)
    refine ⟨_, rfl, _, rfl, by show 1 ≤ sizeLine; omega, fun q4 nq4 => catW (A16.mono (same_new nq4)) one_ls (by omega) fun q5 H18 s18 nq5 hq5 => ⟨_, rfl, catW hq5 ((B16.mono (same_new nq4)).mono s18) (by omega) fun r2 H19 s19 n2 h2 => ⟨by show 3 ≤ sizeLine; omega, fun l13 nl13 => ?_⟩⟩⟩
    have s17 := same_new (o := .lst [V.str wd]) nq4
    have s1119 := (((((((s12.trans s13).trans s14).trans s15).trans s16).trans s17).trans s18).trans s19)
    have s20 := same_new (o := .lst [.ref r0, .ref r1, .ref r2]) nl13
    have hl20 := upd_same (H := H19) (a := l13) (o := .lst ([.ref r0, .ref r1, .ref r2] : List V))
    obtain ⟨H20, e20⟩ : ∃ X, X = upd H19 l13 (.lst [.ref r0, .ref r1, .ref r2]) := ⟨_, rfl⟩
    rw [← e20] at s20 hl20 ⊢
    have R0 := (((((((h0.mono s13).mono s14).mono s15).mono s16).mono s17).mono s18).mono s19).mono s20
    have R1 := ((h1.mono s17).mono s18).mono s19 |>.mono s20
    have R2 := h2.mono s20
    have P20 := (P11.mono s1119).mono s20
    have A20 := (A11.mono s1119).mono s20
    show gName 13 (V.ref l13) [some (.ref d), some (.str z), some (.str m), some (.int at_), some (.str ⟨#[sg]⟩), some (.int way), some (.ref pw), some (.int sp), some (.int mt), some (.ref l1), some (.str wd), some (.ref pa), some (.ref pb), none] H20 _
    -- made, second part
    refine ⟨_, rfl, _, rfl, _, rfl, _, rfl, _, rfl, _, rfl, _, _, rfl, rfl, _, rfl, cutW P20 fun q6 H21 s21 nq6 hq6 => ?_⟩
    obtain ⟨G6, eg6, wg6⟩ := id hq6
    refine ⟨q6, _, rfl, SqL.of eg6, fun q7 nq7 => ?_⟩
    have s22 := same_new (o := .lst (G6.map V.str).reverse) nq7
    have hq7 : LsW (upd H21 q7 (.lst (G6.map V.str).reverse)) q7 W := ⟨G6.reverse, by rw [upd_same, List.map_reverse], by rw [wgt_rev]; exact wg6⟩
    obtain ⟨H22, e22⟩ : ∃ X, X = upd H21 q7 (.lst (G6.map V.str).reverse) := ⟨_, rfl⟩
    rw [← e22] at s22 hq7 ⊢
    have P22 := (P20.mono s21).mono s22
    have A22 := (A20.mono s21).mono s22
    refine catW A22 hq7 (by omega) fun q8 H23 s23 nq8 hq8 => ?_
    have P23 := P22.mono s23
    refine ⟨_, rfl, _, rfl, _, _, rfl, rfl, _, rfl, cutN P23 fun q9 H24 s24 nq9 hq9 => catW (hq8.mono s24) hq9 (by omega) fun r3 H25 s25 n3 h3 => ?_⟩
    have P25 := (P23.mono s24).mono s25
    have A25 := ((A22.mono s23).mono s24).mono s25
    refine ⟨_, rfl, _, rfl, by show 1 ≤ sizeLine; omega, fun q10 nq10 => catW (A25.mono (same_new nq10)) one_ls (by omega) fun q11 H26 s26 nq11 hq11 => ?_⟩
    have s25b := same_new (o := .lst [V.str wd]) nq10
    have P26 := (P25.mono s25b).mono s26
    refine ⟨_, rfl, _, rfl, _, rfl, cutN P26 fun q12 H27 s27 nq12 hq12 => catW (hq11.mono s27) hq12 (by omega) fun r4 H28 s28 n4 h4 => ⟨by show 2 ≤ sizeLine; omega, fun l2b nl2b => ?_⟩⟩
    have s2028 := (((((((s21.trans s22).trans s23).trans s24).trans s25).trans s25b).trans s26).trans s27).trans s28
    have s29 := same_new (o := .lst [.ref r3, .ref r4]) nl2b
    refine ⟨l13, l2b, _, _, rfl, rfl, (s2028.trans s29) _ _ hl20, upd_same, by show 3 + 2 ≤ sizeLine; omega, fun l5 nl5 => ?_⟩
    obtain ⟨H29, e29⟩ : ∃ X, X = upd H28 l2b (.lst [.ref r3, .ref r4]) := ⟨_, rfl⟩
    rw [← e29] at s29 nl5 ⊢
    have s30 := same_new (o := .lst ([.ref r0, .ref r1, .ref r2] ++ [.ref r3, .ref r4])) nl5
    have hl30 : upd H29 l5 (.lst ([.ref r0, .ref r1, .ref r2] ++ [.ref r3, .ref r4])) l5 = some (.lst ([.ref r0, .ref r1, .ref r2, .ref r3, .ref r4] : List V)) := by rw [upd_same] <;> rfl
    obtain ⟨H30, e30⟩ : ∃ X, X = upd H29 l5 (.lst ([.ref r0, .ref r1, .ref r2] ++ [.ref r3, .ref r4])) := ⟨_, rfl⟩
    rw [← e30] at s30 hl30 ⊢
    have s2830 := s29.trans s30
    have s2030 := s2028.trans s2830
    obtain ⟨r, hat, hr⟩ : ∃ r : Addr, atI ([.ref r0, .ref r1, .ref r2, .ref r3, .ref r4] : List V) (way - 4) = some (V.ref r) ∧ LsW H30 r (3 * W + 36) := by
      have up : ∀ {a : Addr} {M : Nat}, LsW H30 a M → M ≤ 3 * W + 36 → LsW H30 a (3 * W + 36) := fun ⟨A, e, w⟩ le => ⟨A, e, by omega⟩
      have h3' := (((h3.mono s25b).mono s26).mono s27).mono s28 |>.mono s2830
      have cs : way = 4 ∨ way = 5 ∨ way = 6 ∨ way = 7 ∨ way = 8 := by omega
      rcases cs with rfl | rfl | rfl | rfl | rfl
      · exact ⟨r0, rfl, up (R0.mono s2030) (by omega)⟩
      · exact ⟨r1, rfl, up (R1.mono s2030) (by omega)⟩
      · exact ⟨r2, rfl, up (R2.mono s2030) (by omega)⟩
      · exact ⟨r3, rfl, up h3' (by omega)⟩
      · exact ⟨r4, rfl, up (h4.mono s2830) (by omega)⟩
    obtain ⟨B, eB, wB⟩ := hr
    refine ⟨_, rfl, ⟨_, rfl⟩, _, rfl, _, rfl, _, _, rfl, rfl, l5, _, _, _, rfl, rfl, SqL.of hl30, hat, m, r, B, rfl, rfl, .inl (SqL.of eB), ?_, ?_⟩
    · have := wgt_sum B
      rw [m1]
      omega
    · have kk : Keep d c H H30 := (k09.trans (Keep.of_same (s10.trans s11))).trans (Keep.of_same ((s1119.trans s20).trans s2030))
      refine k _ H30 ?_ (dr9.mono (((s10.trans s11).trans (s1119.trans s20)).trans s2030)) kk
      have := join_wgt_le m m1 B
      omega
end
end FT


/-! a parent read from a forest's dict -/
namespace FT
open PySem L2 TL ClX
theorem Rd.same {H H' : Hp} {a : Addr} {u : HO} (s : Same H H') (h : Rd H a u) : Rd H' a u := h.imp (fun e => s _ _ e) fun ⟨o, e⟩ => ⟨o, s _ _ e⟩
theorem dget_prs {H : Hp} {q : Addr} {ts : List (Str × Str)} {a p : Str} (h : Rd H q (.dK (prs ts))) (e : par ts a = some p) : DGet H q (.str a) (some (.str p)) := .inl ⟨prs ts, Sum.inr a, h, rfl, by rw [val_prs, e] <;> rfl⟩
end FT


/-! == of two lists of other lengths -/
namespace L2
open PySem PySem.Spec PyProof.Rows
section
variable {X : Cx}
def rEqLen : R2 := fun x y H Q => ∃ a b xs ys, x = .ref a ∧ y = .ref b ∧ H a = some (.lst xs) ∧ H b = some (.lst ys) ∧ xs.length ≠ ys.length ∧ Q (.bl false) H
end
end L2


/-! xs == [] and xs != [], whatever the items -/
namespace L2
open PySem PySem.Spec PyProof.Rows
section
variable {X : Cx}
def rNeLen : R2 := fun x y H Q => ∃ a b xs ys, x = .ref a ∧ y = .ref b ∧ H a = some (.lst xs) ∧ H b = some (.lst ys) ∧ xs.length ≠ ys.length ∧ Q (.bl true) H
theorem op_neLen (hu : X.A.units < cLine) : OpR X (compareOp .NotEq) rNeLen := by
  intro pins s σ H x y v u Q I rx ry h
  obtain ⟨a, b, xs, ys, rfl, rfl, ea, eb, ne, q⟩ := h
  obtain rfl : v = Value.ref a := rx
  obtain rfl : u = Value.ref b := ry
  obtain ⟨za, ia, na, ra, la, da⟩ := I.lstM ea
  obtain ⟨zb, ib, nb, rb, lb, db⟩ := I.lstM eb
  refine PySem.SeqAt.RcNeAt.lists_lengths (items := ia.toArray) (items2 := ib.toArray) ⟨_, da, rfl, _, rfl⟩ ⟨_, db, rfl, _, rfl⟩ ?_ hu _ _ _ _ ⟨.bl _, H, I, rfl, q⟩
  rw [List.size_toArray, List.size_toArray, bne_iff_ne]
  have h1 : xs.length = ia.length := by first | exact la | exact ra.length | exact la.symm
  have h2 : ys.length = ib.length := by first | exact lb | exact rb.length | exact lb.symm
  omega
def rEqNil : R2 := fun x y H Q => ∃ a b xs, x = .ref a ∧ y = .ref b ∧ H a = some (.lst xs) ∧ H b = some (.lst []) ∧ Q (.bl (decide (xs.length = 0))) H
def rNeNil : R2 := fun x y H Q => ∃ a b xs, x = .ref a ∧ y = .ref b ∧ H a = some (.lst xs) ∧ H b = some (.lst []) ∧ Q (.bl (!decide (xs.length = 0))) H
theorem op_neNil (hu : X.A.units + 64 < cLine) : OpR X (compareOp .NotEq) rNeNil := by
  intro pins s σ H x y v u Q I rx ry h
  obtain ⟨a, b, xs, rfl, rfl, ea, eb, q⟩ := h
  cases xs with
  | nil => exact op_neD hu pins s σ H _ _ v u Q I rx ry ⟨.list [], .list [], .lst (SqL.of ea) .nil, .lst (SqL.of eb) .nil, rfl, rfl, q⟩
  | cons x xs => exact op_neLen (by omega) pins s σ H _ _ v u Q I rx ry ⟨a, b, _, _, rfl, rfl, ea, eb, Nat.succ_ne_zero _, q⟩
end
end L2


/-! the law's own reading of texts: _law_sizes_in, _law_places_in -/
namespace FT
open PySem L2 TL ClX
def spSzIn : Sp := fun vs H Q _ => ∃ (q : Addr) (t ts : List (Str × Str)) (z : Str), vs = [.ref q, .str z] ∧ H q = some (.dK (prs t)) ∧ TreeOk t ∧ ts.Perm t ∧ Asc ts ∧ z.length ≤ 10000 ∧
  (GoodW (ts.map Prod.fst) (Txt.split z " ") → ∀ p H', Same H H' → H p = none → H' p = some (.dK (tblI (ts.map Prod.fst) (gW (ts.map Prod.fst) (Txt.split z " ")))) → Q (.ref p) H') ∧ (¬ GoodW (ts.map Prod.fst) (Txt.split z " ") → ∀ H', Same H H' → Q .non H')
def spPlIn : Sp := fun vs H Q _ => ∃ (q : Addr) (t ts : List (Str × Str)) (z : Str), vs = [.ref q, .str z] ∧ H q = some (.dK (prs t)) ∧ TreeOk t ∧ ts.Perm t ∧ z.length ≤ 10000 ∧
  (∀ i, plOf (ts.map Prod.fst) (Txt.split z "\n") = .inl i → ∀ H', Same H H' → Q (.int (i : Nat)) H') ∧ (∀ zs, plOf (ts.map Prod.fst) (Txt.split z "\n") = .inr zs → ∀ p H', Same H H' → H p = none → H' p = some (.lst (zs.map V.str)) → Q (.ref p) H')
abbrev NSi : List Str := ["_law_tree_here", "_law_told", "_law_words", "_law_found", "_law_flag", "_law_word", "_law_head", "_law_digits", "_law_sign"]
/-- signs that are no digits -/
def odds (l : List Nat) : List Nat := l.filter fun c => !decide (c ∈ digits.cps.toList)
theorem odds_none {l : List Nat} (h : odds l = []) : ∀ c ∈ l, 48 ≤ c ∧ c ≤ 57 := fun c hc => by
  have h2 := List.filter_eq_nil_iff.mp h c hc
  simp only [Bool.not_eq_true', decide_eq_false_iff_not] at h2
  exact digits_in (Decidable.not_not.mp h2)
theorem odds_some {l : List Nat} (h : odds l ≠ []) : ¬ ∀ c ∈ l, 48 ≤ c ∧ c ≤ 57 := fun a => h (by
  refine List.filter_eq_nil_iff.mpr fun c hc => ?_
  have := a c hc
  rw [decide_eq_true (in_digits this.1 this.2)]
  exact Bool.false_ne_true)
theorem odds_step {l : List Nat} {i : Nat} {c : Nat} (h : l[i]? = some c) : odds (l.take (i + 1)) = odds (l.take i) ++ (if c ∈ digits.cps.toList then [] else [c]) := by
  rw [take_more h]
  unfold odds
  rw [List.filter_append]
  by_cases e : c ∈ digits.cps.toList
  · rw [if_pos e, List.filter_cons, decide_eq_true e, List.filter_nil] <;> rfl
  · rw [if_neg e, List.filter_cons, decide_eq_false e, List.filter_nil] <;> rfl
theorem isN_facts {z : Str} (h : IsN z) : 1 ≤ z.length ∧ z.length ≤ 31 ∧ (∀ c ∈ tl z, 48 ≤ c ∧ c ≤ 57) ∧ ((tl z).head? = some 48 → z = "0") := by
  obtain ⟨n, hn, rfl⟩ := h
  obtain ⟨l1, l2⟩ := nT_len hn
  refine ⟨l1, l2, fun c hc => ?_, fun e => ?_⟩
  · rw [tl_nT] at hc
    exact numL_digits n c hc
  · rw [tl_nT] at e
    rw [head48 n n (Nat.le_refl _) e] <;> rfl
section
variable {P : Program} {w : World} {K : PySem.W.Frag} {mg : Str → Option Value} {base : Heap}
theorem scSi : FnScope NSi ["_law_tree_here", "_law_told"] (defScope s__law_sizes_in) := ⟨rfl, rfl, rfl, by decide +kernel, rfl, by decide +kernel, by decide +kernel⟩
theorem ok_szIn {f : Addr} {fd : FuncData} (F : Fun K "_law_sizes_in" "_law_sizes_in" s__law_sizes_in f fd) (N : Nm mg) : FnOk P w K mg base CX0 1 f fd ["_law_tree_here", "_law_told"] spSzIn := by
  refine F.ok scSi (fun vs H Q E h => ?_) (fun cdv A outer s H vs Q E hr h => ?_)
  · obtain ⟨q, t, ts, z, rfl, _⟩ := h
    rfl
  · obtain ⟨q, t, ts, z, rfl, hq, o, pts, asc, lz, kG, kB⟩ := h
    have hu := hu_of hr
    have nd := scSi.nd
    have big : 20000 ≤ sizeLine := by decide
    have few := o.few
    have one := o.one
    refine ⟨_, pss_cons (ps_par (i := 2) (j := 3) rfl nd rfl rfl (by decide) rfl rfl (pa_cons (pe_split (pv 1) pe_str) (pa_cons pe_dnewK pa_nil)) (by rfl))
      (pss_cons (ps_if (pt_cmpR op_ne (pe_callB call_len_seq (by rfl) N.len PySem.boot_len (pa_cons (pv 2) pa_nil)) (pe_callB call_lenD (by rfl) N.len PySem.boot_len (pa_cons (pv 0) pa_nil)) (nomark _)) (pss_one (ps_ret pe_non)) pss_nil)
      (pss_cons (ps_for PassesOwn.never rfl (pi_zip rfl N.zip (pa_cons (pe_callB (call_sortedD rfl) (by rfl) N.srt (by decide +kernel) (pa_cons (pv 0) pa_nil)) (pa_cons (pv 2) pa_nil))) (pg_tup rfl (pgs_cons (pg_name (i := 4) nd rfl (.inl rfl)) (pgs_cons (pg_name (i := 5) nd rfl (.inl rfl)) pgs_nil)))
        (pss_cons (ps_par (i := 6) (j := 7) rfl nd rfl rfl (by decide) rfl rfl (pa_cons (pe_slice sl_str (pv 5) po_none (po_some (pe_op op_add (pe_callB call_len_str (by rfl) N.len PySem.boot_len (pa_cons (pv 4) pa_nil)) pe_int))) (pa_cons (pe_slice sl_str (pv 5) (po_some (pe_op op_add (pe_callB call_len_str (by rfl) N.len PySem.boot_len (pa_cons (pv 4) pa_nil)) pe_int)) po_none) pa_nil)) (by rfl))
        (pss_cons (ps_if (PW.pt (pw_or (pt_cmpR op_ne (pv 6) (pe_op op_add_str (pv 4) pe_str) (nomark _)) (pw_or1 (pt_not (pt_chain op_lt op_lt pe_int (pe_callB call_len_str (by rfl) N.len PySem.boot_len (pa_cons (pv 7) pa_nil)) pe_int))))) (pss_one (ps_ret pe_non)) pss_nil)
        (pss_cons (ps_if (pt_cmpR (op_neNil hr.units) (pe_lc (own := [("_law_sign", 8)]) (g := gName 8) (tt := tTest (tOp (fun x y H Q => ∃ (c : Nat) (z : Str), x = .str ⟨#[c]⟩ ∧ y = .str z ∧ Q (.bl (!decide (c ∈ z.cps.toList))) H) (tVar 8) (tC (.str digits)))) (te := tVar 8) rfl nd (pi_str (pv 7))
            (blkOk_by (N := NSi) (sc := defScope s__law_sizes_in) (by decide +kernel)) (fun _ _ _ _ _ => pg_name (i := 8) nd rfl (Or.inl rfl)) (fun _ _ _ _ _ => pts_one (pt_cmpR op_notIn_sign (pv 8) pe_str rfl)) (fun _ _ _ _ _ => pv 8)) (pe_lst pa_nil) (nomark _)) (pss_one (ps_ret pe_non)) pss_nil)
        (pss_cons (ps_if (PW.pt (pw_and (pt_cmpR op_ne (pv 7) pe_str (nomark _)) (pw_and1 (pt_cmpR op_eq (pe_ix ix_str (pv 7) pe_int (fun _ _ => rfl)) pe_str (nomark _))))) (pss_one (ps_ret pe_non)) pss_nil)
        (pss_one (ps_dput hu (pv 3) (pv 4) (pe_callTy call_int_str (by rfl) N.int (by decide +kernel) (pa_cons (pv 7) pa_nil)) rfl)))))))
      (pss_one (ps_ret (pv 3))))), ?_⟩
    obtain ⟨fl, efl⟩ : ∃ fl, fl = ts.map Prod.fst := ⟨_, rfl⟩
    have lfl : fl.length = t.length := by rw [efl, List.length_map, pts.length_eq]
    have pfl : fl.Perm (t.map Prod.fst) := by rw [efl]; exact pts.map _
    have ndk : fl.Nodup := pfl.nodup_iff.mpr o.nd
    obtain ⟨ws, ews⟩ : ∃ ws, ws = Txt.split z " " := ⟨_, rfl⟩
    have lws : ws.length ≤ z.length + 1 := by rw [ews]; exact split_few rfl
    refine ⟨_, rfl, ⟨_, rfl⟩, _, _, rfl, rfl, by decide +kernel, by omega, fun pw nw fd nfd => ⟨_, _, rfl, ?_⟩⟩
    rw [← ews] at kG kB ⊢
    rw [← ews] at nfd
    rw [← efl] at kG kB
    obtain ⟨H1, e1⟩ : ∃ X, X = upd (upd H pw (.lst (ws.map V.str))) fd (.dK []) := ⟨_, rfl⟩
    have s1 : Same H H1 := e1 ▸ (same_new nw).trans (same_new nfd)
    have ww : pw ≠ fd := ne_of_none upd_same nfd
    have at1 : H1 pw = some (.lst (ws.map V.str)) := by rw [e1, upd_ne ww]; exact upd_same
    have hf1 : H1 fd = some (.dK []) := by rw [e1]; exact upd_same
    have nf0 : H fd = none := (same_new nw).free nfd
    have hq1 := s1 _ _ hq
    rw [← e1]
    refine ⟨_, rfl, pw, _, rfl, .inl (SqL.of at1), _, rfl, q, _, rfl, hq1, rfl, _, rfl, ?_⟩
    by_cases el : ws.length = fl.length
    · rw [decide_eq_true (show V.int _ = V.int _ by rw [List.length_map, el, lfl, prs_len])]
      refine iteF ?_
      refine ⟨_, rfl, q, prs t, t.map Prod.fst, rfl, .inl hq1, prs_keys t, by rw [List.length_map]; omega, fun ks p perm srt np => ?_⟩
      have eks : ks = fl := sorted_one (perm.trans pfl.symm) srt (by rw [efl]; exact asc)
      subst eks
      obtain ⟨H2, e2⟩ : ∃ X, X = upd H1 p (.lst (ks.map V.str)) := ⟨_, rfl⟩
      have s2 : Same H1 H2 := e2 ▸ same_new np
      have at2 : H2 p = some (.lst (ks.map V.str)) := by rw [e2]; exact upd_same
      have at2w := s2 _ _ at1
      have hf2 := s2 _ _ hf1
      rw [← e2]
      have s02 := s1.trans s2
      have kp2 : ∀ H', (∀ b u, b ≠ fd → H2 b = some u → H' b = some u) → Same H H' := fun H' k b u e => k b u (ne_of_none e nf0) (s02 _ _ e)
      have fp : p ≠ fd := (ne_of_none hf1 np).symm
      refine ⟨_, rfl, p, pw, _, _, rfl, SqL.of at2, SqL.of at2w, ?_⟩
      refine for_it (walk_zip (n := ks.length) (by rw [List.length_map, List.length_map, el, Nat.min_self])) (fun j σ' H' => (∃ u4 u5 u6 u7, σ' = [some (.ref q), some (.str z), some (.ref pw), some (.ref fd), u4, u5, u6, u7, none]) ∧ (∀ b u, b ≠ fd → H2 b = some u → H' b = some u) ∧ H' fd = some (.dK (tblI (ks.take j) (gW ks ws))) ∧ ∀ (i : Nat) (a w : Str), i < j → ks[i]? = some a → ws[i]? = some w → IsPart a w)
          ⟨⟨_, _, _, _, rfl⟩, fun _ _ _ e => e, hf2, fun i a w h => absurd h (Nat.not_lt_zero _)⟩ (fun j σ' H' _ z => ⟨SqL.of (z.2.1 _ _ fp at2), SqL.of (z.2.1 _ _ ww at2w)⟩) ?_ ?_
      · intro j T' σ' Ha Hb hj ⟨⟨u4, u5, u6, u7, e⟩, sa, hqa, okj⟩ ⟨T, y, v, eT, nT', eH, ey, ez⟩
        subst e
        subst eT
        subst eH
        obtain ⟨a, ha, rfl⟩ := map_of (show (ks.map V.str)[j]? = some y from ey)
        obtain ⟨w1, hw, rfl⟩ := map_of (show (ws.map V.str)[j]? = some v from ez)
        have ma : a ∈ t.map Prod.fst := perm.mem_iff.mp (List.mem_of_getElem? ha)
        have la := (o.nm a ma).len
        have lw : w1.length + 1 ≤ z.length + 1 := by
          have := wgt_mem (List.mem_of_getElem? hw)
          rw [ews, split_wgt rfl] at this
          exact this
        have sT := same_new (o := .tup [.str a, .str w1]) nT'
        obtain ⟨Hc, ec⟩ : ∃ X, X = upd Ha T (.tup [.str a, .str w1]) := ⟨_, rfl⟩
        have hTc : Hc T = some (.tup [.str a, .str w1]) := by rw [ec]; exact upd_same
        rw [← ec] at sT ⊢
        have s0c : Same H Hc := (kp2 _ sa).trans sT
        refine ⟨T, _, rfl, .inl (.inl hTc), rfl, ?_⟩
        refine ⟨_, _, rfl, _, _, rfl, rfl, ?_⟩
        have bad : ¬ IsPart a w1 → ∀ H', Same H H' → Q .non H' := fun np H' s' => kB (fun g => np (g.2 j a w1 ha hw)) H' s'
        refine ⟨_, rfl, _, rfl, a, rfl, by omega, _, _, rfl, rfl, _, rfl, w1, rfl, by omega, _, rfl, _, rfl, a, rfl, by omega, _, _, rfl, rfl, _, rfl, w1, rfl, by omega, _, _, rfl, ?_⟩
        obtain ⟨dg, edg⟩ : ∃ dg, dg = tailP a w1 := ⟨_, rfl⟩
        obtain ⟨hd, ehd⟩ : ∃ hd, hd = headP a w1 := ⟨_, rfl⟩
        have ldg : dg.length ≤ 10000 := by
          have := cut_any_len w1 (some ((a.length : Int) + 1)) none
          rw [edg]
          unfold tailP
          omega
        show (_ : St → Hp → Prop) [some (.ref q), some (.str z), some (.ref pw), some (.ref fd), some (.str a), some (.str w1), some (.str (headP a w1)), some (.str (tailP a w1)), none] Hc
        rw [← edg, ← ehd]
        refine ⟨_, rfl, _, rfl, _, _, rfl, rfl, by show a.length + 1 ≤ sizeLine; omega, rfl, _, rfl, ?_⟩
        by_cases hh : hd = a ++ "="
        · rw [decide_eq_true (show V.str hd = V.str (a ++ "=") by rw [hh])]
          refine iteF ?_
          have hhP : headP a w1 = a ++ "=" := by rw [← ehd]; exact hh
          have nb : ¬ IsN dg → ∀ H', Same H H' → Q .non H' := fun nn => bad fun ip => nn (by rw [edg]; exact ((part_iff a w1).mp ip).2)
          refine ⟨_, rfl, dg, rfl, by omega, _, _, rfl, rfl, _, rfl, ?_⟩
          by_cases l1 : 1 ≤ dg.length
          · rw [if_pos (decide_eq_true (by omega))]
            refine ⟨_, _, rfl, rfl, _, rfl, ?_⟩
            by_cases l2 : dg.length ≤ 31
            · rw [decide_eq_true (show (dg.length : Int) < 32 by omega)]
              refine iteF ?_
              refine ⟨_, rfl, dg, rfl, fun D nD => lc_it walk_str (fun i H' => Same Hc H' ∧ H' D = some (.lst ((odds ((tl dg).take i)).map fun c => V.str ⟨#[c]⟩))) ⟨same_new nD, upd_same⟩ (fun _ _ _ _ => trivial) ?_ ?_⟩
              · intro i x Hd He hi ⟨q1, q2⟩ ⟨e, ch, hc, ex⟩
                subst e
                subst ex
                have hc' : (tl dg)[i]? = some ch := by
                  show dg.cps.toList[i]? = some ch
                  rw [Array.getElem?_toList]
                  exact hc
                have il := (List.getElem?_eq_some_iff.mp hc').1
                rw [← len_tl] at il
                refine ⟨rfl, ?_⟩
                refine ⟨_, rfl, ch, digits, rfl, rfl, _, rfl, ?_⟩
                rw [odds_step hc']
                by_cases m : ch ∈ digits.cps.toList
                · rw [if_pos m, decide_eq_true m, List.append_nil]
                  exact iteF ⟨q1, q2⟩
                · rw [if_neg m, decide_eq_false m]
                  show if true = true then _ else _
                  rw [if_pos rfl]
                  refine ⟨_, rfl, _, q2, ?_, ?_, ?_⟩
                  · rw [List.length_map]
                    have h1 : (odds ((tl dg).take i)).length ≤ ((tl dg).take i).length := List.length_filter_le _ _
                    rw [List.length_take] at h1
                    omega
                  · intro b o e
                    rw [upd_ne (ne_of_none e nD)]
                    exact q1 b o e
                  · rw [upd_same, List.map_append] <;> rfl
              · intro H' ⟨q1, q2⟩
                rw [show dg.cps.size = (tl dg).length from rfl, List.take_length] at q2
                refine ⟨by show 0 ≤ sizeLine; omega, fun l nl => ?_⟩
                have sl := same_new (o := .lst []) nl
                refine ⟨D, l, _, rfl, rfl, sl _ _ q2, upd_same, _, rfl, ?_⟩
                rw [List.length_map]
                have s0l := (s0c.trans q1).trans sl
                by_cases od : odds (tl dg) = []
                · have eod : decide ((odds (tl dg)).length = 0) = true := by rw [od] <;> rfl
                  rw [eod]
                  refine iteF ?_
                  have ddg := odds_none od
                  obtain ⟨c, rest, ec⟩ : ∃ c rest, tl dg = c :: rest := by
                    cases e : tl dg with
                    | nil => rw [len_tl, e] at l1; cases l1
                    | cons c r => exact ⟨c, r, rfl⟩
                  have fnd : upd H' l (.lst []) fd = some (.dK (tblI (ks.take j) (gW ks ws))) := sl _ _ (q1 _ _ (sT _ _ hqa))
                  have fin : IsN dg → ∃ (zz : Str) (nn : Int), [V.str dg] = [V.str zz] ∧ intText? zz = some nn ∧ zz.length ≤ 640 ∧ nn = gW ks ws a ∧ IsPart a w1 := fun ⟨n, hn, en⟩ => by
                    obtain ⟨ip, en2⟩ := part_num hhP hn (by rw [← edg]; exact en)
                    exact ⟨dg, (n : Int), rfl, by rw [en]; exact nT_int hn, by omega, by rw [gW_at ndk ha hw, en2], ip⟩
                  refine ⟨_, rfl, rfl, _, rfl, ?_⟩
                  refine ite2 (fun ne => ⟨_, rfl, dg, 0, c, rfl, rfl, by omega, by rw [show dg.cps.toList = c :: rest from ec]; exact (atI_nat (xs := c :: rest) (j := 0) rfl : atI (c :: rest) ((0 : Nat) : Int) = _), rfl, _, rfl, ite2 (fun e => ?b) (fun ne2 => ?f1)⟩) (fun ne => ?f2)
                  case b =>
                    have e48 : c = 48 := by
                      have e2 := congrArg tl (V.str.inj (of_decide_eq_true e))
                      exact (List.cons.inj e2).1
                    refine nb (fun n => ?_) _ s0l
                    have e0 := (isN_facts n).2.2.2 (by rw [ec, e48] <;> rfl)
                    rw [decide_eq_true (show V.str dg = V.str "0" by rw [e0])] at ne
                    exact absurd ne (by decide)
                  all_goals
                    have iN : IsN dg := by
                      refine isN_of l1 l2 ddg fun h => ?_
                      first
                        | (exfalso; refine ne2 (decide_eq_true ?_); rw [ec] at h; rw [show c = 48 from Option.some.inj h] <;> rfl)
                        | (have e0 : dg = "0" := Decidable.not_not.mp fun n0 => ne (by rw [decide_eq_false (fun e => n0 (V.str.inj e))] <;> rfl)
                           rw [e0] <;> rfl)
                    obtain ⟨zz, nn, e1, e2, e3, e4, ip⟩ := fin iN
                    have fresh : a ∉ ks.take j := fun hm => by
                      obtain ⟨i, hi⟩ := List.mem_iff_getElem?.mp hm
                      have il := (List.getElem?_eq_some_iff.mp hi).1
                      rw [List.length_take] at il
                      rw [List.getElem?_take, if_pos (by omega)] at hi
                      have := (List.getElem?_inj (by omega) ndk).mp (hi.trans ha.symm)
                      omega
                    refine ⟨_, rfl, zz, nn, e1, e2, e3, _, rfl, _, rfl, fd, _, rfl, DPut.k (k := Sum.inr a) fnd (by rw [tblI_len, List.length_take]; omega), ⟨_, _, _, _, rfl⟩, fun b u bf e => ?_, ?_, fun i b w2 hi hb hw2 => ?_⟩
                    · rw [upd_ne bf]
                      exact sl _ _ (q1 _ _ (sT _ _ (sa b u bf e)))
                    · rw [upd_same, tblI_snoc fresh e4, take_more ha]
                    · rcases Nat.lt_succ_iff_lt_or_eq.mp hi with lt | rfl
                      · exact okj i b w2 lt hb hw2
                      · rw [ha] at hb
                        rw [hw] at hw2
                        cases hb
                        cases hw2
                        exact ip
                · have eod : decide ((odds (tl dg)).length = 0) = false := decide_eq_false (fun e => od (List.length_eq_zero_iff.mp e))
                  rw [eod]
                  show if true = true then _ else _
                  rw [if_pos rfl]
                  exact nb (fun n => odds_some od (isN_facts n).2.2.1) _ s0l
            · rw [decide_eq_false (show ¬ (dg.length : Int) < 32 by omega)]
              show if true = true then _ else _
              rw [if_pos rfl]
              exact nb (fun n => l2 (isN_facts n).2.1) _ s0c
          · rw [if_neg (fun e => l1 (by have := of_decide_eq_true e; omega))]
            refine ⟨_, rfl, ?_⟩
            show if true = true then _ else _
            rw [if_pos rfl]
            exact nb (fun n => l1 (isN_facts n).1) _ s0c
        · rw [decide_eq_false (show ¬ V.str hd = V.str (a ++ "=") from fun e => hh (V.str.inj e))]
          show if true = true then _ else _
          rw [if_pos rfl]
          exact bad (fun ip => hh (by rw [ehd]; exact ((part_iff a w1).mp ip).1)) _ s0c
      · intro σ' H' ⟨⟨u4, u5, u6, u7, e⟩, sa, hqa, okj⟩
        subst e
        rw [List.take_length] at hqa
        exact ⟨_, rfl, kG ⟨el, fun i a w ha hw => okj i a w (List.getElem?_eq_some_iff.mp ha).1 ha hw⟩ fd H' (kp2 _ sa) nf0 hqa⟩
    · rw [decide_eq_false (show ¬ V.int _ = V.int _ from fun e => el (by have := V.int.inj e; rw [List.length_map, prs_len] at this; omega))]
      show if true = true then _ else _
      rw [if_pos rfl]
      exact kB (fun g => el g.1) H1 s1
end
end FT


/-! the law's own reading of texts: _law_places_in -/
namespace FT
open PySem L2 TL ClX
abbrev NLi : List Str := ["_law_tree_here", "_law_told", "_law_rows", "_law_found", "_law_at", "_law_row"]
theorem cut_but_last (xs : List V) : cutV xs none (some (-1)) = xs.dropLast := by
  have e : HT.sIx xs.length xs.length (some (-1)) = ((-1 : Int) + (xs.length : Int)).toNat := by
    show (if (-1 : Int) < 0 then ((-1 : Int) + (xs.length : Int)).toNat else min (-1 : Int).toNat xs.length) = _
    rw [if_pos (by decide)]
  show (xs.drop 0).take (HT.sIx xs.length xs.length (some (-1)) - 0) = _
  rw [e, List.drop_zero, List.dropLast_eq_take]
  congr 1
  omega
theorem prs_isIn (t : List (Str × Str)) (r : Str) : (valV (prs t) (Sum.inr r)).isSome = decide (r ∈ t.map Prod.fst) := by
  unfold prs
  rw [kvT_val, look_has, prs_fst]
section
variable {P : Program} {w : World} {K : PySem.W.Frag} {mg : Str → Option Value} {base : Heap}
theorem scLi : FnScope NLi ["_law_tree_here", "_law_told"] (defScope s__law_places_in) := ⟨rfl, rfl, rfl, by decide +kernel, rfl, by decide +kernel, by decide +kernel⟩
theorem ok_plIn {f : Addr} {fd : FuncData} (F : Fun K "_law_places_in" "_law_places_in" s__law_places_in f fd) (N : Nm mg) : FnOk P w K mg base CX0 1 f fd ["_law_tree_here", "_law_told"] spPlIn := by
  refine F.ok scLi (fun vs H Q E h => ?_) (fun cdv A outer s H vs Q E hr h => ?_)
  · obtain ⟨q, t, ts, z, rfl, _⟩ := h
    rfl
  · obtain ⟨q, t, ts, z, rfl, hq, o, pts, lz, kI, kR⟩ := h
    have hu := hu_of hr
    have nd := scLi.nd
    have big : 20000 ≤ sizeLine := by decide
    refine ⟨_, pss_cons (ps_par (i := 2) (j := 3) rfl nd rfl rfl (by decide) rfl rfl (pa_cons (pe_split (pv 1) pe_str) (pa_cons (pe_lst pa_nil) pa_nil)) (by rfl))
      (pss_cons (ps_for PassesOwn.never rfl (pi_enum rfl N.enu (pa_cons (pe_slice sl_list (pv 2) po_none (po_some (pe_un un_neg pe_int))) pa_nil)) (pg_tup rfl (pgs_cons (pg_name (i := 4) nd rfl (.inl rfl)) (pgs_cons (pg_name (i := 5) nd rfl (.inl rfl)) pgs_nil)))
        (pss_cons (ps_if (PW.pt (pw_and (pt_cmpR op_ne (pv 5) pe_str (nomark _)) (pw_and1 (pt_cmp (pc_dnotin hu (pv 5) (pv 0)))))) (pss_one (ps_ret (pv 4))) pss_nil)
        (pss_one (ps_expr (pe_bm PySem.F.plainAttrs_list PySem.F.slot_list_append PySem.F.type_list_append mt_append (pv 3) (pa_cons (pe_ifExp (pt_cmpR op_eq (pv 5) pe_str (nomark _)) pe_str (pv 5)) pa_nil))))))
      (pss_one (ps_ret (pe_ifExp (PW.pt (pw_or (pt_cmpR op_ne (pe_ix ix_list (pv 2) (pe_un un_neg pe_int) (fun _ _ => rfl)) pe_str (nomark _)) (pw_or1 (pt_not (pt_chain op_le op_le pe_int (pe_callB call_len_seq (by rfl) N.len PySem.boot_len (pa_cons (pv 3) pa_nil)) pe_int)))))
        (pe_op op_sub (pe_callB call_len_seq (by rfl) N.len PySem.boot_len (pa_cons (pv 2) pa_nil)) pe_int) (pv 3))))), ?_⟩
    obtain ⟨fl, efl⟩ : ∃ fl, fl = ts.map Prod.fst := ⟨_, rfl⟩
    have pfl : fl.Perm (t.map Prod.fst) := by rw [efl]; exact pts.map _
    refine ⟨_, rfl, ⟨_, rfl⟩, _, _, rfl, rfl, by decide +kernel, by omega, fun pw nw => ⟨by show 0 ≤ sizeLine; omega, fun fd nfd => ⟨_, _, rfl, ?_⟩⟩⟩
    obtain ⟨ws, ews⟩ : ∃ ws, ws = Txt.split z "\n" := ⟨_, rfl⟩
    have wne : ws ≠ [] := by rw [ews]; exact split_ne _ _
    have lws : ws.length ≤ z.length + 1 := by rw [ews]; exact split_few rfl
    rw [← ews, ← efl] at kI kR
    rw [← ews] at nfd
    rw [← ews]
    obtain ⟨rows, er⟩ : ∃ rows, rows = ws.dropLast := ⟨_, rfl⟩
    obtain ⟨last, el⟩ : ∃ last, last = ws.getLast wne := ⟨_, rfl⟩
    have split : ws = rows ++ [last] := by rw [er, el, List.dropLast_concat_getLast]
    have gl : ws.getLast? = some last := by rw [List.getLast?_eq_some_getLast wne, el]
    have lr : rows.length + 1 = ws.length := by rw [split, List.length_append] <;> rfl
    obtain ⟨H1, e1⟩ : ∃ X, X = upd (upd H pw (.lst (ws.map V.str))) fd (.lst []) := ⟨_, rfl⟩
    have s1 : Same H H1 := e1 ▸ (same_new nw).trans (same_new nfd)
    have ww : pw ≠ fd := ne_of_none upd_same nfd
    have at1 : H1 pw = some (.lst (ws.map V.str)) := by rw [e1, upd_ne ww]; exact upd_same
    have hf1 : H1 fd = some (.lst []) := by rw [e1]; exact upd_same
    have nf0 : H fd = none := (same_new nw).free nfd
    have hq1 := s1 _ _ hq
    rw [← e1]
    refine ⟨_, rfl, 1, rfl, _, rfl, pw, _, rfl, SqL.of at1, fun pr npr => ?_⟩
    rw [show cutV (ws.map V.str) none (some (-1)) = rows.map V.str by rw [cut_but_last, er, List.map_dropLast]]
    obtain ⟨H2, e2⟩ : ∃ X, X = upd H1 pr (.lst (rows.map V.str)) := ⟨_, rfl⟩
    have s2 : Same H1 H2 := e2 ▸ same_new npr
    have at2 : H2 pr = some (.lst (rows.map V.str)) := by rw [e2]; exact upd_same
    have at2w := s2 _ _ at1
    have hf2 := s2 _ _ hf1
    have hq2 := s2 _ _ hq1
    rw [← e2]
    have s02 := s1.trans s2
    have kp2 : ∀ H', (∀ b u, b ≠ fd → H2 b = some u → H' b = some u) → Same H H' := fun H' k b u e => k b u (ne_of_none e nf0) (s02 _ _ e)
    have fpr : pr ≠ fd := (ne_of_none hf1 npr).symm
    have fq : q ≠ fd := ne_of_none hq nf0
    refine ⟨pr, _, rfl, SqL.of at2, ?_⟩
    refine for_it walk_enum (fun j σ' H' => (∃ u4 u5, σ' = [some (.ref q), some (.str z), some (.ref pw), some (.ref fd), u4, u5]) ∧ (∀ b u, b ≠ fd → H2 b = some u → H' b = some u) ∧ H' fd = some (.lst (((rows.take j).map plc).map V.str)) ∧ ∀ (i : Nat) (r : Str), i < j → rows[i]? = some r → badL fl r = false)
      ⟨⟨_, _, rfl⟩, fun _ _ _ e => e, hf2, fun i r h => absurd h (Nat.not_lt_zero _)⟩ (fun j σ' H' _ z => SqL.of (z.2.1 _ _ fpr at2)) ?_ ?_
    · intro j T' σ' Ha Hb hj ⟨⟨u4, u5, e⟩, sa, hfa, okj⟩ ⟨Tp, i, v, eT, nT, eH, ey, ez⟩
      subst e
      subst eT
      subst eH
      cases ey
      obtain ⟨r, hrw, rfl⟩ := map_of (show (rows.map V.str)[j]? = some v from ez)
      have jl := (List.getElem?_eq_some_iff.mp hrw).1
      have sT := same_new (o := .tup [.int (j : Int), .str r]) nT
      have next : badL fl r = false → ∀ (i : Nat) (q : Str), i < j + 1 → rows[i]? = some q → badL fl q = false := fun h i q hi hq => by
        rcases Nat.lt_succ_iff_lt_or_eq.mp hi with lt | rfl
        · exact okj i q lt hq
        · rw [hrw] at hq
          cases hq
          exact h
      refine ⟨Tp, _, rfl, .inl (.inl upd_same), rfl, ?_⟩
      refine ⟨_, _, rfl, _, _, rfl, rfl, ?_⟩
      refine ⟨_, rfl, rfl, _, rfl, ?_⟩
      have hqa := sT _ _ (sa _ _ fq hq2)
      have hfT := sT _ _ hfa
      have stay : ∀ {x : V}, ∀ b u, b ≠ fd → H2 b = some u → upd (upd Ha Tp (.tup [.int (j : Int), .str r])) fd (.lst (((rows.take j).map plc).map V.str ++ [x])) b = some u := fun {x} b u nb e => by
        rw [upd_ne nb]
        exact sT _ _ (sa b u nb e)
      have app : upd (upd Ha Tp (.tup [.int (j : Int), .str r])) fd (.lst (((rows.take j).map plc).map V.str ++ [.str (plc r)])) fd = some (.lst (((rows.take (j + 1)).map plc).map V.str)) := by
        rw [upd_same, take_more hrw, List.map_append, List.map_append] <;> rfl
      have lacc : (((rows.take j).map plc).map V.str).length < sizeLine := by
        rw [List.length_map, List.length_map, List.length_take]
        omega
      by_cases ed : r = "-"
      · rw [decide_eq_true (show V.str r = V.str "-" by rw [ed])]
        refine iteF ?_
        refine iteF ?_
        refine ⟨_, rfl, .inl ⟨rfl, _, SqL.of hfT⟩, _, rfl, rfl, _, rfl, ?_⟩
        show if decide (V.str r = V.str "-") = true then _ else _
        rw [decide_eq_true (show V.str r = V.str "-" by rw [ed]), if_pos rfl]
        rw [show plc r = "" from if_pos ed] at app
        exact ⟨fd, _, _, rfl, rfl, hfT, lacc, ⟨_, _, rfl⟩, stay, app, next (by rw [ed]; exact badL_dash)⟩
      · rw [decide_eq_false (show ¬ V.str r = V.str "-" from fun e => ed (V.str.inj e))]
        show if true = true then _ else _
        rw [if_pos rfl]
        refine ⟨_, rfl, _, rfl, q, _, rfl, DGet.k (k := Sum.inr r) hqa, _, rfl, ?_⟩
        by_cases mr : r ∈ t.map Prod.fst
        · rw [prs_isIn, decide_eq_true mr]
          refine iteF ?_
          refine ⟨_, rfl, .inl ⟨rfl, _, SqL.of hfT⟩, _, rfl, rfl, _, rfl, ?_⟩
          show if decide (V.str r = V.str "-") = true then _ else _
          rw [decide_eq_false (fun e => ed (V.str.inj e))]
          refine iteF ?_
          rw [show plc r = r from if_neg ed] at app
          exact ⟨_, rfl, fd, _, _, rfl, rfl, hfT, lacc, ⟨_, _, rfl⟩, stay, app, next (by rw [badL_no ed, decide_eq_false (fun h => h (pfl.mem_iff.mpr mr))])⟩
        · rw [prs_isIn, decide_eq_false mr]
          show if true = true then _ else _
          rw [if_pos rfl]
          refine ⟨_, rfl, ?_⟩
          exact kI j (plOf_bad (by rw [← er]; exact hrw) (by rw [badL_no ed]; exact decide_eq_true fun h => mr (pfl.mem_iff.mp h)) (fun i q hi hq => okj i q hi (by rw [er]; exact hq))) _ ((kp2 _ sa).trans sT)
    · intro σ' H3 ⟨⟨u4, u5, e⟩, sa, hfa, okj⟩
      subst e
      rw [List.length_map] at okj
      rw [List.length_map, List.take_length] at hfa
      have allok : ∀ q ∈ ws.dropLast, badL fl q = false := fun q hq => by
        rw [← er] at hq
        obtain ⟨i, hi⟩ := List.mem_iff_getElem?.mp hq
        exact okj i q (List.getElem?_eq_some_iff.mp hi).1 hi
      have eP := plOf_ok allok
      rw [gl, ← er] at eP
      have at3 := sa _ _ ww at2w
      have s03 := kp2 _ sa
      have lw : (ws.map V.str).length = rows.length + 1 := by rw [List.length_map, lr]
      have bad : ¬ (some last = some ("" : Str) ∧ 1 ≤ rows.length ∧ rows.length ≤ 60) → tOp (rI0 fun i j => V.int (i - j)) (tCB (fun xs H Q => ∃ (p : Addr) (ys : List V), xs = [V.ref p] ∧ (SqL K H p ys ∨ SqT K H p ys) ∧ Q (V.int (ys.length : Int)) H) (tCons (tVar 2) tNil)) (tC (V.int 1)) [some (V.ref q), some (V.str z), some (V.ref pw), some (V.ref fd), u4, u5] H3 Q := fun nb => by
        rw [if_neg nb] at eP
        refine ⟨_, rfl, pw, _, rfl, .inl (SqL.of at3), _, _, rfl, rfl, ?_⟩
        rw [lw]
        show Q (V.int (((rows.length + 1 : Nat) : Int) - 1)) H3
        rw [show (((rows.length + 1 : Nat) : Int) - 1) = (rows.length : Int) by omega]
        exact kI _ eP _ s03
      refine ⟨_, rfl, 1, rfl, pw, _, _, .str last, rfl, rfl, SqL.of at3, ?_, rfl, _, rfl, ?_⟩
      · unfold atI ixN
        rw [if_neg (by decide), if_pos (by omega)]
        show (ws.map V.str)[_]? = _
        rw [show ((-1 : Int) + ((ws.map V.str).length : Int)).toNat = rows.length by omega, split, List.map_append, List.getElem?_append_right (by rw [List.length_map]; exact Nat.le_refl _), List.length_map, Nat.sub_self] <;> rfl
      by_cases e0 : last = ""
      · rw [decide_eq_true (show V.str last = V.str "" by rw [e0])]
        refine iteF ?_
        refine ⟨_, rfl, fd, _, rfl, .inl (SqL.of hfa), _, _, rfl, rfl, _, rfl, ?_⟩
        rw [List.length_map, List.length_map]
        by_cases l1 : 1 ≤ rows.length
        · rw [if_pos (decide_eq_true (by omega))]
          refine ⟨_, _, rfl, rfl, _, rfl, ?_⟩
          by_cases l60 : rows.length ≤ 60
          · rw [decide_eq_true (show ((rows.length : Nat) : Int) ≤ 60 by omega)]
            refine iteF ?_
            rw [if_pos ⟨by rw [e0], l1, l60⟩] at eP
            exact ⟨_, rfl, kR _ eP fd H3 s03 nf0 hfa⟩
          · rw [decide_eq_false (show ¬ ((rows.length : Nat) : Int) ≤ 60 by omega)]
            show if true = true then _ else _
            rw [if_pos rfl]
            exact bad (fun h => l60 h.2.2)
        · rw [if_neg (fun e => l1 (by have := of_decide_eq_true e; omega))]
          refine ⟨_, rfl, ?_⟩
          show if true = true then _ else _
          rw [if_pos rfl]
          exact bad (fun h => l1 h.2.1)
      · rw [decide_eq_false (show ¬ V.str last = V.str "" from fun e => e0 (V.str.inj e))]
        show if true = true then _ else _
        rw [if_pos rfl]
        exact bad (fun h => e0 (Option.some.inj h.1))
end
end FT


/-! parse_sizes of any value -/
namespace FT
open PySem L2 TL ClX
/-- a value that is no text -/
def NoStr (K : PySem.W.Frag) (H : Hp) (v : V) : Prop := ∃ T, Dat K H v T ∧ T ≠ "str"
def spParS (K : PySem.W.Frag) (CF CT : Addr) : Sp := fun vs H Q E => ∃ (x : Addr) (ts : List (Str × Str)) (v : V), vs = [.ref x, v] ∧ FAt CF H x ts ∧ TreeOk ts ∧
  ((∃ z : Str, v = .str z ∧ z.length ≤ 10000 ∧ (GoodW (ts.map Prod.fst) (Txt.split z " ") → ∀ q H', Same H H' → H q = none → H' q = some (.dK (tblI (ts.map Prod.fst) (gW (ts.map Prod.fst) (Txt.split z " ")))) → Q (.ref q) H') ∧ (¬ GoodW (ts.map Prod.fst) (Txt.split z " ") → Out H E (.e1 CT "line" (.int 0)))) ∨
    (NoStr K H v ∧ Out H E (.e1 CT "line" (.int 0))))
abbrev NPs : List Str := ["forest", "text", "words", "flags", "sizes", "flag", "word", "size"]
section
variable {P : Program} {w : World} {K : PySem.W.Frag} {mg : Str → Option Value} {base : Heap}
theorem scPs : FnScope NPs ["forest", "text"] (defScope s_parse_sizes) := ⟨rfl, rfl, rfl, by decide +kernel, rfl, by decide +kernel, by decide +kernel⟩
theorem ok_parS {f fI CF CT IT pF gF : Addr} {fd fdI dF dT : FuncData} (F : Fun K "parse_sizes" "parse_sizes" s_parse_sizes f fd) (T : Nm mg) (O : FoC K CF) (L : Pr1 P w K mg base CF "flags" (spFFlags CF) pF gF dF) (DI : Dn P w K mg base CX0 1 "integer_of" ["word"] spIntOf fI fdI) (ET : Er1 P w K mg base "InvalidText" "line" CT IT dT) :
    FnOk P w K mg base (L2.CX P w) 3 f fd ["forest", "text"] (spParS K CF CT) := by
  refine F.okX scPs (fun vs H Q E h => ?_) (fun cdv A outer s H vs Q E hr h => ?_)
  · obtain ⟨x, ts, v, rfl, _⟩ := h
    rfl
  · obtain ⟨x, ts, v, rfl, fa, o, h⟩ := h
    have hu := hu_of hr
    have hr1 : Room 1 _ := hr.mono (by decide)
    have hr2 : Room (1 + 1) _ := hr.mono (by decide)
    have nd := scPs.nd
    have big : 20000 ≤ sizeLine := by decide
    have few := o.few
    have one := o.one
    refine ⟨_, pss_cons (ps_set (i := 2) nd rfl (.inl rfl) (pe_ifExp (pt_val (pe_callB call_isi (by rfl) T.isi (by decide +kernel) (pa_cons (pv 1) (pa_cons (pe_bltn (v := .ty "str") (u := .type "str") (by rfl) T.str (by decide +kernel) rfl) pa_nil)))) (pe_split (pv 1) pe_str) (pe_lst pa_nil)))
      (pss_cons (ps_set (i := 3) nd rfl (.inl rfl) (pe_prop (pv 0) O.cl L.pr L.fn hr2 L.bn .nil pass0 (by rfl)))
      (pss_cons (ps_if (pt_cmpR op_ne (pe_callB call_len_seq (by rfl) T.len PySem.boot_len (pa_cons (pv 2) pa_nil)) (pe_callB call_len_seq (by rfl) T.len PySem.boot_len (pa_cons (pv 3) pa_nil)) (nomark _)) (pss_one (ps_err1 ET rfl (takes_of rfl rfl rfl rfl) hr2 rfl pe_int)) pss_nil)
      (pss_cons (ps_set (i := 4) nd rfl (.inl rfl) pe_dnewK)
      (pss_cons (ps_for (passes_of rfl) rfl (pi_zip rfl T.zip (pa_cons (pv 3) (pa_cons (pv 2) pa_nil))) (pg_tup rfl (pgs_cons (pg_name (i := 5) nd rfl (.inl rfl)) (pgs_cons (pg_name (i := 6) nd rfl (.inl rfl)) pgs_nil)))
        (pss_cons (ps_set (i := 7) nd rfl (.inl rfl) (pe_call DI.ok hr1 rfl DI.mgn DI.kp DI.bn .nil pass0 (pa_cons (pe_slice sl_str (pv 6) (po_some (pe_op op_add (pe_callB call_len_str (by rfl) T.len PySem.boot_len (pa_cons (pv 5) pa_nil)) pe_int)) po_none) pa_nil)))
        (pss_cons (ps_if (PW.pt (pw_or (pt_not (pt_val (pe_m1 PySem.F.slot_str_startswith PySem.F.type_str_startswith mt_startswith (pv 6) (pe_op op_add_str (pv 5) pe_str)))) (pw_or1 (pt_cmpR op_isN (pv 7) pe_non (nomark _))))) (pss_one (ps_err1 ET rfl (takes_of rfl rfl rfl rfl) hr2 rfl pe_int)) pss_nil)
        (pss_one (ps_dput hu (pv 4) (pv 5) (pv 7) rfl)))))
      (pss_one (ps_ret (pv 4))))))), ?_⟩
    obtain ⟨fl, efl⟩ : ∃ fl, fl = ts.map Prod.fst := ⟨_, rfl⟩
    have lfl : fl.length = ts.length := by rw [efl, List.length_map]
    have ndk : fl.Nodup := by rw [efl]; exact o.nd
    obtain ⟨dx, dq, hx, hd⟩ := id fa
    rcases h with ⟨z, rfl, lz, kG, kB⟩ | ⟨⟨Tv, dv, nv⟩, kB⟩
    · rw [← efl] at kG kB
      obtain ⟨ws, ews⟩ : ∃ ws, ws = Txt.split z " " := ⟨_, rfl⟩
      have lws : ws.length ≤ z.length + 1 := by rw [ews]; exact split_few rfl
      refine ⟨_, rfl, .str z, _, _, _, true, rfl, .ty _, .base (.str _), kit_ty (by decide +kernel), true, rfl, ?_⟩
      refine iteT ?_
      refine ⟨_, rfl, ⟨_, rfl⟩, _, _, rfl, rfl, by decide +kernel, by omega, fun pw nw => ?_⟩
      rw [← ews] at kG kB ⊢
      obtain ⟨H1, e1⟩ : ∃ X, X = upd H pw (.lst (ws.map V.str)) := ⟨_, rfl⟩
      have s1 : Same H H1 := e1 ▸ same_new nw
      have at1 : H1 pw = some (.lst (ws.map V.str)) := by rw [e1]; exact upd_same
      rw [← e1]
      refine ⟨_, rfl, x, dx, _, rfl, s1 _ _ hx, x, ts, rfl, FAt.mono s1 fa, fun pf nf => ?_⟩
      rw [← efl]
      obtain ⟨H2, e2⟩ : ∃ X, X = upd H1 pf (.lst (fl.map V.str)) := ⟨_, rfl⟩
      have s2 : Same H1 H2 := e2 ▸ same_new nf
      have at2 : H2 pf = some (.lst (fl.map V.str)) := by rw [e2]; exact upd_same
      have at2w := s2 _ _ at1
      rw [← e2]
      have s02 := s1.trans s2
      refine ⟨_, rfl, pw, _, rfl, .inl (SqL.of at2w), _, rfl, pf, _, rfl, .inl (SqL.of at2), rfl, _, rfl, ?_⟩
      by_cases el : ws.length = fl.length
      · rw [decide_eq_true (show V.int _ = V.int _ by rw [List.length_map, List.length_map, el])]
        refine iteF fun q nq => ?_
        have qw : pw ≠ q := ne_of_none at2w nq
        have qf : pf ≠ q := ne_of_none at2 nq
        refine ⟨_, rfl, _, rfl, pf, pw, _, _, rfl, SqL.of (by rw [upd_ne qf]; exact at2), SqL.of (by rw [upd_ne qw]; exact at2w), ?_⟩
        refine for_it (walk_zip (n := fl.length) (by rw [List.length_map, List.length_map, el, Nat.min_self])) (fun j σ' H' => (∃ u5 u6 u7, σ' = [some (.ref x), some (.str z), some (.ref pw), some (.ref pf), some (.ref q), u5, u6, u7]) ∧ Same H2 H' ∧ H' q = some (.dK (tblI (fl.take j) (gW fl ws))) ∧ ∀ (i : Nat) (a w : Str), i < j → fl[i]? = some a → ws[i]? = some w → IsPart a w)
          ⟨⟨_, _, _, rfl⟩, same_new nq, upd_same, fun i a w h => absurd h (Nat.not_lt_zero _)⟩ (fun j σ' H' _ z => ⟨SqL.of (z.2.1 _ _ at2), SqL.of (z.2.1 _ _ at2w)⟩) ?_ ?_
        · intro j T' σ' Ha Hb hj ⟨⟨u5, u6, u7, e⟩, sa, hqa, okj⟩ ⟨T, y, v, eT, nT', eH, ey, ez⟩
          subst e
          subst eT
          subst eH
          obtain ⟨a, ha, rfl⟩ := map_of (show (fl.map V.str)[j]? = some y from ey)
          obtain ⟨w1, hw, rfl⟩ := map_of (show (ws.map V.str)[j]? = some v from ez)
          have ma : a ∈ ts.map Prod.fst := by rw [← efl]; exact List.mem_of_getElem? ha
          have la := (o.nm a ma).len
          have lw : w1.length + 1 ≤ z.length + 1 := by
            have := wgt_mem (List.mem_of_getElem? hw)
            rw [ews, split_wgt rfl] at this
            exact this
          have sT := same_new (o := .tup [.str a, .str w1]) nT'
          refine ⟨T, _, rfl, .inl (.inl upd_same), rfl, ?_⟩
          refine ⟨_, _, rfl, _, _, rfl, rfl, ?_⟩
          have bad : ¬ IsPart a w1 → ∀ H', Same H H' → Out H' E (.e1 CT "line" (.int 0)) := fun np H' s' => (kB fun g => np (g.2 j a w1 ha hw)).mono s'
          have s0T := (s02.trans sa).trans sT
          refine ⟨_, rfl, _, rfl, a, rfl, by omega, _, _, rfl, rfl, _, rfl, w1, rfl, by omega, tailP a w1, rfl, ?_, fun n hn en H' s' => ?_, fun nn H' s' => ?_⟩
          · have := cut_any_len w1 (some ((a.length : Int) + 1)) none
            show (tailP a w1).length ≤ _
            unfold tailP
            omega
          · refine ⟨_, rfl, ⟨_, rfl⟩, _, rfl, _, _, rfl, rfl, by show a.length + 1 ≤ sizeLine; omega, _, _, rfl, rfl, _, rfl, ?_⟩
            rw [starts_head]
            by_cases hh : headP a w1 = a ++ "="
            · obtain ⟨ip, en2⟩ := part_num hh hn en
              rw [decide_eq_true hh]
              refine iteF ?_
              refine ⟨_, rfl, rfl, _, rfl, ?_⟩
              rw [decide_eq_false (show ¬ V.int (n : Int) = V.non from fun e => nomatch e)]
              refine iteF ?_
              have fresh : a ∉ fl.take j := fun hm => by
                obtain ⟨i, hi⟩ := List.mem_iff_getElem?.mp hm
                have il := (List.getElem?_eq_some_iff.mp hi).1
                rw [List.length_take] at il
                rw [List.getElem?_take, if_pos (by omega)] at hi
                have := (List.getElem?_inj (by omega) ndk).mp (hi.trans ha.symm)
                omega
              have hq' := s' _ _ (sT _ _ hqa)
              refine ⟨_, rfl, _, rfl, _, rfl, q, _, rfl, DPut.k (k := Sum.inr a) hq' (by rw [tblI_len, List.length_take]; omega), ⟨_, _, _, rfl⟩, fun b o e => ?_, ?_, fun i b w2 hi hb hw2 => ?_⟩
              · rw [upd_ne (ne_of_none e nq)]
                exact s' _ _ (sT _ _ (sa b o e))
              · rw [upd_same, tblI_snoc fresh (show (n : Int) = gW fl ws a by rw [gW_at ndk ha hw, en2]), take_more ha]
              · rcases Nat.lt_succ_iff_lt_or_eq.mp hi with lt | rfl
                · exact okj i b w2 lt hb hw2
                · rw [ha] at hb
                  rw [hw] at hw2
                  cases hb
                  cases hw2
                  exact ip
            · rw [decide_eq_false hh]
              show if true = true then _ else _
              rw [if_pos rfl]
              exact out1 (bad (fun ip => hh ((part_iff a w1).mp ip).1) H' (s0T.trans s')) Same.refl
          · refine ⟨_, rfl, ⟨_, rfl⟩, _, rfl, _, _, rfl, rfl, by show a.length + 1 ≤ sizeLine; omega, _, _, rfl, rfl, _, rfl, ?_⟩
            have np : ¬ IsPart a w1 := fun ip => nn ((part_iff a w1).mp ip).2
            rw [starts_head]
            by_cases hh : headP a w1 = a ++ "="
            · rw [decide_eq_true hh]
              refine iteF ?_
              refine ⟨_, rfl, rfl, _, rfl, ?_⟩
              rw [decide_eq_true rfl]
              show if true = true then _ else _
              rw [if_pos rfl]
              exact out1 (bad np H' (s0T.trans s')) Same.refl
            · rw [decide_eq_false hh]
              show if true = true then _ else _
              rw [if_pos rfl]
              exact out1 (bad np H' (s0T.trans s')) Same.refl
        · intro σ' H' ⟨⟨u5, u6, u7, e⟩, sa, hqa, okj⟩
          subst e
          rw [List.take_length] at hqa
          refine ⟨_, rfl, kG ⟨el, fun i a w ha hw => okj i a w (List.getElem?_eq_some_iff.mp ha).1 ha hw⟩ q H' (s02.trans sa) (s02.free nq) hqa⟩
      · rw [decide_eq_false (show ¬ V.int _ = V.int _ from fun e => el (by have := V.int.inj e; rw [List.length_map, List.length_map] at this; omega))]
        show if true = true then _ else _
        rw [if_pos rfl]
        exact out1 ((kB fun g => el g.1).mono s02) Same.refl
    · refine ⟨_, rfl, v, _, _, _, _, rfl, .ty _, dv.ty, dv.str_, _, rfl, ?_⟩
      rw [decide_eq_false nv]
      refine iteF ⟨by show 0 ≤ sizeLine; omega, fun pw nw => ?_⟩
      have s1 := same_new (o := .lst []) nw
      refine ⟨_, rfl, x, dx, _, rfl, s1 _ _ hx, x, ts, rfl, FAt.mono s1 fa, fun pf nf => ?_⟩
      have s2 := same_new (o := .lst ((ts.map Prod.fst).map V.str)) nf
      refine ⟨_, rfl, pw, _, rfl, .inl (SqL.of (s2 _ _ upd_same)), _, rfl, pf, _, rfl, .inl (SqL.of upd_same), rfl, _, rfl, ?_⟩
      rw [decide_eq_false (show ¬ V.int _ = V.int _ from fun e => by
        have := V.int.inj e
        rw [List.length_map, List.length_map] at this
        simp at this
        omega)]
      show if true = true then _ else _
      rw [if_pos rfl]
      exact out1 (kB.mono (s1.trans s2)) Same.refl
end
end FT


/-! methods and properties, as a whole -/
namespace FT
open PySem L2 TL ClX
/-- a method of a class, as a whole -/
structure Mt (P : Program) (w : World) (K : PySem.W.Frag) (mg : Str → Option Value) (base : Heap) (CX : CXT) (k : Nat) (C : Addr) (m : Str) (ps : List Str) (sp : Sp) (f : Addr) (fd : FuncData) : Prop where
  mt : Meth K C m f
  fn : FnOk P w K mg base CX k f fd ps sp
  bn : Binds K fd ps []
/-- a property, at any level -/
structure PrN (P : Program) (w : World) (K : PySem.W.Frag) (mg : Str → Option Value) (base : Heap) (k : Nat) (C : Addr) (x : Str) (sp : Sp) (p g : Addr) (fd : FuncData) : Prop where
  pr : PropOf K C x p g
  fn : FnOk P w K mg base CX0 k g fd ["self"] sp
  bn : Binds K fd ["self"] []
end FT


/-! Assignment: made of valid places; its places -/
namespace FT
open PySem L2 TL ClX
/-- the class Assignment -/
structure Ac (K : PySem.W.Frag) (mg : Str → Option Value) (CA : Addr) (mc : Value) : Prop where
  gA : mg "Assignment" = some (.ref CA)
  rd : CRead K CA mc
  most : ∃ u, CVal K CA mc "MOST" (.int 60) u
  cl : Cls K CA
  nF : NoAttr K CA "own_forest"
  nP : NoAttr K CA "own_places"
/-- an assignment at y: its forest, its places -/
def AAt (CA : Addr) (H : Hp) (y x : Addr) (zs : List Str) : Prop := ∃ dy p, H y = some (.ins CA dy [("own_forest", .ref x), ("own_places", .ref p)]) ∧ H p = some (.lst (zs.map V.str))
theorem AAt.mono {CA y x : Addr} {H H' : Hp} {zs : List Str} (s : Same H H') (h : AAt CA H y x zs) : AAt CA H' y x zs := let ⟨dy, p, e1, e2⟩ := h; ⟨dy, p, s _ _ e1, s _ _ e2⟩
theorem put2a {u v : V} : putF "own_places" v [(("own_forest" : Str), u)] = [(("own_forest" : Str), u), (("own_places" : Str), v)] := by
  unfold putF
  rw [if_neg (by decide +kernel)] <;> rfl
def spAInit (CF CA : Addr) : Sp := fun vs H Q _ => ∃ (y x l dy : Addr) (ts : List (Str × Str)) (zs : List Str), vs = [.ref y, .ref x, .ref l] ∧ H y = some (.ins CA dy []) ∧ FAt CF H x ts ∧ TreeOk ts ∧ H l = some (.lst (zs.map V.str)) ∧ 1 ≤ zs.length ∧ zs.length ≤ 60 ∧ (∀ z ∈ zs, Pl ts z) ∧
  ∀ H', AAt CA H' y x zs → (∀ b o, b ≠ y → H b = some o → H' b = some o) → Q .non H'
def spAPlaces (CA : Addr) : Sp := fun vs H Q _ => ∃ (y x : Addr) (zs : List Str), vs = [.ref y] ∧ AAt CA H y x zs ∧ ∀ p, H p = none → Q (.ref p) (upd H p (.lst (zs.map V.str)))
section
variable {P : Program} {w : World} {K : PySem.W.Frag} {mg : Str → Option Value} {base : Heap}
theorem scAInit : FnScope ["self", "forest", "places", "user", "place"] ["self", "forest", "places"] (defScope s_Assignment___init__) := ⟨rfl, rfl, rfl, by decide +kernel, rfl, by decide +kernel, by decide +kernel⟩
theorem ok_ainit {f CF CA : Addr} {mc mcA : Value} {fd : FuncData} (F : Fun K "__init__" "Assignment.__init__" s_Assignment___init__ f fd) (T : Nm mg) (O : FoC K CF) (Z : Fc K mg CF mc) (B : Ac K mg CA mcA) : FnOk P w K mg base CX0 1 f fd ["self", "forest", "places"] (spAInit CF CA) := by
  obtain ⟨um, cm⟩ := B.most
  obtain ⟨ur, cr⟩ := Z.root
  refine F.ok scAInit (fun vs H Q E h => ?_) (fun cdv A outer s H vs Q E hr h => ?_)
  · obtain ⟨y, x, l, dy, ts, zs, rfl, _⟩ := h
    rfl
  · obtain ⟨y, x, l, dy, ts, zs, rfl, hy, fa, o, hl, one, few, mem, k⟩ := h
    have hu := hu_of hr
    refine ⟨_, pss_cons (ps_if (PW.pt (pw_or (pt_not (pt_val (pe_callB call_isiT (by rfl) T.isi (by decide +kernel) (pa_cons (pv 2) (pa_cons (pe_tup (pa_cons (pe_bltn (v := .ty "list") (u := .type "list") (by rfl) T.lst (by decide +kernel) rfl) (pa_cons (pe_bltn (v := .ty "tuple") (u := .type "tuple") (by rfl) T.tup (by decide +kernel) rfl) pa_nil))) pa_nil)))))
        (pw_or1 (pt_not (pt_chain op_le op_le pe_int (pe_callB call_len_seq (by rfl) T.len PySem.boot_len (pa_cons (pv 2) pa_nil)) (pe_cval (pe_glob (v := .ref CA) (by rfl) B.gA rfl))))))) pss_never pss_nil)
      (pss_cons (ps_for PassesOwn.never rfl (pi_enum rfl T.enu (pa_cons (pv 2) pa_nil)) (pg_tup rfl (pgs_cons (pg_name (i := 3) scAInit.nd rfl (.inl rfl)) (pgs_cons (pg_name (i := 4) scAInit.nd rfl (.inl rfl)) pgs_nil)))
        (pss_one (ps_if (PW.pt (pw_or (pt_not (pt_val (pe_callB call_isi (by rfl) T.isi (by decide +kernel) (pa_cons (pv 4) (pa_cons (pe_bltn (v := .ty "str") (u := .type "str") (by rfl) T.str (by decide +kernel) rfl) pa_nil)))))
          (pw_or1 (PW.pt (pw_and (pt_cmpR op_ne (pv 4) (pe_cval (pe_glob (v := .ref CF) (by rfl) Z.gF rfl)) (nomark _)) (pw_and1 (pt_cmp (pc_dnotin hu (pv 4) (pe_fld (pv 1) rfl))))))))) pss_never pss_nil)))
      (pss_cons (ps_fld (pv 0) (pv 1) rfl)
      (pss_one (ps_fld (pv 0) (pe_callTy call_list_of (by rfl) T.lst (by decide +kernel) (pa_cons (pv 2) pa_nil)) rfl)))), ?_⟩
    have big : 1000 ≤ sizeLine := by decide
    obtain ⟨dx, dq, hx, hd⟩ := fa
    refine ⟨_, rfl, by show 2 ≤ sizeLine; omega, fun tp ntp => ?_⟩
    have s1 := same_new (o := .tup [.ty "list", .ty "tuple"]) ntp
    refine ⟨.ref l, tp, [.ty "list", .ty "tuple"], _, [.type "list", .type "tuple"], true, rfl, upd_same, .cons (.ty _) (.cons (.ty _) .nil), .base (.lst (s1 _ _ hl)), kitAny_cons (b := true) (kit_ty (by decide +kernel)) (fun z => nomatch z) (fun _ => rfl), true, rfl, ?_⟩
    refine iteF ?_
    obtain ⟨H1, e1⟩ : ∃ X, X = upd H tp (.tup [.ty "list", .ty "tuple"]) := ⟨_, rfl⟩
    rw [← e1] at s1 ⊢
    have hl1 := s1 _ _ hl
    refine ⟨_, rfl, l, _, rfl, .inl (SqL.of hl1), _, _, rfl, rfl, _, rfl, ?_⟩
    have ll : (zs.map V.str).length = zs.length := List.length_map ..
    rw [if_pos (decide_eq_true (by omega))]
    refine ⟨CA, mcA, _, um, rfl, B.rd, cm, _, _, rfl, rfl, _, rfl, ?_⟩
    rw [decide_eq_true (show ((zs.map V.str).length : Int) ≤ 60 by omega)]
    refine iteF ?_
    refine ⟨_, rfl, l, _, rfl, SqL.of hl1, ?_⟩
    refine for_it walk_enum (fun j σ' H' => (∃ u3 u4, σ' = [some (.ref y), some (.ref x), some (.ref l), u3, u4]) ∧ Same H1 H') ⟨⟨_, _, rfl⟩, fun _ _ e => e⟩ (fun j σ' H' _ z => SqL.of (z.2 _ _ hl1)) ?_ ?_
    · intro j T' σ' Ha Hb hj ⟨⟨u3, u4, e⟩, sa⟩ ⟨Tp, i, z, eT, nT, eH, ey, ez⟩
      subst e
      subst eT
      subst eH
      cases ey
      obtain ⟨a, ha, rfl⟩ := map_of (show (zs.map V.str)[j]? = some z from ez)
      have ma := mem a (List.mem_of_getElem? ha)
      have sT := same_new (o := .tup [.int (j : Int), .str a]) nT
      have hx2 := sT _ _ (sa _ _ (s1 _ _ hx))
      have hd2 := sT _ _ (sa _ _ (s1 _ _ hd))
      refine ⟨Tp, _, rfl, .inl (.inl upd_same), rfl, ?_⟩
      refine ⟨_, _, rfl, _, _, rfl, rfl, ?_⟩
      refine ⟨_, rfl, .str a, _, _, _, true, rfl, .ty _, .base (.str a), kit_ty (by decide +kernel), true, rfl, ?_⟩
      refine iteF ?_
      refine ⟨_, rfl, CF, mc, _, ur, rfl, Z.rd, cr, rfl, _, rfl, ?_⟩
      by_cases e0 : a = ""
      · rw [decide_eq_true (show V.str a = V.str "" by rw [e0])]
        refine iteF ?_
        exact iteF ⟨⟨_, _, rfl⟩, sa.trans sT⟩
      · rw [decide_eq_false (show ¬ V.str a = V.str "" from fun z => e0 (V.str.inj z))]
        show if true = true then _ else _
        rw [if_pos rfl]
        obtain ⟨pa, hp⟩ := par_some o.nd (ma.resolve_left e0)
        refine ⟨_, rfl, _, rfl, x, CF, dx, _, .ref dq, rfl, hx2, O.cl, O.nA, rfl, dq, _, rfl, dget_prs (.inl hd2) hp, _, rfl, ?_⟩
        exact iteF ⟨⟨_, _, rfl⟩, sa.trans sT⟩
    · intro σ' H2 ⟨⟨u3, u4, e⟩, sa⟩
      subst e
      have s2 : Same H H2 := s1.trans sa
      have hy2 := s2 _ _ hy
      have hl2 := s2 _ _ hl
      have yl : l ≠ y := ne_of hl2 hy2 (by intro z; cases z)
      refine ⟨_, rfl, _, rfl, y, CA, dy, [], rfl, hy2, B.cl, B.nF, by show 0 < 1000; decide, ?_⟩
      refine ⟨_, rfl, l, _, rfl, .inl (SqL.of (by rw [upd_ne yl]; exact hl2)), fun p np => ?_⟩
      have yp : y ≠ p := ne_of_none upd_same np
      refine ⟨_, rfl, y, CA, dy, [("own_forest", .ref x)], rfl, by rw [upd_ne yp, upd_same] <;> rfl, B.cl, B.nP, by show 1 < 1000; decide, ?_⟩
      rw [put2a]
      refine k _ ⟨dy, p, upd_same, by rw [upd_ne yp.symm, upd_same]⟩ fun b o by_ e => ?_
      have np2 : H2 p = none := by
        rw [upd_ne yp.symm] at np
        exact np
      rw [upd_ne by_, upd_ne (ne_of_none (s2 _ _ e) np2), upd_ne by_]
      exact s2 _ _ e
theorem scAPlaces : FnScope ["self"] ["self"] (defScope s_Assignment_places) := ⟨rfl, rfl, rfl, by decide +kernel, rfl, by decide +kernel, by decide +kernel⟩
theorem ok_aplaces {f CA : Addr} {mcA : Value} {fd : FuncData} (F : Fun K "places" "Assignment.places" s_Assignment_places f fd) (T : Nm mg) (B : Ac K mg CA mcA) : FnOk P w K mg base CX0 1 f fd ["self"] (spAPlaces CA) := by
  refine F.ok scAPlaces (fun vs H Q E h => ?_) (fun cdv A outer s H vs Q E hr h => ?_)
  · obtain ⟨y, x, zs, rfl, _⟩ := h
    rfl
  · obtain ⟨y, x, zs, rfl, ⟨dy, p, hy, hp⟩, k⟩ := h
    refine ⟨_, pss_one (ps_ret (pe_callTy call_list_of (by rfl) T.lst (by decide +kernel) (pa_cons (pe_fld (pv 0) rfl) pa_nil))), ?_⟩
    exact ⟨_, rfl, y, CA, dy, _, .ref p, rfl, hy, B.cl, B.nP, rfl, p, _, rfl, .inl (SqL.of hp), fun q nq => k q nq⟩
end
end FT


/-! Own: a star ahead of one target, `*a, b = a list`. -/
namespace L2
open PySem PySem.Spec PyProof.Rows PySem.Calls
section
variable {P : Program} {w : World} {A : Around} {Er : Value → Shared → Prop} {s : Shared}
/-- the items of a list at l, all but the last one in a new list -/
theorem unpack_but_last {l : Addr} {vs : List Value} {z : Value} {Q : List Value → Shared → Prop} (at_ : s.heap.IsList l (vs ++ [z]).toArray) (calm : A.handled = none) (few : vs.length + 1 ≤ 16384)
    (k : ∀ (h' : Heap) (tk : Nat), (∀ b o, s.heap.get? b = some o → h'.get? b = some o) →
      Q [.ref h'.objs.size, z] { s with heap := h'.push { cls := .type "list", data := .seq vs.toArray }, toks := tk }) : wpAny (model P w) A (unpackItems (.ref l) 2 (some 0)) Q Er s := by
  have old : l < s.heap.objs.size := at_.elim fun o q => Heap.lt_size q.1
  have sz : (vs ++ [z]).toArray.size = vs.length + 1 := by simp
  unfold unpackItems notIterableAtAll
  refine wpAny_bind (wpAny_bind (wpAny_specialOf at_.typeIs slot_list_iter.lookup (wpAny_pure ?_)))
  rw [if_neg (by simp)]
  refine wpAny_bind (wpAny_holding (wpAny_pyIter_list at_ ?_))
  refine wpAny_bind (wpAny_holding (show wpAny _ _ (pure []) _ _ _ from wpAny_pure ?_))
  rw [if_neg (by simp)]
  have itNew : (s.heap.push { cls := .type "list_iterator", data := .fields #[.ref l, .int 0 0] }).IsListIter s.heap.objs.size l 0 := ⟨_, Heap.get?_push_size _ rfl, rfl, rfl⟩
  have at2 := at_.push { cls := .type "list_iterator", data := .fields #[.ref l, .int 0 0] }
  refine wpAny_bind (wpAny_holding (PySem.W.kun_collect (T := "list_iterator") (k := 0) (.inr (.inr (.inl rfl))) (Walks.list (A := A.in1) calm s.heap.objs.size l (Nat.ne_of_lt old) (vs ++ [z]).toArray) (fun j u st => st.1.typeIs) (by omega) ⟨itNew, at2⟩
    (Heap.lt_size (Heap.get?_push_size _ rfl)) (Heap.lt_size at2.choose_spec.1) (fun h2 tk keep => ?_) (by rw [sz, sizeLine_eq]; omega)))
  rw [List.drop_zero]
  have len : ((vs ++ [z]).toArray.toList).length = vs.length + 1 := by simp
  show wpAny _ _ (if ((vs ++ [z]).toArray.toList).length < 1 then _ else _) _ _ _
  rw [if_neg (by omega)]
  show wpAny _ _ (newList (((vs ++ [z]).toArray.toList).take (((vs ++ [z]).toArray.toList).length - 1)) >>= fun d => pure ([] ++ [d] ++ ((vs ++ [z]).toArray.toList).drop (((vs ++ [z]).toArray.toList).length - 1))) _ _ _
  have e1 : ((vs ++ [z]).toArray.toList).take (((vs ++ [z]).toArray.toList).length - 1) = vs := by simp
  have e2 : ((vs ++ [z]).toArray.toList).drop (((vs ++ [z]).toArray.toList).length - 1) = [z] := by simp
  rw [e1, e2]
  refine wpAny_bind (wpAny_newList (wpAny_pure ?_))
  exact k h2 tk fun b o q => keep b o (Nat.ne_of_lt (Heap.lt_size q)) (Heap.get?_push_of_some _ q)
end
/-- *a, b = a list: all but the last in a new list, then the last -/
def gStar1 (K : PySem.W.Frag) (t : TGs) : TG := fun v σ H Q => ∃ (a : Addr) (ys : List V) (z : V), v = .ref a ∧ SqL K H a (ys ++ [z]) ∧ ys.length + 1 ≤ 16384 ∧ ∀ D, H D = none → t [.ref D, z] σ (upd H D (.lst ys)) Q
section
variable {X : Cx} {t1 t2 : Expr} {p : Pos} {n : Nat} {pos : Pos} {t : TGs}
theorem pg_star1 (hc : X.calm = true) (h : PGs X [t1, t2] t) (one : assignEach [.Starred t1 p, t2] X.env = [(true, assign t1 X.env), (false, assign t2 X.env)] := by rfl) (two : (assignEach [t1, t2] X.env).map (·.2) = [assign t1 X.env, assign t2 X.env] := by rfl) :
    PG X (.Tuple [.Starred t1 p, t2] n pos) (gStar1 X.K t) := by
  refine ⟨fun pins s σ H v u Q I r want => ?_⟩
  obtain ⟨a, ys, z, e, sq, few, want⟩ := want
  subst e
  cases r
  obtain ⟨its, rv, plain, hz⟩ := I.list sq
  obtain ⟨us, w, ei, r1, r2⟩ : ∃ us w, its = us ++ [w] ∧ Vals ys us ∧ RelV z w := by
    have gen : ∀ (ys : List V) (its : List Value), Vals (ys ++ [z]) its → ∃ us w, its = us ++ [w] ∧ Vals ys us ∧ RelV z w := by
      intro ys
      induction ys with
      | nil =>
        intro its q
        cases q with
        | cons q1 q2 =>
          cases q2
          exact ⟨[], _, rfl, .nil, q1⟩
      | cons y ys ih =>
        intro its q
        cases q with
        | cons q1 q2 =>
          obtain ⟨us, w, e, r1, r2⟩ := ih _ q2
          exact ⟨_ :: us, w, by rw [e] <;> rfl, .cons q1 r1, r2⟩
    exact gen ys its rv
  subst ei
  have len := r1.length
  rw [assign_Tuple]
  refine wpAny_bind (wpAny_standAt ?_)
  unfold unpack
  rw [one]
  show wpAny _ _ (holding [.ref a] (unpackItems (.ref a) 2 (some 0)) >>= fun its => assignInOrder [assign t1 X.env, assign t2 X.env] its) _ _ _
  refine wpAny_bind (wpAny_holding (unpack_but_last plain.isList (I.ok.hd hc) (by omega) fun h' tk kp => ?_))
  have I1 : Inv X pins σ H { s with heap := h' } := I.kept (t' := s.toks) kp
  have small : ys.length ≤ sizeLine := by
    rw [sizeLine_eq]
    omega
  have I2 : Inv X pins σ (upd H h'.objs.size (.lst ys)) { s with heap := h'.push { cls := .type "list", data := .seq us.toArray }, toks := tk } :=
    I1.laid (t' := tk) (fun b o q => Heap.get?_push_of_some _ q) (Nat.le_refl _) ⟨small, us, _, r1, Heap.get?_push_size _ rfl⟩
  rw [← two]
  exact h.run pins _ σ _ [.ref h'.objs.size, z] [.ref h'.objs.size, w] Q I2 (.cons rfl (.cons r2 .nil)) (want _ (I1.hok.fresh (Nat.le_refl _)))
end
end L2


/-! parse_assignment of any value -/
namespace FT
open PySem L2 TL ClX
def spParA (K : PySem.W.Frag) (CF CA CT : Addr) : Sp := fun vs H Q E => ∃ (x : Addr) (ts : List (Str × Str)) (v : V), vs = [.ref x, v] ∧ FAt CF H x ts ∧ TreeOk ts ∧
  ((∃ z : Str, v = .str z ∧ z.length ≤ 10000 ∧ (∀ i, plOf (ts.map Prod.fst) (Txt.split z "\n") = .inl i → Out H E (.e1 CT "line" (.int (i : Nat)))) ∧ (∀ zs, plOf (ts.map Prod.fst) (Txt.split z "\n") = .inr zs → ∀ y H', Same H H' → H y = none → AAt CA H' y x zs → Q (.ref y) H')) ∨
    (NoStr K H v ∧ Out H E (.e1 CT "line" (.int 0))))
abbrev NPa : List Str := ["forest", "text", "lines", "rest", "flags", "number", "line"]
theorem plc_pl {ts : List (Str × Str)} {r : Str} (h : badL (ts.map Prod.fst) r = false) : Pl ts (plc r) := by
  unfold plc
  by_cases e : r = "-"
  · rw [if_pos e]
    exact .inl rfl
  · rw [if_neg e]
    rw [badL_no e] at h
    exact .inr (Decidable.not_not.mp (of_decide_eq_false h))
section
variable {P : Program} {w : World} {K : PySem.W.Frag} {mg : Str → Option Value} {base : Heap}
theorem scPa : FnScope NPa ["forest", "text"] (defScope s_parse_assignment) := ⟨rfl, rfl, rfl, by decide +kernel, rfl, by decide +kernel, by decide +kernel⟩
theorem ok_parA {f fI CF CA CT IT pF gF : Addr} {mc mcA : Value} {fd fdI dF dT : FuncData} {tn : Tok} (F : Fun K "parse_assignment" "parse_assignment" s_parse_assignment f fd) (T : Nm mg) (gn : mg "NO_FLAG" = some (.str "-" tn)) (O : FoC K CF) (Z : Fc K mg CF mc) (B : Ac K mg CA mcA) (L : Pr1 P w K mg base CF "flags" (spFFlags CF) pF gF dF)
    (M : Mk K CA fI) (GI : FnOk P w K mg base CX0 1 fI fdI ["self", "forest", "places"] (spAInit CF CA)) (bI : Binds K fdI ["self", "forest", "places"] []) (ET : Er1 P w K mg base "InvalidText" "line" CT IT dT) : FnOk P w K mg base (L2.CX P w) 3 f fd ["forest", "text"] (spParA K CF CA CT) := by
  obtain ⟨ur, cr⟩ := Z.root
  obtain ⟨um, cm⟩ := B.most
  refine F.okX scPa (fun vs H Q E h => ?_) (fun cdv A outer s H vs Q E hr h => ?_)
  · obtain ⟨x, ts, v, rfl, _⟩ := h
    rfl
  · obtain ⟨x, ts, v, rfl, fa, o, h⟩ := h
    have hr2 : Room (1 + 1) _ := hr.mono (by decide)
    have nd := scPa.nd
    have big : 20000 ≤ sizeLine := by decide
    refine ⟨_, pss_cons (ps_if (pt_not (pt_val (pe_callB call_isi (by rfl) T.isi (by decide +kernel) (pa_cons (pv 1) (pa_cons (pe_bltn (v := .ty "str") (u := .type "str") (by rfl) T.str (by decide +kernel) rfl) pa_nil))))) (pss_one (ps_err1 ET rfl (takes_of rfl rfl rfl rfl) hr2 rfl pe_int)) pss_nil)
      (pss_cons (ps_asg (pe_split (pv 1) pe_str) (pg_star1 rfl (pgs_cons (pg_name (i := 2) nd rfl (.inl rfl)) (pgs_cons (pg_name (i := 3) nd rfl (.inl rfl)) pgs_nil))))
      (pss_cons (ps_set (i := 4) nd rfl (.inl rfl) (pe_prop (pv 0) O.cl L.pr L.fn hr2 L.bn .nil pass0 (by rfl)))
      (pss_cons (ps_for (passes_of rfl) rfl (pi_enum rfl T.enu (pa_cons (pv 2) pa_nil)) (pg_tup rfl (pgs_cons (pg_name (i := 5) nd rfl (.inl rfl)) (pgs_cons (pg_name (i := 6) nd rfl (.inl rfl)) pgs_nil)))
        (pss_one (ps_if (PW.pt (pw_and (pt_cmpR op_ne (pv 6) (pe_glob (v := .str "-") (by rfl) gn ⟨_, rfl⟩) (nomark _)) (pw_and1 (pt_cmpR op_notIn_seq (pv 6) (pv 4) rfl)))) (pss_one (ps_err1 ET rfl (takes_of rfl rfl rfl rfl) hr2 rfl (pv 5))) pss_nil)))
      (pss_cons (ps_if (PW.pt (pw_or (pt_not (pt_chain op_le op_le pe_int (pe_callB call_len_seq (by rfl) T.len PySem.boot_len (pa_cons (pv 2) pa_nil)) (pe_cval (pe_glob (v := .ref CA) (by rfl) B.gA rfl)))) (pw_or1 (pt_cmpR op_ne (pv 3) pe_str (nomark _))))) (pss_one (ps_err1 ET rfl (takes_of rfl rfl rfl rfl) hr2 rfl (pe_callB call_len_seq (by rfl) T.len PySem.boot_len (pa_cons (pv 2) pa_nil)))) pss_nil)
      (pss_one (ps_ret (pe_make M GI hr2 (by rfl) B.gA bI .nil pass0 (pa_cons (pv 0) (pa_cons (pe_lc (own := [("line", 6)]) (g := gName 6) (tt := tYes) (te := tIf (tTest (tOp rEq (tVar 6) (tC (.str "-")))) (tCVal K (tC (.ref CF)) "ROOT") (tVar 6)) rfl nd (pi_list (pv 2))
        (blkOk_by (N := NPa) (sc := defScope s_parse_assignment) (by decide +kernel))
        (fun _ _ _ _ _ => pg_name (i := 6) nd rfl (Or.inl rfl)) (fun _ _ _ _ _ => pts_nil) (fun _ _ _ _ _ => pe_ifExp (pt_cmpR op_eq (pv 6) (pe_glob (v := .str "-") (by rfl) gn ⟨_, rfl⟩) (nomark _)) (pe_cval (pe_glob (v := .ref CF) (by rfl) Z.gF rfl)) (pv 6))) pa_nil))))))))), ?_⟩
    obtain ⟨dx, dq, hx, hd⟩ := id fa
    rcases h with ⟨z, rfl, lz, kB, kG⟩ | ⟨⟨Tv, dv, nv⟩, kB⟩
    · obtain ⟨fl, efl⟩ : ∃ fl, fl = ts.map Prod.fst := ⟨_, rfl⟩
      rw [← efl] at kG kB
      refine ⟨_, rfl, .str z, _, _, _, true, rfl, .ty _, .base (.str z), kit_ty (by decide +kernel), true, rfl, ?_⟩
      refine iteF ?_
      refine ⟨_, rfl, ⟨_, rfl⟩, _, _, rfl, rfl, by decide +kernel, by omega, fun p1 n1 => ?_⟩
      obtain ⟨ws, ews⟩ : ∃ ws, ws = Txt.split z "\n" := ⟨_, rfl⟩
      have wne : ws ≠ [] := by rw [ews]; exact split_ne _ _
      have lws : ws.length ≤ z.length + 1 := by rw [ews]; exact split_few rfl
      rw [← ews] at kG kB ⊢
      obtain ⟨rows, er⟩ : ∃ rows, rows = ws.dropLast := ⟨_, rfl⟩
      obtain ⟨last, el⟩ : ∃ last, last = ws.getLast wne := ⟨_, rfl⟩
      have split : ws = rows ++ [last] := by rw [er, el, List.dropLast_concat_getLast]
      have gl : ws.getLast? = some last := by rw [List.getLast?_eq_some_getLast wne, el]
      have lr : rows.length + 1 = ws.length := by rw [split, List.length_append] <;> rfl
      refine ⟨p1, rows.map V.str, .str last, rfl, SqL.of (by rw [upd_same, split, List.map_append] <;> rfl), by rw [List.length_map]; omega, fun D nD => ?_⟩
      refine ⟨_, _, rfl, _, _, rfl, rfl, ?_⟩
      obtain ⟨H1, e1⟩ : ∃ X, X = upd (upd H p1 (.lst (ws.map V.str))) D (.lst (rows.map V.str)) := ⟨_, rfl⟩
      have s1 : Same H H1 := e1 ▸ (same_new n1).trans (same_new nD)
      have at1 : H1 D = some (.lst (rows.map V.str)) := by rw [e1]; exact upd_same
      rw [← e1]
      refine ⟨_, rfl, x, dx, _, rfl, s1 _ _ hx, x, ts, rfl, FAt.mono s1 fa, fun pf nf => ?_⟩
      rw [← efl]
      obtain ⟨H2, e2⟩ : ∃ X, X = upd H1 pf (.lst (fl.map V.str)) := ⟨_, rfl⟩
      have s2 : Same H1 H2 := e2 ▸ same_new nf
      have at2 : H2 pf = some (.lst (fl.map V.str)) := by rw [e2]; exact upd_same
      have at2D := s2 _ _ at1
      rw [← e2]
      have s02 := s1.trans s2
      refine ⟨_, rfl, D, _, rfl, SqL.of at2D, ?_⟩
      refine for_it walk_enum (fun j σ' H' => (∃ u5 u6, σ' = [some (.ref x), some (.str z), some (.ref D), some (.str last), some (.ref pf), u5, u6]) ∧ Same H2 H' ∧ ∀ (i : Nat) (r : Str), i < j → rows[i]? = some r → badL fl r = false) ⟨⟨_, _, rfl⟩, fun _ _ e => e, fun i r h => absurd h (Nat.not_lt_zero _)⟩ (fun j σ' H' _ z => SqL.of (z.2.1 _ _ at2D)) ?_ ?_
      · intro j T' σ' Ha Hb hj ⟨⟨u5, u6, e⟩, sa, okj⟩ ⟨Tp, i, v, eT, nT, eH, ey, ez⟩
        subst e
        subst eT
        subst eH
        cases ey
        obtain ⟨r, hrw, rfl⟩ := map_of (show (rows.map V.str)[j]? = some v from ez)
        have sT := same_new (o := .tup [.int (j : Int), .str r]) nT
        have next : badL fl r = false → ∀ (i : Nat) (q : Str), i < j + 1 → rows[i]? = some q → badL fl q = false := fun h i q hi hq => by
          rcases Nat.lt_succ_iff_lt_or_eq.mp hi with lt | rfl
          · exact okj i q lt hq
          · rw [hrw] at hq
            cases hq
            exact h
        refine ⟨Tp, _, rfl, .inl (.inl upd_same), rfl, ?_⟩
        refine ⟨_, _, rfl, _, _, rfl, rfl, ?_⟩
        refine ⟨_, rfl, rfl, _, rfl, ?_⟩
        by_cases ed : r = "-"
        · rw [decide_eq_true (show V.str r = V.str "-" by rw [ed])]
          refine iteF ?_
          exact iteF ⟨⟨_, _, rfl⟩, sa.trans sT, next (by rw [ed]; exact badL_dash)⟩
        · rw [decide_eq_false (show ¬ V.str r = V.str "-" from fun e => ed (V.str.inj e))]
          show if true = true then _ else _
          rw [if_pos rfl]
          refine ⟨_, rfl, _, rfl, pf, _, rfl, .inl (SqL.of (sT _ _ (sa _ _ at2))), rfl, flat_strs _, _, rfl, ?_⟩
          rw [inV_strs]
          by_cases mr : r ∈ fl
          · rw [decide_eq_true mr]
            exact iteF ⟨⟨_, _, rfl⟩, sa.trans sT, next (by rw [badL_no ed, decide_eq_false (fun h => h mr)])⟩
          · rw [decide_eq_false mr]
            show if true = true then _ else _
            rw [if_pos rfl]
            refine ⟨_, rfl, ?_⟩
            have eB : plOf fl ws = .inl j := plOf_bad (by rw [← er]; exact hrw) (by rw [badL_no ed]; exact decide_eq_true mr) (fun i q hi hq => okj i q hi (by rw [er]; exact hq))
            exact out1 ((kB j eB).mono ((s02.trans sa).trans sT)) Same.refl
      · intro σ' H3 ⟨⟨u5, u6, e⟩, sa, okj⟩
        subst e
        rw [List.length_map] at okj
        have allok : ∀ q ∈ ws.dropLast, badL fl q = false := fun q hq => by
          rw [← er] at hq
          obtain ⟨i, hi⟩ := List.mem_iff_getElem?.mp hq
          exact okj i q (List.getElem?_eq_some_iff.mp hi).1 hi
        have eP := plOf_ok allok
        rw [gl, ← er] at eP
        have at3 := sa _ _ at2D
        have ll : (rows.map V.str).length = rows.length := List.length_map ..
        have s03 := s02.trans sa
        have bad : ¬ (some last = some ("" : Str) ∧ 1 ≤ rows.length ∧ rows.length ≤ 60) → ∀ {Hq : Hp}, Same H3 Hq → Out Hq E (.e1 CT "line" (.int (rows.length : Nat))) := fun nb Hq sq => by
          rw [if_neg nb] at eP
          exact (kB _ eP).mono (s03.trans sq)
        have raised : ¬ (some last = some ("" : Str) ∧ 1 ≤ rows.length ∧ rows.length ≤ 60) → tMkO CT (spInit1 CT "line") [] (tCons (tCB (fun xs H Q => ∃ (a : Addr) (ys : List V), xs = [.ref a] ∧ (SqL K H a ys ∨ SqT K H a ys) ∧ Q (.int (ys.length : Int)) H) (tCons (tVar 2) tNil)) tNil) [some (.ref x), some (.str z), some (.ref D), some (.str last), some (.ref pf), u5, u6] H3 fun cls d H' => E cls d H' := fun nb =>
          ⟨_, rfl, D, _, rfl, .inl (SqL.of at3), by rw [ll]; exact out1 (bad nb Same.refl) Same.refl⟩
        refine ⟨_, rfl, D, _, rfl, .inl (SqL.of at3), _, _, rfl, rfl, _, rfl, ?_⟩
        rw [ll]
        by_cases l1 : 1 ≤ rows.length
        · rw [if_pos (decide_eq_true (by omega))]
          refine ⟨CA, mcA, _, um, rfl, B.rd, cm, _, _, rfl, rfl, _, rfl, ?_⟩
          by_cases l60 : rows.length ≤ 60
          · rw [decide_eq_true (show ((rows.length : Nat) : Int) ≤ 60 by omega)]
            refine iteF ?_
            refine ⟨_, rfl, rfl, _, rfl, ?_⟩
            by_cases e0 : last = ""
            · rw [decide_eq_true (show V.str last = V.str "" by rw [e0])]
              refine iteF ?_
              rw [if_pos ⟨by rw [e0], l1, l60⟩] at eP
              have plz : ∀ y ∈ rows.map plc, Pl ts y := fun y hy => by
                obtain ⟨r, hr0, rfl⟩ := List.mem_map.mp hy
                refine plc_pl ?_
                rw [← efl]
                exact allok r (by rw [← er]; exact hr0)
              refine ⟨_, rfl, _, rfl, D, rfl, ⟨_, SqL.of at3⟩, fun D2 nD2 => ?_⟩
              refine lc_it walk_list (fun i H' => Same H3 H' ∧ H' D2 = some (.lst (((rows.take i).map plc).map V.str))) ⟨same_new nD2, by rw [upd_same] <;> rfl⟩ (fun i H' _ z => SqL.of (z.1 _ _ at3)) ?_ ?_
              · intro i v Ha Hb hi ⟨q1, q2⟩ ⟨eb, ex⟩
                subst eb
                obtain ⟨r, hrw, rfl⟩ := map_of ex
                have il := (List.getElem?_eq_some_iff.mp hrw).1
                have fin : ∃ acc, Hb D2 = some (.lst acc) ∧ acc.length < sizeLine ∧ Same H3 (upd Hb D2 (.lst (acc ++ [.str (plc r)]))) ∧ upd Hb D2 (.lst (acc ++ [.str (plc r)])) D2 = some (.lst (((rows.take (i + 1)).map plc).map V.str)) := by
                  refine ⟨_, q2, ?_, ?_, ?_⟩
                  · rw [List.length_map, List.length_map, List.length_take]
                    omega
                  · intro b u e
                    rw [upd_ne (ne_of_none e nD2)]
                    exact q1 b u e
                  · rw [upd_same, take_more hrw, List.map_append, List.map_append] <;> rfl
                refine ⟨rfl, ?_⟩
                refine ⟨_, rfl, rfl, _, rfl, ?_⟩
                by_cases ed : r = "-"
                · show if decide (V.str r = V.str "-") = true then _ else _
                  rw [decide_eq_true (show V.str r = V.str "-" by rw [ed]), if_pos rfl]
                  rw [show plc r = "" from if_pos ed] at fin
                  exact ⟨CF, mc, _, ur, rfl, Z.rd, cr, fin⟩
                · show if decide (V.str r = V.str "-") = true then _ else _
                  rw [decide_eq_false (fun e => ed (V.str.inj e))]
                  refine iteF ?_
                  rw [show plc r = r from if_neg ed] at fin
                  exact ⟨_, rfl, fin⟩
              · intro H4 ⟨q1, q2⟩
                rw [ll, List.take_length] at q2
                have s4 : Same H H4 := s03.trans q1
                intro y dy ny ndy yd
                have sN : Same H4 (upd (upd H4 dy (.own y)) y (.ins CA dy [])) := fun b u e => by
                  rw [upd_ne (ne_of_none e ny), upd_ne (ne_of_none e ndy)]
                  exact e
                refine ⟨y, x, D2, dy, ts, rows.map plc, rfl, upd_same, (fa.mono s4).mono sN, o, sN _ _ q2, by rw [List.length_map]; omega, by rw [List.length_map]; omega, plz, fun H5 aa oth => ⟨rfl, ?_⟩⟩
                exact kG _ eP y H5 (fun b u e => oth b u (ne_of_none (s4 _ _ e) ny) (sN _ _ (s4 _ _ e))) (s4.free ny) aa
            · rw [decide_eq_false (show ¬ V.str last = V.str "" from fun e => e0 (V.str.inj e))]
              show if true = true then _ else _
              rw [if_pos rfl]
              exact raised (fun h => e0 (Option.some.inj h.1))
          · rw [decide_eq_false (show ¬ ((rows.length : Nat) : Int) ≤ 60 by omega)]
            show if true = true then _ else _
            rw [if_pos rfl]
            exact raised (fun h => l60 h.2.2)
        · rw [if_neg (fun e => l1 (by have := of_decide_eq_true e; omega))]
          refine ⟨_, rfl, ?_⟩
          show if true = true then _ else _
          rw [if_pos rfl]
          exact raised (fun h => l1 h.2.1)
    · refine ⟨_, rfl, v, _, _, _, _, rfl, .ty _, dv.ty, dv.str_, _, rfl, ?_⟩
      rw [decide_eq_false nv]
      show if true = true then _ else _
      rw [if_pos rfl]
      exact out1 kB Same.refl
end
end FT


/-! isinstance of an exception of an own class, by a tuple of classes -/
namespace L2
open PySem PySem.Spec PyProof.Rows
section
variable {X : Cx}
def rIsXT (K : PySem.W.Frag) : List V → Hp → VK → Prop := fun xs H Q => ∃ (a C : Addr) (fs : List (Str × V)) (tp : Addr) (cs : List V) (ws : List Value) (b : Bool), xs = [.ref a, .ref tp] ∧ H tp = some (.tup cs) ∧ Paired ClsV cs ws ∧ XCls K C ∧ XV H a C fs ∧ PySem.W.kitAny K (.ref C) ws = some b ∧ Q (.bl b) H
theorem call_isXT : CallR X (.builtin "isinstance") (rIsXT X.K) := by
  intro pins s σ H xs us Q I r h
  obtain ⟨a, C, fs, tp, cs, ws, b, rfl, hT, k, T, xv, e, q⟩ := h
  obtain ⟨u1, u2, rfl, r1, r2⟩ := vals2 r
  cases (show u2 = Value.ref tp from r2)
  obtain rfl : u1 = Value.ref a := r1
  obtain ⟨ox, od, J⟩ := xv.inst I.hok
  have hcl : (PySem.W.clsIn X.K C).isSome = true := by
    obtain ⟨cd, hc, _⟩ := PySem.W.any_some T.hdC
    rw [hc] <;> rfl
  obtain ⟨_, its, rv, o, h1, h2, n, h3⟩ := (show ObjOk X.prog X.w H s.heap tp (.tup cs) from I.hok tp _ hT)
  have e3 := ClsV.all k rv
  subst e3
  obtain ⟨oc, od2, dt, sl⟩ := o
  simp only at h2 h3
  subst h2 h3
  exact PySem.W.kia_tup (PySem.W.kitx_exc hcl T.ga T.gg T.exC T.ha T.hn T.ht T.hm) I.kIn J h1 e (fun z => nomatch z) fun tk => ⟨.bl b, H, I.tok tk, rfl, q⟩
end
end L2


/-! xs.count(y), flat items -/
namespace L2
open PySem PySem.Spec PyProof.Rows
theorem countP_eqU {x : V} : ∀ {xs : List V} {us : List Value}, Vals xs us → xs.all flatV = true → us.countP (eqU x) = xs.countP fun y => eqV y x
  | _, _, .nil, _ => rfl
  | y :: xs, u :: us, .cons r t, f => by
    rw [List.all_cons, Bool.and_eq_true] at f
    rw [List.countP_cons, List.countP_cons, countP_eqU t f.2, eqU_of r f.1]
def rCntF (K : PySem.W.Frag) : V → List V → Hp → VK → Prop := fun x xs H Q => ∃ (a : Addr) (ys : List V) (y : V), x = .ref a ∧ xs = [y] ∧ SqL K H a ys ∧ flatV y = true ∧ ys.all flatV = true ∧ Q (.int ((ys.countP fun z => eqV z y : Nat) : Int)) H
variable {X : Cx}
theorem mt_countF : MtR X "list.count" (rCntF X.K) := by
  intro pins s σ H x xs v us Q I rx rxs ⟨a, ys, y, ex, exs, hs, fy, fys, q⟩
  subst ex
  subst exs
  cases rx
  match us, rxs with
  | [uy], .cons ry .nil =>
    obtain ⟨its, rv, ⟨⟨cls, dd, data, sl⟩, n, ho, hc, hdn, hd⟩, hlen⟩ := I.list hs
    simp only at hc hd
    subst hc hd
    refine call_meets PySem.F.slot_list_count ⟨_, ho, rfl⟩ PySem.F.entry_list_count (PySem.F.args_list_count_2 _ _)
      (SeqAt.list_countAt a its.toArray n dd sl uy (eqU y)) ⟨ho, fun u hu => mem_eqAt ry fy rv fys u (by simpa using hu), ?_⟩
    refine ⟨.int ((ys.countP fun z => eqV z y : Nat) : Int), H, I.tok _, ⟨s.toks, ?_⟩, q⟩
    show Value.int ((its.toArray.toList.countP (eqU y) : Nat) : Int) s.toks = Value.int ((ys.countP fun z => eqV z y : Nat) : Int) s.toks
    rw [show its.toArray.toList = its from rfl, countP_eqU rv fys]
end L2


/-! Own: repr over the layer. repr asks what calls of repr are under way (A.guards), and the layer's contracts do not tell it: a contract FnG that tells it too, its rule for a def's body, its call, the end. -/
namespace L2
open PySem PySem.Spec PyProof.Rows
/-- no repr is under way -/
abbrev Clr (A : Around) : Prop := A.guards = some []
theorem Clr.deeper {A : Around} {env : Env} (h : Clr A) : Clr (A.deeper env) := by
  have h' : A.guards = some [] := h
  show (A.deeper env).guards = some []
  first
    | exact h'
    | (simp [Around.deeper, h', pushGuards, Code.guards, Code.isGuard])
structure FnG (P : Program) (w : World) (K : PySem.W.Frag) (mg : Str → Option Value) (base : Heap) (CX : CXT) (k : Nat) (f : Addr) (fd : FuncData) (ps : List Str) (sp : Sp) : Prop where
  len : ∀ vs H Q E, sp vs H Q E → vs.length = ps.length
  run : ∀ (A : Around) (outer : List Env) (s : Shared) (H : Hp) (args : Args) (us : List Value) (vs : List V) (Q : VK) (E : XK), Clr A → Room k A → Env0 P w K mg base A outer s H → BindsTo s fd args (ps.zip us) → Vals vs us → sp vs H Q E →
    codeAny (model P w) A (.call (.ref f) args) (CR CX outer P w H s Q E) s
theorem FnOk.g {P : Program} {w : World} {K : PySem.W.Frag} {mg : Str → Option Value} {base : Heap} {CX : CXT} {k : Nat} {f : Addr} {fd : FuncData} {ps : List Str} {sp : Sp} (F : FnOk P w K mg base CX k f fd ps sp) : FnG P w K mg base CX k f fd ps sp :=
  ⟨F.len, fun A outer s H args us vs Q E _ => F.run A outer s H args us vs Q E⟩
section
variable {P : Program} {w : World} {K : PySem.W.Frag} {mg : Str → Option Value} {base : Heap}
/-- a def by its body, where nothing is raised out of it -/
theorem Fun.okG {x qual : Str} {st : Stmt} {f : Addr} {fd : FuncData} {N ps : List Str} {k : Nat} {sp : Sp} (F : Fun K x qual st f fd) (S : FnScope N ps (defScope st)) (len : ∀ vs H Q E, sp vs H Q E → vs.length = ps.length)
    (body : ∀ (cdv : Value) (A : Around) (outer : List Env) (s : Shared) (H : Hp) (vs : List V) (Q : VK) (E : XK), Clr A → Room k (A.deeper (envOfC qual (defScope st) s.heap.objs.size f cdv)) → sp vs H Q E →
      ∃ t, PSs (cxOf CX0 P w K mg base N qual (defScope st) f cdv A outer s H E).nox (defBody st) t ∧ t { nx := fun _ H' => Q .non H', rt := Q } (start N vs) H) : FnG P w K mg base CX0 (k + 1) f fd ps sp := by
  obtain ⟨oc, od, kV, doc, pm, an, cdv, ct, osl, rfl, lk, code⟩ := F.ex
  refine ⟨len, fun A outer s H args us vs Q E clr room e0 binds rel want => ?_⟩
  have nps := len _ _ _ _ want
  have KX : K.In s.heap := e0.mod.kin.keeps fun b o e => (e0.bs b o e).1
  have lim : s.heap.NoLimit := e0.mod.nolimit.keeps fun b o e => (e0.bs b o e).1
  refine codeAny_call_function room.depth (KX _ _ lk) rfl S.co S.gen rfl (PySem.W.codeRec_of KX code) (binds _ _ _ _ (wpAny_newFunctionEnv_cells S.kind (fun y hy => ?_) fun env he s1 x => ?_))
  · obtain ⟨n, v⟩ := y
    exact (S.par n (List.of_mem_zip hy).1).elim .inl fun q => .inr ⟨q, PySem.W.cellsFrom_some _ _ _ (.inl q)⟩
  · subst he
    obtain ⟨t, term, q⟩ := body cdv A outer s H vs Q E clr (room.deeper _) want
    have I : Inv (cxOf CX0 P w K mg base N qual (defScope st) f cdv A outer s H E) [] (start N vs) H s1 := inv_start S room.hd e0 nps rel x
    refine ⟨lim.keeps x.toInCall.keep, codeAny_func (wpAny_mono (term.nox.run [] s1 (start N vs) H _ I q) (fun fl s' z => ?_) fun _ _ z => z)⟩
    match fl, z with
    | .ret u, ⟨v, _, H', J, rv, q⟩ => exact ⟨v, H', J.os, J.bare, J.base, J.hok, rv, q⟩
    | .next, ⟨_, H', J, q⟩ => exact ⟨.non, H', J.os, J.bare, J.base, J.hok, rfl, q⟩
    | .brk, ⟨_, _, _, q⟩ => exact q.elim
    | .cont, ⟨_, _, _, q⟩ => exact q.elim
end
section
variable {X : Cx} {CX : CXT} {k : Nat} {f : Addr} {fd : FuncData} {ps : List Str} {sp : Sp} {dvs : List V} {ds : List Value} {E : XK} {x : Str} {p pos : Pos} {e : Expr} {es : List Expr} {t : TA}
/-! ### repr -/
/-- what is shown: data without dicts, or the empty dict -/
def Shw (K : PySem.W.Frag) (H : Hp) (x : V) (d : PyData) : Prop := (Dp K H x d ∧ d.hasDict = false) ∨ ∃ a, x = .ref a ∧ H a = some (.dK []) ∧ d = .dict []
def rRepr (K : PySem.W.Frag) : List V → Hp → VK → Prop := fun xs H Q => ∃ (x : V) (d : PyData), xs = [x] ∧ Shw K H x d ∧ d.showable = true ∧ d.depth ≤ 60 ∧ d.shown.length ≤ sizeLine ∧ Q (.str d.shown) H
end
end L2


/-! Own: the end of a law's row from a contract FnG (the library's walk_of asks FnOk). -/
namespace L2
open PySem PySem.Spec PyProof.Rows
section
variable {P : Program} {w : World} {K : PySem.W.Frag} {mg mb : Str → Option Value} {k : Nat} {fa a : Addr} {fd : FuncData} {x : Str} {sp : Sp} {s : Shared} {vs : List Value} {ns : List Int}
/-- the abstract heap at the law's entry: the script alone, locked; or nothing, where the script is the module's own -/
abbrev Entry (K : PySem.W.Frag) (a : Addr) (H : Hp) : Prop := (∀ b, H b ≠ none → b = a) ∧ (H a ≠ none → K.lookup a = none)
end
end L2


/-! Own: defs that make lambdas (their code object known), and the end of a law's row from a contract FnG with tables of code objects. -/
namespace L2
open PySem PySem.Spec PyProof.Rows LamX
/-- as Fun, the code object's place told -/
structure FunC (K : PySem.W.Frag) (x qual : Str) (st : Stmt) (f : Addr) (fd : FuncData) (c : Addr) : Prop where
  ex : ∃ (oc : Value) (od : Option Addr) (kV doc pm : Value) (an : Option Addr) (ct : Value) (osl : Array (Option Value)),
    fd = PySem.W.fnOf x qual (defArgs st) (defBody st) (defScope st) .none kV doc pm an (.ref c) ct ∧ K.lookup f = some ⟨oc, od, .func fd, osl⟩ ∧ PySem.W.codeIn K (.ref c) qual = true
  kp : PySem.W.keepIn K (.ref f) = true
theorem FunC.fun {K : PySem.W.Frag} {x qual : Str} {st : Stmt} {f c : Addr} {fd : FuncData} (F : FunC K x qual st f fd c) : Fun K x qual st f fd :=
  let ⟨oc, od, kV, doc, pm, an, ct, osl, e1, e2, e3⟩ := F.ex
  ⟨⟨oc, od, kV, doc, pm, an, .ref c, ct, osl, e1, e2, e3⟩, F.kp⟩
theorem funC_mk {K : PySem.W.Frag} {x qual : Str} {st : Stmt} {f c : Addr} {oc : Value} {od an : Option Addr} {osl : Array (Option Value)} {kV doc pm ct : Value} (l : K.lookup f = some ⟨oc, od, .func (PySem.W.fnOf x qual (defArgs st) (defBody st) (defScope st) .none kV doc pm an (.ref c) ct), osl⟩)
    (e : PySem.W.codeIn K (.ref c) qual = true) (k : PySem.W.keepIn K (.ref f) = true) : FunC K x qual st f (PySem.W.fnOf x qual (defArgs st) (defBody st) (defScope st) .none kV doc pm an (.ref c) ct) c := ⟨⟨oc, od, kV, doc, pm, an, ct, osl, rfl, l, e⟩, k⟩
section
variable {P : Program} {w : World} {K : PySem.W.Frag} {mg : Str → Option Value} {base : Heap}
theorem FunC.ok {x qual : Str} {st : Stmt} {f c : Addr} {fd : FuncData} {N ps : List Str} {k : Nat} {sp : Sp} (F : FunC K x qual st f fd c) (S : FnScope N ps (defScope st)) (len : ∀ vs H Q E, sp vs H Q E → vs.length = ps.length)
    (body : ∀ (A : Around) (outer : List Env) (s : Shared) (H : Hp) (vs : List V) (Q : VK) (E : XK), Room k (A.deeper (envOfC qual (defScope st) s.heap.objs.size f (.ref c))) → sp vs H Q E →
      ∃ t, PSs (cxOf CX0 P w K mg base N qual (defScope st) f (.ref c) A outer s H E).nox (defBody st) t ∧ t { nx := fun _ H' => Q .non H', rt := Q } (start N vs) H) : FnOk P w K mg base CX0 (k + 1) f fd ps sp := by
  obtain ⟨oc, od, kV, doc, pm, an, ct, osl, rfl, lk, code⟩ := F.ex
  refine fn_of lk code S len fun A outer s H vs Q E room want => ?_
  obtain ⟨t, h, q⟩ := body A outer s H vs Q E room want
  exact ⟨t, h.nox, q⟩
theorem FunC.okG {x qual : Str} {st : Stmt} {f c : Addr} {fd : FuncData} {N ps : List Str} {k : Nat} {sp : Sp} (F : FunC K x qual st f fd c) (S : FnScope N ps (defScope st)) (len : ∀ vs H Q E, sp vs H Q E → vs.length = ps.length)
    (body : ∀ (A : Around) (outer : List Env) (s : Shared) (H : Hp) (vs : List V) (Q : VK) (E : XK), Clr A → Room k (A.deeper (envOfC qual (defScope st) s.heap.objs.size f (.ref c))) → sp vs H Q E →
      ∃ t, PSs (cxOf CX0 P w K mg base N qual (defScope st) f (.ref c) A outer s H E).nox (defBody st) t ∧ t { nx := fun _ H' => Q .non H', rt := Q } (start N vs) H) : FnG P w K mg base CX0 (k + 1) f fd ps sp := by
  obtain ⟨oc, od, kV, doc, pm, an, ct, osl, rfl, lk, code⟩ := F.ex
  refine ⟨len, fun A outer s H args us vs Q E clr room e0 binds rel want => ?_⟩
  have nps := len _ _ _ _ want
  have KX : K.In s.heap := e0.mod.kin.keeps fun b o e => (e0.bs b o e).1
  have lim : s.heap.NoLimit := e0.mod.nolimit.keeps fun b o e => (e0.bs b o e).1
  refine codeAny_call_function room.depth (KX _ _ lk) rfl S.co S.gen rfl (PySem.W.codeRec_of KX code) (binds _ _ _ _ (wpAny_newFunctionEnv_cells S.kind (fun y hy => ?_) fun env he s1 x => ?_))
  · obtain ⟨n, v⟩ := y
    exact (S.par n (List.of_mem_zip hy).1).elim .inl fun q => .inr ⟨q, PySem.W.cellsFrom_some _ _ _ (.inl q)⟩
  · subst he
    obtain ⟨t, term, q⟩ := body A outer s H vs Q E clr (room.deeper _) want
    have I : Inv (cxOf CX0 P w K mg base N qual (defScope st) f (.ref c) A outer s H E) [] (start N vs) H s1 := inv_start S room.hd e0 nps rel x
    refine ⟨lim.keeps x.toInCall.keep, codeAny_func (wpAny_mono (term.nox.run [] s1 (start N vs) H _ I q) (fun fl s' z => ?_) fun _ _ z => z)⟩
    match fl, z with
    | .ret u, ⟨v, _, H', J, rv, q⟩ => exact ⟨v, H', J.os, J.bare, J.base, J.hok, rv, q⟩
    | .next, ⟨_, H', J, q⟩ => exact ⟨.non, H', J.os, J.bare, J.base, J.hok, rfl, q⟩
    | .brk, ⟨_, _, _, q⟩ => exact q.elim
    | .cont, ⟨_, _, _, q⟩ => exact q.elim
end
section
variable {P : Program} {w : World} {K : PySem.W.Frag} {mg mb : Str → Option Value} {k : Nat} {fa a : Addr} {fd : FuncData} {x : Str} {sp : Sp} {s : Shared} {vs : List Value} {ns : List Int} {cs : List (Addr × Addr)}
/-- the code objects and their tables: empty, not of the written part -/
abbrev TabsIn (K : PySem.W.Frag) (h : Heap) (cs : List (Addr × Addr)) : Prop := ∀ p ∈ cs, PySem.W.CodeHd h p.1 p.2 ∧ h.get? p.2 = some (PySem.W.tabObj #[]) ∧ K.lookup p.2 = none
/-- the abstract heap at the law's entry: the tables, and the script, locked, or where it is the module's own the tables alone -/
structure EntT (K : PySem.W.Frag) (cs : List (Addr × Addr)) (a : Addr) (vs : List Value) (ns : List Int) (H : Hp) : Prop where
  tab : ∀ p ∈ cs, H p.2 = some (.tbl #[])
  dom : ∀ b u, H b = some u → (b = a ∧ u = .frz { cls := .type "list", data := .seq vs.toArray } (.lst (ns.map V.int))) ∨ ∃ p ∈ cs, b = p.2
  own : H a ≠ none → K.lookup a = none
theorem entT_run (KX : K.In s.heap) (hns : s.heap.Ns mainGlobals mg) (hb : s.heap.Ns builtinsNs mb) (hbb : ∀ y : Str, y ≠ "__name__" → mb y = bootBuiltins y) (lim : s.heap.NoLimit) (gens : s.gens = #[]) (ti : TabsIn K s.heap cs)
    (bmain : ∃ (bm : Addr) (ob : Obj), mg "__builtins__" = some (.ref bm) ∧ bm ≠ builtinsNs ∧ s.heap.get? bm = some ob ∧ ob.cls = .type "module" ∧ ob.dict = some builtinsNs ∧ ob.data = .plain)
    (oa : s.heap.get? a = some { cls := .type "list", data := .seq vs.toArray }) (rv : Vals (ns.map V.int) vs) (few : ns.length ≤ sizeLine) (room : Room k callerA)
    (F : ∀ base : Heap, K.In base → base.Ns mainGlobals mg → (∀ p ∈ cs, TabB base mg p.1 p.2) → FnG P w K mg base CX0 k fa fd [x] sp)
    (bind : ∀ (s : Shared) (u : Value), BindsTo s fd ⟨[u], []⟩ [(x, u)]) {H : Hp} (en : EntT K cs a vs ns H) (want : sp [.ref a] H (fun v _ => v = .bl true) fun _ _ _ => False) :
    codeAny (model P w) callerA (.call (.ref fa) ⟨[.ref a], []⟩) (fun r s' => r = .ok (.ret (.bool true)) ∧ OldK s.heap s'.heap ∧ s'.os = s.os ∧ AllBare s'.gens) s := by
  -- what is tracked: a list or a table
  have kinds : ∀ {b : Addr} {o : Obj}, s.heap.get? b = some o → H b ≠ none → o = { cls := .type "list", data := .seq vs.toArray } ∨ o = PySem.W.tabObj #[] := fun {b o} q n => by
    cases r : H b with
    | none => exact absurd r n
    | some u =>
      rcases en.dom b u r with ⟨rfl, _⟩ | ⟨p, hp, rfl⟩
      · rw [oa] at q
        exact .inl (Option.some.inj q).symm
      · rw [(ti p hp).2.1] at q
        exact .inr (Option.some.inj q).symm
  have loose : ∀ {b : Addr} {o : Obj}, s.heap.get? b = some o → (∀ vs n, o.data ≠ .seq vs n) → (o.data = .fields #[] → False) → H b = none := fun {b o} q h1 h2 => by
    refine Decidable.byContradiction fun n => ?_
    rcases kinds q n with e | e
    · exact h1 _ _ (by rw [e])
    · exact h2 (by rw [e])
  have seen : ∀ {b : Addr} {o : Obj}, s.heap.get? b = some o → H b = none → (hidT s.heap H).get? b = some o := fun q n => hidT_get q n
  have dict : ∀ {b : Addr} {o : Obj} {es : Array DictEntry} {ep : Nat}, s.heap.get? b = some o → o.data = .dict es ep → (hidT s.heap H).get? b = some o := fun q d => seen q (loose q (fun vs n z => nomatch d.symm.trans z) fun z => nomatch d.symm.trans z)
  have nsT : ∀ {b : Addr} {m : Str → Option Value}, s.heap.Ns b m → (hidT s.heap H).Ns b m := fun ⟨o, es, ep, q, d, r⟩ => ⟨o, es, ep, dict q d, d, r⟩
  have KT : K.In (hidT s.heap H) := fun b o q => seen (KX b o q) (Decidable.byContradiction fun n => by
    cases r : H b with
    | none => exact n r
    | some u =>
      rcases en.dom b u r with ⟨rfl, _⟩ | ⟨p, hp, rfl⟩
      · rw [en.own n] at q
        cases q
      · rw [(ti p hp).2.2] at q
        cases q)
  have isTab : ∀ b u, H b = some u → ∀ q, u = .tbl q → s.heap.get? b = some (PySem.W.tabObj #[]) ∧ q = #[] := fun b u r q e => by
    rcases en.dom b u r with ⟨_, z⟩ | ⟨p, hp, rfl⟩
    · rw [e] at z
      cases z
    · refine ⟨(ti p hp).2.1, ?_⟩
      have z := en.tab p hp
      rw [r, e] at z
      cases z
      rfl
  have ok : HOk P w H s.heap := fun b u r => by
    rcases en.dom b u r with ⟨rfl, rfl⟩ | ⟨p, hp, rfl⟩
    · exact ⟨oa, by rw [List.length_map]; exact few, vs, _, rv, oa⟩
    · rw [en.tab p hp] at r
      cases r
      exact (ti p hp).2.1
  have TB : ∀ p ∈ cs, TabB (hidT s.heap H) mg p.1 p.2 := fun p hp => by
    obtain ⟨C, tp, _⟩ := ti p hp
    refine ⟨?_, ?_, fun z => ?_⟩
    · obtain ⟨o, us, file, tf, flags, tg, inF, text, tt, e1, r1, r2, r3, r⟩ := C
      refine ⟨o, us, file, tf, flags, tg, inF, text, tt, seen e1 (loose e1 (fun vs n z => nomatch r2.symm.trans z) fun z => ?_), r1, r2, r3, r⟩
      have e := r2.symm.trans z
      cases e
      simp at r3
    · obtain ⟨bm, ob, b1, b2, b3, b4, b5, b6⟩ := bmain
      refine ⟨bm, ob, b1, b2, fun q => ?_, fun q => ?_, seen b3 (loose b3 (fun vs n z => nomatch b6.symm.trans z) fun z => nomatch b6.symm.trans z), b4, b5, b6⟩
      · obtain ⟨o, es, ep, e, hd, _⟩ := hns
        rw [q, e] at b3
        cases b3
        cases hd.symm.trans b6
      · rw [q, tp] at b3
        cases b3
        cases b6
    · obtain ⟨o, es, ep, e, hd, _⟩ := hns
      rw [z, tp] at e
      cases e
      cases hd
  have e0 : Env0 P w K mg (hidT s.heap H) callerA [] s H :=
    ⟨rfl, ⟨KT, nsT hns, ⟨mb, nsT hb, hbb⟩, let ⟨m, z1, z2⟩ := lim; ⟨m, nsT z1, z2⟩⟩, fun b o q => of_hidT q, Nat.le_of_eq (hidT_size _ _), trivial, fun b z => absurd (show b ∈ ([] : List Addr) from z) (by simp), ok, .of_eq gens⟩
  refine codeAny_mono ((F _ KT (nsT hns) TB).run callerA [] s H ⟨[.ref a], []⟩ [.ref a] [.ref a] _ _ rfl room e0 (bind s (.ref a)) (.cons rfl .nil) want) fun r s' z => ?_
  match r, z with
  | .error _, z => exact z.elim
  | .ok .next, z => exact z.elim
  | .ok .brk, z => exact z.elim
  | .ok .cont, z => exact z.elim
  | .ok (.ret u), ⟨v, H', os, bare, un, ok', rv', q⟩ =>
    obtain rfl : v = .bl true := q
    obtain rfl : u = Value.bool true := rv'
    -- an object stays, or is a table that has grown
    have way : ∀ b o, s.heap.get? b = some o → s'.heap.get? b = some o ∨ ∃ p ∈ cs, b = p.2 ∧ ∃ more : Array Value, s'.heap.get? b = some (PySem.W.tabObj more) := fun b o q => by
      cases r : H b with
      | none => exact .inl (un.keep b o q r (fun z => absurd (show b ∈ ([] : List Addr) from z) (by simp)) (by simp))
      | some u =>
        rcases en.dom b u r with ⟨rfl, rfl⟩ | ⟨p, hp, rfl⟩
        · have q1 := (ok b _ r).1
          rw [q] at q1
          cases q1
          exact .inl (ok' b _ (un.frzs b _ _ r)).1
        · obtain ⟨more, z⟩ := un.tbls p.2 #[] (en.tab p hp)
          exact .inr ⟨p, hp, rfl, _, ok' p.2 _ z⟩
    refine ⟨rfl, ⟨fun b o q => ?_, fun b o q => ?_⟩, os, bare⟩
    · rcases way b o q with z | ⟨p, hp, rfl, more, z⟩
      · exact .inl z
      · obtain ⟨C, tp, _⟩ := ti p hp
        rw [tp] at q
        cases q
        exact .inr (.inl ⟨(C.tab tp).isCodeTable, rfl, #[], more, rfl, by rw [Array.empty_append]; exact z⟩)
    · rcases way b o q with z | ⟨_, _, _, more, z⟩
      · exact ⟨o, z⟩
      · exact ⟨_, z⟩
end
/-- the law's promise with its tables -/
def LawTG (l : PySem.W.OpenLaw) (w : World) (K : PySem.W.Frag) (k n : Nat) (x : Str) (mg : Str → Option Value) (fa : Addr) (h : Heap) : Prop :=
  ∃ (fd : FuncData) (cs : List (Addr × Addr)) (sp : Sp), TabsIn K h cs ∧ (∀ (s : Shared) (u : Value), BindsTo s fd ⟨[u], []⟩ [(x, u)]) ∧
    (∀ (H : Hp) (a : Addr) (ns : List Int), ns.length ≤ n → (∀ p ∈ cs, H p.2 = some (.tbl #[])) → SqL K H a (ns.map V.int) → sp [.ref a] H (fun v _ => v = .bl true) fun _ _ _ => False) ∧
    ∀ base : Heap, K.In base → base.Ns mainGlobals mg → (∀ p ∈ cs, TabB base mg p.1 p.2) → FnG l.prog w K mg base CX0 k fa fd [x] sp
/-- what the head tells of a def's table -/
abbrev TabsOf (q : Program) (K : PySem.W.Frag) (h : Heap) : Prop := ∀ (y : Str) (c P : Addr), ((recsOf q).find? (fun e => e.name == y)).isSome = true → PySem.W.tabIn K y = some (c, P) → PySem.W.CodeHd h c P ∧ h.get? P = some (PySem.W.tabObj #[])
/-- the goal behind the head, from such a promise -/
theorem walk_tabG {l : PySem.W.OpenLaw} {n k : Nat} {q : Program} {loose : List Str} {XP : (Str → Option Value) → Heap → Prop} {YP : World → Heap → Prop} {d : DefRec} {K : Params → PySem.W.Frag} {x : Str}
    (most : l.most = some n) (few : n ≤ sizeLine) (nodf : d.params.defaults = []) (room : Room k callerA) (hY : ∀ (w : World) (h : Heap), YP w h → (K w.params).In h)
    (F : ∀ (w : World) (mg : Str → Option Value) (fa : Addr) (h : Heap), (K w.params).In h → h.Ns mainGlobals mg → mg d.name = some (.ref fa) → TabsOf q (K w.params) h → XP mg h → LawTG l w (K w.params) k n x mg fa h) :
    PySem.W.WalkO q loose XP YP l.row.toRowW d [] (fun f vs => PySem.call f vs) :=
  Att.attach_call most nodf fun w _ s mg mb fa _ _ _ _ a vs ns G Y _ _ _ hmg hobj hints hlen hg => by
    have KX := hY w _ Y
    obtain ⟨fd, cs, sp, ti, bind, hsp, hF⟩ := F w mg fa _ KX G.T.g hmg (fun y c P hr ht => let ⟨d', hd⟩ := Option.isSome_iff_exists.mp hr; PySem.W.tab_of G.T KX hd ht) G.X
    have rv := vals_ints hints
    have len := hints.length
    have tne : ∀ p ∈ cs, p.2 ≠ a := fun p hp z => by
      have e := (ti p hp).2.1
      rw [z, hobj] at e
      cases e
    cases own : (K w.params).lookup a with
    | some o =>
      have e := KX a o own
      rw [hobj] at e
      cases e
      obtain ⟨H, eH⟩ : ∃ H : Hp, H = fun b => if b ∈ cs.map (·.2) then some (.tbl #[]) else none := ⟨_, rfl⟩
      have inT : ∀ p ∈ cs, H p.2 = some (.tbl #[]) := fun p hp => by
        rw [eH]
        exact if_pos (List.mem_map.mpr ⟨p, hp, rfl⟩)
      have outT : ∀ b, b ∉ cs.map (·.2) → H b = none := fun b n => by
        rw [eH]
        exact if_neg n
      have na : a ∉ cs.map (·.2) := fun m => by
        obtain ⟨p, hp, e⟩ := List.mem_map.mp m
        exact tne p hp e
      refine entT_run KX G.T.g G.T.b G.T.builtins G.T.nolimit hg ti G.T.bmain hobj rv (Nat.le_trans hlen few) room hF bind (H := H) ⟨inT, fun b u r => .inr ?_, fun z => absurd (outT a na) z⟩
        (hsp H a ns hlen inT (.inr ⟨_, vs.toArray, _, own, rfl, rfl, rfl, by rw [List.size_toArray, len]; exact Nat.le_trans hlen few, by simpa using rv⟩))
      refine Decidable.byContradiction fun n => ?_
      rw [outT b fun m => n (let ⟨p, hp, e⟩ := List.mem_map.mp m; ⟨p, hp, e.symm⟩)] at r
      cases r
    | none =>
      obtain ⟨H, eH⟩ : ∃ H : Hp, H = fun b => if b = a then some (.frz { cls := .type "list", data := .seq vs.toArray } (.lst (ns.map V.int))) else if b ∈ cs.map (·.2) then some (.tbl #[]) else none := ⟨_, rfl⟩
      have atA : H a = some (.frz { cls := .type "list", data := .seq vs.toArray } (.lst (ns.map V.int))) := by rw [eH]; exact if_pos rfl
      have inT : ∀ p ∈ cs, H p.2 = some (.tbl #[]) := fun p hp => by
        rw [eH]
        exact (if_neg (tne p hp)).trans (if_pos (List.mem_map.mpr ⟨p, hp, rfl⟩))
      refine entT_run KX G.T.g G.T.b G.T.builtins G.T.nolimit hg ti G.T.bmain hobj rv (Nat.le_trans hlen few) room hF bind (H := H) ⟨inT, fun b u r => ?_, fun _ => own⟩ (hsp H a ns hlen inT (.inl (.inr ⟨_, atA⟩)))
      by_cases n : b = a
      · subst n
        rw [atA] at r
        exact .inl ⟨rfl, (Option.some.inj r).symm⟩
      · refine .inr (Decidable.byContradiction fun m => ?_)
        rw [eH] at r
        have r' := (if_neg n).symm.trans r
        rw [if_neg fun z => m (let ⟨p, hp, e⟩ := List.mem_map.mp z; ⟨p, hp, e.symm⟩)] at r'
        cases r'
end L2


/-! Own: a lambda handed to a def that calls it in a try: what is raised is wished for at the caller's very slots (the library's rule asks it for all slots). -/
namespace L2
open PySem PySem.Spec PyProof.Rows LamX
section
variable {X : Cx} {pins : List (Addr × Obj)} {σ : St} {H : Hp} {s : Shared}
theorem pe_actS {CXg : CXT} {Eg : XK} {Ng : List Str} {qg : Str} {sg : Scope} {g f c' : Addr} {cdg pm ctv : Value} {params : Arguments} {body : Expr} {scope : Scope} {k i : Nat} {a : Str} {pn : List (Addr × Obj)} {xe : Value → Shared → Prop} {W : WX} {tb : XK → TE} {p1 p2 : Pos}
    (I : Inv X pins σ H s) (L : LamS X.env.scope scope) (here : s.heap.get? f = some (PySem.W.kla_obj "<lambda>" (X.env.qual ++ "<lambda>") params body scope (cloFrom X.env.cells scope.names []) pm c' ctv)) (fno : H f = none) (ffr : f ∉ frs X.stack)
    (bd : bindArgs (PySem.W.kla_fn "<lambda>" (X.env.qual ++ "<lambda>") params body scope (cloFrom X.env.cells scope.names []) pm (.ref c') ctv) ⟨[], []⟩ = pure []) (tk : Takes ((cxOf CXg X.prog X.w X.K X.mg X.base Ng qg sg g cdg X.A X.stack s H Eg).tr pn xe) W)
    (room : Room (k + 1) (X.A.deeper (envOfC qg sg s.heap.objs.size g cdg))) (walk : ∀ (A : Around) (outer : List Env) (s : Shared) (H : Hp) (E : XK), Room k (A.deeper (lamEnv X scope s.heap.objs.size f c')) → PE (lamCx X A outer s H E scope f c') body (tb E))
    (hN : Ng[i]? = some a) (hv : Vis sg a) (hd : (a == ("__debug__" : Str)) = false := by decide) (hcd : (a == ("__classdict__" : Str)) = false := by decide) :
    PE ((cxOf CXg X.prog X.w X.K X.mg X.base Ng qg sg g cdg X.A X.stack s H Eg).tr pn xe) (.Call (.Name a p1) [] [] p2)
      (fun τ HZ Q => ∃ (Ech : XK) (Qn : VK), (∀ cls d H', Ech cls d H' → W cls d τ H') ∧ (∀ v H', Qn v H' → Q v H') ∧ τ[i]? = some (some (.ref f)) ∧ HZ c' = some (CodeO c' (X.env.qual ++ "<lambda>")) ∧ tb Ech σ HZ Qn) := by
  constructor
  intro pz sz τ HZ Q IZ ⟨Ech, Qn, imp, impQ, slot, code, want⟩
  refine wpAny_Call_Name_kw (thn ((pe_var (pos := p1) (i := i) hN hv hd hcd).run pz sz τ HZ (fun v H1 => v = .ref f ∧ H1 = HZ) IZ ⟨.ref f, slot, rfl, rfl⟩) fun u s1 ⟨v, H1, I1, r1, ev, eH⟩ => ?_)
  subst ev
  subst eH
  cases (show u = Value.ref f from r1)
  have still : s1.heap.get? f = some (PySem.W.kla_obj "<lambda>" (X.env.qual ++ "<lambda>") params body scope (cloFrom X.env.cells scope.names []) pm c' ctv) := I1.base.keep f _ here fno ffr (by simp [cxOf, Cx.tr])
  have grown : Un (frs X.stack) [] H H1 s.heap s1.heap := I1.base
  obtain ⟨⟨oc, ws, t, e1, e2, e3⟩, _, _⟩ := I1.hok c' _ code
  refine PySem.W.callWith_F0 ⟨_, _, _, _, still⟩ (wpAny_call (codeAny_mono (R := CR (L2.CX X.prog X.w) (envOfC qg sg s.heap.objs.size g cdg :: X.stack) X.prog X.w H1 s1 Qn Ech) ?_ fun r s' z => ?_))
  · show codeAny _ _ (.call (.ref f) ⟨[], []⟩) _ s1
    refine PySem.W.kla_callFunE room.depth still rfl L.co L.gen rfl ⟨c', oc, ws, t, rfl, e1, e2, e3⟩ ?_
    rw [bd]
    refine wpAny_pure (wpAny_newFunctionEnv (fun y hy => (L.own y hy).2) (fun y hy => absurd hy (by simp)) (fun h₁ ns sb => ⟨I1.nolimit.fresh _ sb, ?_⟩) L.kind)
    have kp : ∀ b o, s1.heap.get? b = some o → h₁.get? b = some o := fun b o e => sb.extBut b o (Nat.ne_of_lt (Heap.lt_size e)) (Heap.get?_push_of_some _ e)
    have J : Inv (lamCx X (X.A.deeper (envOfC qg sg s.heap.objs.size g cdg)) (envOfC qg sg s.heap.objs.size g cdg :: X.stack) s1 H1 Ech scope f c') [] σ H1 { s1 with heap := h₁, toks := s1.toks + ([] : List (Str × Value)).length } := lam_start2 I L I1.env0 room.hd grown ns kp
    exact PySem.W.kla_codeExpr (wpAny_mono ((walk _ _ s1 H1 _ (room.deeper _)).run [] _ _ H1 Qn J want) (fun v s' ⟨w, H', J', rv, q⟩ => ⟨w, H', J'.os, J'.bare, J'.base, J'.hok, rv, q⟩) fun _ _ z => z)
  · match r, z with
    | .error e, z => exact tk e s' (XE.of_call I1 (fun cls d H' h => imp cls d H' h) z)
    | .ok (.ret u), z =>
      obtain ⟨v, H2, J2, rv, q⟩ := I1.after z
      exact ⟨v, H2, J2, rv, impQ v H2 q⟩
    | .ok .next, z => exact z.elim
    | .ok .brk, z => exact z.elim
    | .ok .cont, z => exact z.elim
end
/-- the def that calls what it got, in its slot 0 -/
def GivesS (X : Cx) (Ng : List Str) (x : Str) (sg : Scope) (g : Addr) (cdg : Value) (bg : List Stmt) (a : Str) (q : Str) (TT : (XK → Hp → VK → Prop) → Hp → VK → Prop) : Prop :=
  ∀ (f c' : Addr) (s : Shared) (H : Hp) (Q : VK) (tl : XK → Hp → VK → Prop),
    (∀ (W : WX) (pn : List (Addr × Obj)) (xe : Value → Shared → Prop) (p1 p2 : Pos), Takes ((cxOf C8.CX0 X.prog X.w X.K X.mg X.base Ng x sg g cdg X.A X.stack s H C8.E0).tr pn xe) W →
      PE ((cxOf C8.CX0 X.prog X.w X.K X.mg X.base Ng x sg g cdg X.A X.stack s H C8.E0).tr pn xe) (.Call (.Name a p1) [] [] p2) (fun τ HZ Q => ∃ (Ech : XK) (Qn : VK), (∀ cls d H', Ech cls d H' → W cls d τ H') ∧ (∀ v H', Qn v H' → Q v H') ∧ τ[0]? = some (some (.ref f)) ∧ HZ c' = some (CodeO c' q) ∧ tl Ech HZ Qn)) →
    H c' = some (CodeO c' q) → TT tl H Q → ∃ t, PSs (cxOf C8.CX0 X.prog X.w X.K X.mg X.base Ng x sg g cdg X.A X.stack s H C8.E0).nox bg t ∧ t { nx := fun _ H' => Q .non H', rt := Q } (L2.start Ng [.ref f]) H
/-- x(lambda: body), x such a def -/
theorem pe_lamS {X : Cx} {T : List (Addr × Str)} {TT : (XK → Hp → VK → Prop) → Hp → VK → Prop} {x a : Str} {g c P : Addr} {k : Nat} {st : Stmt} {fd : FuncData} {Ng : List Str} {params : Arguments} {body : Expr} {scope : Scope} {t : XK → TE} {p lpos pos : Pos} (hg : Gl X x) (hm : X.mg x = some (.ref g))
    (F : Fun X.K x x st g fd) (hb : Binds X.K fd [a] []) (Sg : FnScope Ng [a] (defScope st)) (hNg : Ng[0]? = some a) (hva : Vis (defScope st) a) (gives : ∀ cdg, GivesS X Ng x (defScope st) g cdg (defBody st) a (X.env.qual ++ "<lambda>") TT)
    (TB : TabB X.base X.mg c P) (code : X.env.code = .ref c) (mT : (P, X.env.qual ++ "<lambda>") ∈ T) (uT : ∀ p ∈ T, p.1 = P → p.2 = X.env.qual ++ "<lambda>") (room : Room (k + 2) X.A) (L : LamS X.env.scope scope) (dfl : defaultsOf params X.env = ([], []))
    (bd : ∀ (q : Str) (cl : List (Str × Addr)) (pm cv ctv : Value), bindArgs (PySem.W.kla_fn "<lambda>" q params body scope cl pm cv ctv) ⟨[], []⟩ = pure [])
    (walk : ∀ (A : Around) (outer : List Env) (s : Shared) (H : Hp) (E : XK) (f c' : Addr), Room k (A.deeper (lamEnv X scope s.heap.objs.size f c')) → PE (lamCx X A outer s H E scope f c') body (t E))
    (hdb : (x == ("__debug__" : Str)) = false := by decide) (hd : (a == ("__debug__" : Str)) = false := by decide) (hcd : (a == ("__classdict__" : Str)) = false := by decide) : PE X (.Call (.Name x p) [.Lambda params body scope lpos] [] pos) (tLam T TT t) := by
  constructor
  intro pins s σ H Q I ⟨hT, want⟩
  refine wpAny_Call_Name_kw (ld_glob I hg hm ?_ hdb)
  refine PySem.W.callWith_K (h₀ := X.base) I.ok.mod.kin F.kp (pos := pos) ?_ (by rfl) (by rfl)
  show wpAny _ _ (spliced ((false, eval (.Lambda params body scope lpos) X.env) :: backTo pos (starEach [] X.env))) _ _ s
  refine Calls.spliced_cons (lam_make2 I TB code mT uT hT dfl (L.has I.ok) fun f c' pm' ctv H1 s' I1 eN T1 of fn fr co => Calls.spliced_nil ⟨I1.kIn, wpAny_call (codeAny_mono (R := CR C8.CX0 X.stack X.prog X.w H1 s' Q C8.E0) ?_ fun r s2 z => ?_)⟩)
  · obtain ⟨oc, od, kV, doc, pm, an, cdv, ct, osl, rfl, lk, cin⟩ := F.ex
    refine run_ofS (N := Ng) (ps := [a]) (us := [.ref f]) (vs := [.ref f]) lk cin Sg room I1.env0 (hb s' [.ref f] I1.kIn rfl) (.cons rfl .nil) rfl fun room' => ?_
    obtain ⟨t', term, q⟩ := gives cdv f c' s' H1 Q (fun E H' Q' => t E σ H' Q') (fun W pn xe p1 p2 tk => pe_actS (i := 0) I1 L of fn fr (bd _ _ _ _ _) tk room' (fun A outer s H E hr2 => walk A outer s H E f c' hr2) hNg hva hd hcd) co (want H1 eN T1)
    exact ⟨t', term.nox, q⟩
  · match r, z with
    | .error e, z => exact (show False from z).elim
    | .ok (.ret u), z => exact I1.after z
    | .ok .next, z => exact z.elim
    | .ok .brk, z => exact z.elim
    | .ok .cont, z => exact z.elim
end L2


/-! data stays where all stays -/
namespace FT
open PySem L2 TL ClX
mutual
theorem dp_up {K : PySem.W.Frag} {H H' : Hp} (s : Same H H') : ∀ (d : PyData) (v : V), Dp K H v d → Dp K H' v d
  | .none, _, .non => .non
  | .bool _, _, .bl b => .bl b
  | .int _, _, .int i => .int i
  | .str _, _, .str x => .str x
  | .list ds, _, .lst h q => .lst (Same.sql s h) (dps_up s ds _ q)
  | .tuple ds, _, .tup h q => .tup (Same.sqt s h) (dps_up s ds _ q)
theorem dps_up {K : PySem.W.Frag} {H H' : Hp} (s : Same H H') : ∀ (ds : List PyData) (vs : List V), DpAll K H vs ds → DpAll K H' vs ds
  | [], _, .nil => .nil
  | d :: ds, _, .cons h q => .cons (dp_up s d _ h) (dps_up s ds _ q)
end
end FT


/-! _law_error of family C: a pair of a word and what the error tells -/
namespace FT
open PySem L2 TL ClX LamX NdefX
def cnC (i : Nat) : Str := (["Mismatch", "UnknownName", "InvalidSizes", "InvalidForest", "InvalidUsers", "UnknownUser", "InvalidPlace", "InvalidText", "Crowded", "InvalidNumber", "InvalidPin", "NotBest"] : List Str).getD i ""
structure ClC (K : PySem.W.Frag) (mg : Str → Option Value) (R : Addr) (C : Nat → Addr) : Prop where
  gR : mg "RolloutError" = some (.ref R)
  g : ∀ i, i < 12 → mg (cnC i) = some (.ref (C i))
  x : ∀ i, i < 12 → XCls K (C i)
  kit : ∀ i j, i < 12 → j < 12 → PySem.W.kitOne K (.ref (C i)) (.ref (C j)) = some (decide (i = j))
  te : ∀ i, i < 12 → PySem.W.exmOne K (.ref (C i)) (.ref R) = some true
  no : PySem.W.findIn K (.ref (C 1)) "name" = some none
theorem Shw.up {K : PySem.W.Frag} {H H' : Hp} (s : Same H H') {v : V} {D : PyData} (h : Shw K H v D) : Shw K H' v D := by
  rcases h with ⟨h, n⟩ | ⟨a, e, h, z⟩
  · exact .inl ⟨dp_up s _ _ h, n⟩
  · exact .inr ⟨a, e, s _ _ h, z⟩
/-- what is shown of a value, within bounds -/
structure ShwC (K : PySem.W.Frag) (H : Hp) (v : V) (D : PyData) : Prop where
  shw : Shw K H v D
  ok : D.showable = true
  dep : D.depth ≤ 60
  len : D.shown.length ≤ sizeLine
theorem ShwC.up {K : PySem.W.Frag} {H H' : Hp} (s : Same H H') {v : V} {D : PyData} (h : ShwC K H v D) : ShwC K H' v D := ⟨Shw.up s h.shw, h.ok, h.dep, h.len⟩
/-- what _law_error makes of a lambda -/
def TErrC (K : PySem.W.Frag) (C : Nat → Addr) : (XK → Hp → VK → Prop) → Hp → VK → Prop := fun tl H Q =>
  tl (fun cls d H' => (cls = .ref (C 0) ∧ d = none ∧ ∀ p H'', Same H' H'' → H' p = none → H'' p = some (.tup [.str "mismatch", .non]) → Q (.ref p) H'') ∨
    (∃ dd v D, cls = .ref (C 1) ∧ d = some dd ∧ H' dd = some (.xd [("name", v)]) ∧ ShwC K H' v D ∧ ∀ p H'', Same H' H'' → H' p = none → H'' p = some (.tup [.str "name", .str D.shown]) → Q (.ref p) H'')) H fun _ H' => ∀ H'', Same H' H'' → Q .non H''
theorem XV_monoC {H H' : Hp} {a C : Addr} {fs : List (Str × V)} (s : Same H H') (x : XV H a C fs) : XV H' a C fs := by
  rcases x with ⟨x, e⟩ | ⟨dx, x, y⟩
  · exact .inl ⟨x.elim (fun q => .inl (s _ _ q)) (fun q => .inr (s _ _ q)), e⟩
  · exact .inr ⟨dx, x.elim (fun q => .inl (s _ _ q)) (fun q => .inr (s _ _ q)), y.elim (fun q => .inl (s _ _ q)) (fun q => .inr (s _ _ q))⟩
def marksC (i : Nat) : List V := (List.range 9).map fun j => .bl (decide (i = j))
theorem cat_segC {H : Hp} {l : Addr} {xs ys : List V} {Q : VK} (hl : H l = some (.lst xs)) (few : xs.length + ys.length ≤ 1000) (k : ∀ p H', Same H H' → H p = none → H' p = some (.lst (xs ++ ys)) → Q (.ref p) H') :
    ys.length ≤ sizeLine ∧ ∀ q, H q = none → rCat (.ref l) (.ref q) (upd H q (.lst ys)) Q := by
  have big : 1000 ≤ sizeLine := by decide
  refine ⟨by omega, fun q nq => ⟨l, q, xs, ys, rfl, rfl, by rw [upd_ne (ne_of_none hl nq)]; exact hl, upd_same, by omega, fun p np => ?_⟩⟩
  have s1 := same_new (o := .lst ys) nq
  exact k p _ (s1.trans (same_new np)) (s1.free np) upd_same
abbrev NEc : List Str := ["_law_work", "_law_caught", "e", "_law_kinds"]
theorem scEc : FnScope NEc ["_law_work"] (defScope s__law_error) := ⟨rfl, rfl, rfl, by decide +kernel, rfl, by decide +kernel, by decide +kernel⟩
theorem isi_rdC {K : PySem.W.Frag} {σ : St} {H : Hp} {a Ci D : Addr} {fs : List (Str × V)} {b : Bool} {Q : VK} (h0 : σ[1]? = some (some (.ref a))) (X : XCls K Ci) (xv : XV H a Ci fs) (kit : PySem.W.kitOne K (.ref Ci) (.ref D) = some b) (q : Q (.bl b) H) :
    tCB (rIsX K) (tCons (tVar 1) (tCons (tC (.ref D)) tNil)) σ H Q := ⟨_, h0, a, Ci, fs, .ref D, _, b, rfl, .own _, X, xv, kit, q⟩
end FT


/-! _law_error of family C, where the error is of a text: the word and the line -/
namespace FT
open PySem L2 TL ClX LamX NdefX
structure ClT (K : PySem.W.Frag) (mg : Str → Option Value) (R : Addr) (C : Nat → Addr) : Prop where
  gR : mg "RolloutError" = some (.ref R)
  g : ∀ i, i < 12 → mg (cnC i) = some (.ref (C i))
  x : ∀ i, i < 12 → XCls K (C i)
  kit : ∀ i j, i < 12 → j < 12 → PySem.W.kitOne K (.ref (C i)) (.ref (C j)) = some (decide (i = j))
  te : ∀ i, i < 12 → PySem.W.exmOne K (.ref (C i)) (.ref R) = some true
  no : PySem.W.findIn K (.ref (C 7)) "line" = some none
/-- what _law_error makes of a lambda -/
def TErrT (C : Nat → Addr) : (XK → Hp → VK → Prop) → Hp → VK → Prop := fun tl H Q =>
  tl (fun cls d H' => ∃ dd v, cls = .ref (C 7) ∧ d = some dd ∧ H' dd = some (.xd [("line", v)]) ∧ ∀ p H'', Same H' H'' → H' p = none → H'' p = some (.tup [.str "text", v]) → Q (.ref p) H'') H fun _ H' => ∀ H'', Same H' H'' → Q .non H''
theorem marksT_count : (marksC 7).countP (fun z => eqV z (.bl true)) = 1 := rfl
theorem errT_gives {X : Cx} {g R : Addr} {C : Nat → Addr} {cdg : Value} {q : Str} (N : Nm X.mg) (L : ClT X.K X.mg R C) : GivesS X NEc "_law_error" (defScope s__law_error) g cdg (defBody s__law_error) "_law_work" q (TErrT C) := by
  intro f c' s H Q tl act hc h
  refine ⟨_, pss_cons (ps_set (i := 1) scEc.nd rfl (.inl rfl) pe_non)
    (pss_cons (ps_try_keep (X := (cxOf C8.CX0 X.prog X.w X.K X.mg X.base NEc "_law_error" (defScope s__law_error) g cdg X.A X.stack s H C8.E0).nox) (c := .ref R) (i := 2)
      rfl rfl rfl scEc.nd rfl rfl ⟨rfl, by decide, .inl L.gR⟩ LamX.takes0 (fun W pn xe tk _ => pss_one (ps_expr (act W pn xe _ _ tk))) (fun a oe cls d pn hz hf => pss_one (ps_set (i := 1) scEc.nd rfl (.inl rfl) (pv 2))))
    (pss_cons (ps_if (pt_cmpR op_isN (pv 1) pe_non (nomark _)) (pss_one (ps_ret pe_non)) pss_nil)
    (pss_cons (ps_set (i := 3) scEc.nd rfl (.inl rfl) (pe_lst (pa_cons (pe_callB call_isX (by rfl) N.isi (by decide +kernel) (pa_cons (pv 1) (pa_cons (pe_glob (v := .ref (C 0)) rfl (L.g 0 (by decide)) rfl) pa_nil))) (pa_cons (pe_callB call_isX (by rfl) N.isi (by decide +kernel) (pa_cons (pv 1) (pa_cons (pe_glob (v := .ref (C 1)) rfl (L.g 1 (by decide)) rfl) pa_nil)))
      (pa_cons (pe_callB call_isX (by rfl) N.isi (by decide +kernel) (pa_cons (pv 1) (pa_cons (pe_glob (v := .ref (C 2)) rfl (L.g 2 (by decide)) rfl) pa_nil))) pa_nil)))))
    (pss_cons (ps_set (i := 3) scEc.nd rfl (.inl rfl) (pe_op op_cat (pv 3) (pe_lst (pa_cons (pe_callB call_isX (by rfl) N.isi (by decide +kernel) (pa_cons (pv 1) (pa_cons (pe_glob (v := .ref (C 3)) rfl (L.g 3 (by decide)) rfl) pa_nil))) (pa_cons (pe_callB call_isX (by rfl) N.isi (by decide +kernel) (pa_cons (pv 1) (pa_cons (pe_glob (v := .ref (C 4)) rfl (L.g 4 (by decide)) rfl) pa_nil))) pa_nil)))))
    (pss_cons (ps_set (i := 3) scEc.nd rfl (.inl rfl) (pe_op op_cat (pv 3) (pe_lst (pa_cons (pe_callB call_isX (by rfl) N.isi (by decide +kernel) (pa_cons (pv 1) (pa_cons (pe_glob (v := .ref (C 5)) rfl (L.g 5 (by decide)) rfl) pa_nil))) (pa_cons (pe_callB call_isX (by rfl) N.isi (by decide +kernel) (pa_cons (pv 1) (pa_cons (pe_glob (v := .ref (C 6)) rfl (L.g 6 (by decide)) rfl) pa_nil))) pa_nil)))))
    (pss_cons (ps_set (i := 3) scEc.nd rfl (.inl rfl) (pe_op op_cat (pv 3) (pe_lst (pa_cons (pe_callB call_isX (by rfl) N.isi (by decide +kernel) (pa_cons (pv 1) (pa_cons (pe_glob (v := .ref (C 7)) rfl (L.g 7 (by decide)) rfl) pa_nil))) (pa_cons (pe_callB call_isX (by rfl) N.isi (by decide +kernel) (pa_cons (pv 1) (pa_cons (pe_glob (v := .ref (C 8)) rfl (L.g 8 (by decide)) rfl) pa_nil))) pa_nil)))))
    (pss_cons (ps_if (PW.pt (pw_or (pt_cmpR op_ne (pe_bm PySem.F.plainAttrs_list PySem.F.slot_list_count PySem.F.type_list_count mt_countF (pv 3) (pa_cons pe_bl pa_nil)) pe_int (nomark _)) (pw_or1 (pt_val (pe_callB call_isXT (by rfl) N.isi (by decide +kernel) (pa_cons (pv 1) (pa_cons (pe_tup (pa_cons (pe_glob (v := .ref (C 9)) rfl (L.g 9 (by decide)) rfl) (pa_cons (pe_glob (v := .ref (C 10)) rfl (L.g 10 (by decide)) rfl) (pa_cons (pe_glob (v := .ref (C 11)) rfl (L.g 11 (by decide)) rfl) pa_nil)))) pa_nil))))))) pss_never pss_nil)
    (pss_cons (ps_if (pt_val (pe_callB call_isX (by rfl) N.isi (by decide +kernel) (pa_cons (pv 1) (pa_cons (pe_glob (v := .ref (C 1)) rfl (L.g 1 (by decide)) rfl) pa_nil)))) pss_never pss_nil)
    (pss_cons (ps_if (pt_val (pe_callB call_isX (by rfl) N.isi (by decide +kernel) (pa_cons (pv 1) (pa_cons (pe_glob (v := .ref (C 2)) rfl (L.g 2 (by decide)) rfl) pa_nil)))) pss_never pss_nil)
    (pss_cons (ps_if (pt_val (pe_callB call_isX (by rfl) N.isi (by decide +kernel) (pa_cons (pv 1) (pa_cons (pe_glob (v := .ref (C 7)) rfl (L.g 7 (by decide)) rfl) pa_nil)))) (pss_one (ps_ret (pe_tup (pa_cons pe_str (pa_cons (pe_xfld (pv 1)) pa_nil))))) pss_nil)
    (pss_one (ps_ret (pe_ifExp (pt_val (pe_ix ix_list (pv 3) pe_int (fun _ _ => rfl))) (pe_tup (pa_cons pe_str (pa_cons pe_non pa_nil))) (pe_tup (pa_cons pe_str (pa_cons pe_non pa_nil)))))))))))))))), ?_⟩
  have big : 1000 ≤ sizeLine := by decide
  refine ⟨_, _, fun cls d H' z => ?_, fun v H' z => ?_, rfl, hc, h⟩
  · obtain ⟨dd, v, rfl, rfl, hdd, k⟩ := z
    refine ⟨true, C 7, rfl, L.te 7 (by decide), fun _ a ha => ⟨_, rfl, ?_⟩, fun z => nomatch z⟩
    obtain ⟨H2, e2⟩ : ∃ X, X = upd H' a (exg a (C 7) (some dd)) := ⟨_, rfl⟩
    have s2 : Same H' H2 := e2 ▸ same_new ha
    have xv : XV H2 a (C 7) [("line", v)] := .inr ⟨dd, .inr (by rw [e2]; exact upd_same), .inr (s2 _ _ hdd)⟩
    subst e2
    have Xi := L.x 7 (by decide)
    have kt : ∀ j, j < 12 → PySem.W.kitOne X.K (.ref (C 7)) (.ref (C j)) = some (decide (7 = j)) := fun j hj => L.kit 7 j (by decide) hj
    refine ⟨_, rfl, rfl, _, rfl, iteF ?_⟩
    refine isi_rdC rfl Xi xv (kt 0 (by decide)) (isi_rdC rfl Xi xv (kt 1 (by decide)) (isi_rdC rfl Xi xv (kt 2 (by decide)) ⟨by show 3 ≤ sizeLine; omega, fun p0 n0 => ?_⟩))
    have s3 := same_new (o := .lst ([.bl (decide (7 = 0)), .bl (decide (7 = 1)), .bl (decide (7 = 2))] : List V)) n0
    have a3 := upd_same (H := upd H' a (exg a (C 7) (some dd))) (a := p0) (o := .lst ([.bl (decide (7 = 0)), .bl (decide (7 = 1)), .bl (decide (7 = 2))] : List V))
    have xv3 := XV_monoC s3 xv
    refine ⟨_, rfl, isi_rdC rfl Xi xv3 (kt 3 (by decide)) (isi_rdC rfl Xi xv3 (kt 4 (by decide)) (cat_segC a3 (by show 3 + 2 ≤ 1000; omega) fun p1 H4 s4 n1 a4 => ?_))⟩
    have xv4 := XV_monoC s4 xv3
    refine ⟨_, rfl, isi_rdC rfl Xi xv4 (kt 5 (by decide)) (isi_rdC rfl Xi xv4 (kt 6 (by decide)) (cat_segC a4 (by show 5 + 2 ≤ 1000; omega) fun p2 H5 s5 n2 a5 => ?_))⟩
    have xv5 := XV_monoC s5 xv4
    refine ⟨_, rfl, isi_rdC rfl Xi xv5 (kt 7 (by decide)) (isi_rdC rfl Xi xv5 (kt 8 (by decide)) (cat_segC a5 (by show 7 + 2 ≤ 1000; omega) fun p3 H6 s6 n3 a6 => ?_))⟩
    have xv6 := XV_monoC s6 xv5
    have a6' : H6 p3 = some (.lst (marksC 7)) := a6
    have s06 : Same H' H6 := (((s2.trans s3).trans s4).trans s5).trans s6
    refine ⟨_, rfl, .inl ⟨rfl, _, SqL.of a6'⟩, p3, marksC 7, .bl true, rfl, rfl, SqL.of a6', rfl, rfl, rfl, _, rfl, ?_⟩
    rw [marksT_count]
    refine iteF ?_
    refine ⟨_, rfl, by show 3 ≤ sizeLine; omega, fun tp ntp => ?_⟩
    have s7 := same_new (o := .tup ([.ref (C 9), .ref (C 10), .ref (C 11)] : List V)) ntp
    have xv7 := XV_monoC s7 xv6
    have kA : PySem.W.kitAny X.K (.ref (C 7)) [.ref (C 9), .ref (C 10), .ref (C 11)] = some false :=
      kitAny_cons (kt 9 (by decide)) (fun _ => kitAny_cons (kt 10 (by decide)) (fun _ => kitAny_cons (kt 11 (by decide)) (fun _ => rfl) fun z => absurd z (by decide)) fun z => absurd z (by decide)) fun z => absurd z (by decide)
    refine ⟨a, C 7, _, tp, _, _, false, rfl, upd_same, .cons (.own _) (.cons (.own _) (.cons (.own _) .nil)), Xi, xv7, kA, false, rfl, iteF ?_⟩
    obtain ⟨H7, e7⟩ : ∃ X, X = upd H6 tp (.tup ([.ref (C 9), .ref (C 10), .ref (C 11)] : List V)) := ⟨_, rfl⟩
    rw [← e7] at s7 xv7 ⊢
    have s07 := s06.trans s7
    have a7 := s7 _ _ a6'
    refine isi_rdC rfl Xi xv7 (kt 1 (by decide)) ⟨false, rfl, iteF ?_⟩
    refine isi_rdC rfl Xi xv7 (kt 2 (by decide)) ⟨false, rfl, iteF ?_⟩
    refine isi_rdC rfl Xi xv7 (kt 7 (by decide)) ⟨true, rfl, iteT ?_⟩
    refine ⟨_, rfl, a, C 7, _, v, rfl, xv7, Xi, L.no, rfl, by show 2 ≤ sizeLine; omega, fun p np => ?_⟩
    exact k p _ (s07.trans (same_new np)) (s07.free np) upd_same
  · exact ⟨_, rfl, rfl, _, rfl, iteT (z H' Same.refl)⟩
end FT


/-! two dicts of flat values compared, equal or not -/
namespace L2
open PySem PySem.Spec PyProof.Rows
def rowEq (ls : List (Key × V)) (p : Key × V) : Bool := match valV ls p.1 with
  | some u => eqV p.2 u
  | none => false
def eqDK (ks ls : List (Key × V)) : Bool := ks.length == ls.length && ks.all (rowEq ls)
theorem valV_mem {ls : List (Key × V)} {k : Key} {u : V} (h : valV ls k = some u) : ∃ p ∈ ls, p.2 = u := by
  induction ls with
  | nil => cases h
  | cons p ls ih =>
    by_cases e : p.1 = k
    · rw [valV_pos e] at h
      exact ⟨p, List.mem_cons_self .., Option.some.inj h⟩
    · rw [valV_neg e] at h
      obtain ⟨q, hq, eq⟩ := ih h
      exact ⟨q, List.mem_cons_of_mem _ hq, eq⟩
theorem hits_any {A : Around} {s : Shared} {ls : List (Key × V)} {vb : List (Key × Value)} (rb : KV ls vb) (fl : ∀ p ∈ ls, flatV p.2 = true) {ks : List (Key × V)} {va : List (Key × Value)} (ra : KV ks va) : (∀ p ∈ ks, flatV p.2 = true) → PySem.W.KeqHits A s vb va (ks.all (rowEq ls)) := by
  unfold KV at ra
  induction ra with
  | nil => intro _; exact .nil
  | @cons p q ps qs h t ih =>
    intro fk
    obtain ⟨h1, h2⟩ := h
    have ih := ih fun p' hm => fk p' (List.mem_cons_of_mem _ hm)
    obtain ⟨k, v⟩ := q
    have h1' : p.1 = k := h1
    have rr := rb.val p.1
    rw [List.all_cons]
    cases e : valV ls p.1 with
    | none =>
      rw [e] at rr
      have z := rr.none_of
      rw [h1'] at z
      rw [show rowEq ls p = false by unfold rowEq; rw [e]]
      exact .miss z
    | some u =>
      rw [e] at rr
      obtain ⟨y, hy, ry⟩ := rr.some_of
      rw [h1'] at hy
      obtain ⟨p', hp', e'⟩ := valV_mem e
      have fu : flatV u = true := by rw [← e']; exact fl p' hp'
      rw [show rowEq ls p = eqV p.2 u by unfold rowEq; rw [e]]
      exact .hit hy (eqAt_V h2 ry (fk p (List.mem_cons_self ..)) fu) ih
section
variable {X : Cx}
def rEqDC : R2 := fun x y H Q => ∃ a b ks ls, x = .ref a ∧ y = .ref b ∧ H a = some (.dK ks) ∧ H b = some (.dK ls) ∧ (∀ p ∈ ks, flatV p.2 = true) ∧ (∀ p ∈ ls, flatV p.2 = true) ∧ Q (.bl (eqDK ks ls)) H
def rNeDC : R2 := fun x y H Q => ∃ a b ks ls, x = .ref a ∧ y = .ref b ∧ H a = some (.dK ks) ∧ H b = some (.dK ls) ∧ (∀ p ∈ ks, flatV p.2 = true) ∧ (∀ p ∈ ls, flatV p.2 = true) ∧ Q (.bl (!eqDK ks ls)) H
theorem op_ne_dictC (hu : X.A.units < cLine) : OpR X (compareOp .NotEq) rNeDC := by
  intro pins s σ H x y v u Q I rx ry h
  obtain ⟨a, b, ks, ls, rfl, rfl, ea, eb, fk, fl, q⟩ := h
  obtain rfl : v = Value.ref a := rx
  obtain rfl : u = Value.ref b := ry
  obtain ⟨_, ya, va, ra, da⟩ := (show ObjOk X.prog X.w H s.heap a (.dK ks) from I.hok a _ ea)
  obtain ⟨_, yb, vb, rb, db⟩ := (show ObjOk X.prog X.w H s.heap b (.dK ls) from I.hok b _ eb)
  have e : (!eqDK ks ls) = !(va.length == vb.length && ks.all (rowEq ls)) := by unfold eqDK; rw [ra.length, rb.length]
  exact PySem.W.keq_ne (knd := mixKind X.prog X.w) (r := ks.all (rowEq ls)) ya yb da db hu (fun _ => hits_any rb fl ra fk) (fin_bl I q e)
end
end L2


/-! Own: calls with keywords alone, two or four of them turned; pairs of a text and an int as data. -/
namespace FT
open PySem L2 TL ClX
def tCallK0 (m : Nat) (sp : Sp) (gV : List V → List V → List V) (E : XK) (tk : TA) : TE := fun σ H Q => tk σ H fun zs H1 => zs.length = m ∧ sp (gV [] zs) H1 Q E
/-- four values, turned -/
def turn4 {α : Type} : List α → List α
  | [a, b, c, d] => [d, c, b, a]
  | l => l
end FT


/-! two keywords, turned; defs that get a lambda -/
namespace FT
open PySem L2 TL ClX
def turn2 {α : Type} : List α → List α
  | [a, b] => [b, a]
  | l => l
abbrev tn2 (α : Type) : List α → List α → List α := fun _ ws => turn2 ws
/-- the two defs that get a lambda -/
structure Ge (K : PySem.W.Frag) (mg : Str → Option Value) (x : Str) (st : Stmt) (f : Addr) (fd : FuncData) : Prop where
  fn : Fun K x x st f fd
  bn : Binds K fd ["_law_work"] []
  mgn : mg x = some (.ref f)
end FT


/-! law_k51: what stands through the draws and the checks -/
namespace FT
open PySem L2 TL ClX LiI LamX
abbrev lamQ (x : Str) : Str := x ++ ".<locals>." ++ "<lambda>"
theorem DrawAt.notD5 {H : Hp} {d c b : Addr} {o : HO} (x : DrawAt H d c) (e : H b = some o) (n : ∀ xs, o ≠ .lst xs) : b ≠ d ∧ b ≠ c := by
  obtain ⟨nx, mx, cells, h1, h2, _⟩ := x
  refine ⟨fun z => ?_, fun z => ?_⟩
  · rw [z, h1] at e
    exact n _ (Option.some.inj e).symm
  · rw [z, h2] at e
    exact n _ (Option.some.inj e).symm
/-- what stands: the state, the tables, the dict, the forest -/
structure S51 (T : List (Addr × Str)) (CF d c q x : Addr) (t ts : List (Str × Str)) (H : Hp) : Prop where
  dr : DrawAt H d c
  tb : Tabs T H
  hq : H q = some (.dK (prs t))
  fa : FAt CF H x ts
theorem S51.keep {T : List (Addr × Str)} {CF d c q x : Addr} {t ts : List (Str × Str)} {H H' : Hp} (s : S51 T CF d c q x t ts H) (dr : DrawAt H' d c) (k : Keep d c H H') : S51 T CF d c q x t ts H' := by
  have off : ∀ {b : Addr} {o : HO}, H b = some o → (∀ xs, o ≠ .lst xs) → H' b = some o := fun {b o} e n => k b o (s.dr.notD5 e n).1 (s.dr.notD5 e n).2 e
  obtain ⟨dx, dq, h1, h2⟩ := s.fa
  refine ⟨dr, fun p hp => ?_, off s.hq (fun xs z => nomatch z), dx, dq, off h1 (fun xs z => nomatch z), off h2 (fun xs z => nomatch z)⟩
  obtain ⟨ps, e1, e2, e3⟩ := s.tb p hp
  refine ⟨ps, off e1 (fun xs z => nomatch z), e2, fun pos cv hc => ?_⟩
  obtain ⟨c', q1, q2⟩ := e3 pos cv hc
  exact ⟨c', q1, off q2 (fun xs z => by unfold CodeO at z; cases z)⟩
theorem S51.same {T : List (Addr × Str)} {CF d c q x : Addr} {t ts : List (Str × Str)} {H H' : Hp} (s : S51 T CF d c q x t ts H) (k : Same H H') : S51 T CF d c q x t ts H' := ⟨s.dr.mono k, s.tb.ext k, k _ _ s.hq, s.fa.mono k⟩
theorem S51.ext {T : List (Addr × Str)} {CF d c q x : Addr} {t ts : List (Str × Str)} {H H' : Hp} (s : S51 T CF d c q x t ts H) (k : ExtN H H') (tb : Tabs T H') : S51 T CF d c q x t ts H' := by
  obtain ⟨nx, mx, cells, h1, h2, r⟩ := s.dr
  obtain ⟨dx, dq, h3, h4⟩ := s.fa
  exact ⟨⟨nx, mx, cells, k _ _ h1 (fun ps z => nomatch z), k _ _ h2 (fun ps z => nomatch z), r⟩, tb, k _ _ s.hq (fun ps z => nomatch z), dx, dq, k _ _ h3 (fun ps z => nomatch z), k _ _ h4 (fun ps z => nomatch z)⟩
theorem shaped_txt (n : Int) : SeqAt.shaped (.tuple [.str "text", .int n]) = true := by
  have h : PyData.strOk "text" = true := by decide +kernel
  simp [SeqAt.shaped, PyData.canLay0, PyData.canLayAll0, PyData.depth, PyData.depthAll, h]
theorem eqv_txt (n : Int) : PyData.eqv (.tuple [.str "text", .int n]) (.tuple [.str "text", .int n]) = true := by
  simp [PyData.eqv, PyData.eqvAll]
/-- what is raised is what is due -/
theorem chk_txt {K : PySem.W.Frag} {C : Nat → Addr} {CT : Addr} (eC : C 7 = CT) {T : List (Addr × Str)} {σ : St} {t : XK → TE} {te : TE} {H1 : Hp} {Q : Bool → Hp → Prop} {n : Int} (hT : Tabs T H1) (hte : ∀ (H' : Hp) (Q' : VK), Q' (.int n) H' → te σ H' Q')
    (call : ∀ H2, ExtN H1 H2 → Tabs T H2 → ∀ (E : XK) (Q' : VK), Out H2 E (.e1 CT "line" (.int n)) → t E σ H2 Q') (k : ∀ H2 H3, ExtN H1 H2 → Tabs T H2 → Same H2 H3 → Q false H3) :
    tTest (tOp (rNeD K) (tLam T (TErrT C) t) (tTup (tCons (tC (.str "text")) (tCons te tNil)))) σ H1 Q := by
  refine ⟨hT, fun H2 e2 t2 => call H2 e2 t2 _ _ (fun d H3 s3 nd hd => ⟨d, _, by rw [eC], rfl, hd, fun p H4 s4 np hp => hte _ _ ⟨by show 2 ≤ sizeLine; decide, fun q nq => ?_⟩⟩)⟩
  have s5 := same_new (o := .tup [.str "text", .int n]) nq
  refine ⟨.tuple [.str "text", .int n], .tuple [.str "text", .int n], .tup (.inl (.inl (s5 _ _ hp))) (.cons (.str _) (.cons (.int _) .nil)), .tup (.inl (.inl upd_same)) (.cons (.str _) (.cons (.int _) .nil)), shaped_txt n, shaped_txt n, _, rfl, ?_⟩
  rw [eqv_txt]
  exact k H2 _ e2 t2 ((s3.trans s4).trans s5)
/-- an odd value -/
def OdV (d c : Addr) (H : Hp) (v : V) : Prop := v = .non ∨ v = .int 5 ∨ v = .bl true ∨ v = .str "" ∨ ∃ a o, v = .ref a ∧ H a = some o ∧ a ≠ d ∧ a ≠ c ∧ ((∃ xs, o = .lst xs) ∨ (∃ xs, o = .tup xs) ∨ ∃ kvs, o = .dK kvs)
theorem OdV.keep {d c : Addr} {H H' : Hp} {v : V} (k : Keep d c H H') (h : OdV d c H v) : OdV d c H' v := by
  rcases h with h | h | h | h | ⟨a, o, e, ha, n1, n2, w⟩
  · exact .inl h
  · exact .inr (.inl h)
  · exact .inr (.inr (.inl h))
  · exact .inr (.inr (.inr (.inl h)))
  · exact .inr (.inr (.inr (.inr ⟨a, o, e, k _ _ n1 n2 ha, n1, n2, w⟩)))
theorem OdV.ext {d c : Addr} {H H' : Hp} {v : V} (k : ExtN H H') (h : OdV d c H v) : OdV d c H' v := by
  rcases h with h | h | h | h | ⟨a, o, e, ha, n1, n2, w⟩
  · exact .inl h
  · exact .inr (.inl h)
  · exact .inr (.inr (.inl h))
  · exact .inr (.inr (.inr (.inl h)))
  · refine .inr (.inr (.inr (.inr ⟨a, o, e, k _ _ ha (fun ps z => ?_), n1, n2, w⟩)))
    subst z
    rcases w with ⟨_, w⟩ | ⟨_, w⟩ | ⟨_, w⟩ <;> cases w
theorem OdV.no {K : PySem.W.Frag} {d c : Addr} {H : Hp} {v : V} (h : OdV d c H v) : v = .str "" ∨ NoStr K H v := by
  rcases h with rfl | rfl | rfl | h | ⟨a, o, rfl, ha, n1, n2, w⟩
  · exact .inr ⟨_, .non, by decide⟩
  · exact .inr ⟨_, .int 5, by decide⟩
  · exact .inr ⟨_, .bl true, by decide⟩
  · exact .inl h
  · rcases w with ⟨xs, rfl⟩ | ⟨xs, rfl⟩ | ⟨xs, rfl⟩
    · exact .inr ⟨_, .lst ha, by decide⟩
    · exact .inr ⟨_, .tup ha, by decide⟩
    · exact .inr ⟨_, .dct ha, by decide⟩
/-- eight odd values, one drawn -/
theorem odd51 {K : PySem.W.Frag} {s : Str} {H : Hp} {d c l1 t1 d1 l2 p : Addr} (dr : DrawAt H d c) (n1 : H l1 = none) (n2 : (upd H l1 (.lst [.str s])) t1 = none) (n3 : (upd (upd H l1 (.lst [.str s])) t1 (.tup [.str s])) d1 = none) (n4 : (upd (upd (upd H l1 (.lst [.str s])) t1 (.tup [.str s])) d1 (.dK [])) l2 = none)
    (n5 : (upd (upd (upd (upd H l1 (.lst [.str s])) t1 (.tup [.str s])) d1 (.dK [])) l2 (.lst [])) p = none) {Q : VK} (k : ∀ x H', OdV d c H' x → DrawAt H' d c → Keep d c H H' → Q x H') :
    spPick K [.ref d, .ref p] (upd (upd (upd (upd (upd H l1 (.lst [.str s])) t1 (.tup [.str s])) d1 (.dK [])) l2 (.lst [])) p (.lst [.non, .int 5, .bl true, .ref l1, .ref t1, .ref d1, .ref l2, .str ""])) Q E0 := by
  have s1 := same_new (o := .lst [.str s]) n1
  have s2 := same_new (o := .tup [.str s]) n2
  have s3 := same_new (o := .dK []) n3
  have s4 := same_new (o := .lst []) n4
  have s5 := same_new (o := .lst [.non, .int 5, .bl true, .ref l1, .ref t1, .ref d1, .ref l2, .str ""]) n5
  obtain ⟨H5, e5⟩ : ∃ X, X = upd (upd (upd (upd (upd H l1 (.lst [.str s])) t1 (.tup [.str s])) d1 (.dK [])) l2 (.lst [])) p (.lst [.non, .int 5, .bl true, .ref l1, .ref t1, .ref d1, .ref l2, .str ""]) := ⟨_, rfl⟩
  have h1 : H5 l1 = some (.lst [.str s]) := by rw [e5]; exact s5 _ _ (s4 _ _ (s3 _ _ (s2 _ _ upd_same)))
  have h2 : H5 t1 = some (.tup [.str s]) := by rw [e5]; exact s5 _ _ (s4 _ _ (s3 _ _ upd_same))
  have h3 : H5 d1 = some (.dK []) := by rw [e5]; exact s5 _ _ (s4 _ _ upd_same)
  have h4 : H5 l2 = some (.lst []) := by rw [e5]; exact s5 _ _ upd_same
  have h5 : H5 p = some (.lst [.non, .int 5, .bl true, .ref l1, .ref t1, .ref d1, .ref l2, .str ""]) := by rw [e5]; exact upd_same
  have a1 := dr.apart n1
  have a2 := (dr.mono s1).apart n2
  have a3 := ((dr.mono s1).mono s2).apart n3
  have a4 := (((dr.mono s1).mono s2).mono s3).apart n4
  have a5 := ((((dr.mono s1).mono s2).mono s3).mono s4).apart n5
  have sA : Same H H5 := e5 ▸ (((s1.trans s2).trans s3).trans s4).trans s5
  have dr5 := dr.mono sA
  rw [← e5]
  refine ⟨d, c, _, 8, (fun _ x => OdV d c H5 x), rfl, dr5, .inl ⟨p, _, rfl, a5.1, a5.2, h5, rfl, fun i x hx => ?_⟩, by decide, by decide, fun i x H6 od dr6 k6 => k x H6 (od.keep k6) dr6 ((Keep.of_same sA).trans k6)⟩
  match i, hx with
  | 0, hx => exact .inl (Option.some.inj hx).symm
  | 1, hx => exact .inr (.inl (Option.some.inj hx).symm)
  | 2, hx => exact .inr (.inr (.inl (Option.some.inj hx).symm))
  | 3, hx => exact .inr (.inr (.inr (.inr ⟨l1, _, (Option.some.inj hx).symm, h1, a1.1, a1.2, .inl ⟨_, rfl⟩⟩)))
  | 4, hx => exact .inr (.inr (.inr (.inr ⟨t1, _, (Option.some.inj hx).symm, h2, a2.1, a2.2, .inr (.inl ⟨_, rfl⟩)⟩)))
  | 5, hx => exact .inr (.inr (.inr (.inr ⟨d1, _, (Option.some.inj hx).symm, h3, a3.1, a3.2, .inr (.inr ⟨_, rfl⟩)⟩)))
  | 6, hx => exact .inr (.inr (.inr (.inr ⟨l2, _, (Option.some.inj hx).symm, h4, a4.1, a4.2, .inl ⟨_, rfl⟩⟩)))
  | 7, hx => exact .inr (.inr (.inr (.inl (Option.some.inj hx).symm)))
  | i + 8, hx => cases hx
theorem split_nil_sp : Txt.split "" " " = [("" : Str)] := by decide +kernel
theorem split_nil_nl : Txt.split "" "\n" = [("" : Str)] := by decide +kernel
theorem nil_bad {fl : List Str} (one : 1 ≤ fl.length) : ¬ GoodW fl (Txt.split "" " ") := by
  rw [split_nil_sp]
  intro ⟨_, h⟩
  have ip := h 0 fl[0] "" (List.getElem?_eq_getElem _) rfl
  have := congrArg tl ((part_iff _ _).mp ip).1
  rw [tl_headP] at this
  have l := congrArg List.length this
  rw [tl_ae, List.length_take] at l
  have : (tl "").length = 0 := by decide +kernel
  omega
theorem nil_pl (fl : List Str) : plOf fl (Txt.split "" "\n") = .inl 0 := by
  rw [split_nil_nl]
  rfl
theorem plOf_pl {ts : List (Str × Str)} {ws zs : List Str} (h : plOf (ts.map Prod.fst) ws = .inr zs) : ∀ z ∈ zs, Pl ts z := by
  unfold plOf at h
  cases e : ws.dropLast.findIdx? (badL (ts.map Prod.fst)) with
  | some i =>
    rw [e] at h
    cases h
  | none =>
    rw [e] at h
    rw [List.findIdx?_eq_none_iff] at e
    by_cases cd : ws.getLast? = some ("" : Str) ∧ 1 ≤ ws.dropLast.length ∧ ws.dropLast.length ≤ 60
    · have h2 := (if_pos cd).symm.trans h
      have := Sum.inr.inj h2
      intro z hz
      rw [← this] at hz
      obtain ⟨r, hr, rfl⟩ := List.mem_map.mp hz
      exact plc_pl (e r hr)
    · cases (if_neg cd).symm.trans h
/-- a dict of ints equals itself -/
theorem eqDK_tbl {l : List Str} {g : Str → Int} : eqDK (tblI l g) (tblI l g) = true := by
  unfold eqDK
  rw [Bool.and_eq_true, beq_iff_eq, List.all_eq_true]
  refine ⟨rfl, fun p hp => ?_⟩
  obtain ⟨i, hi⟩ := List.mem_iff_getElem?.mp hp
  obtain ⟨k, v⟩ := p
  obtain ⟨a, ha, rfl, rfl⟩ := tblI_at hi
  unfold rowEq
  rw [tblI_val (List.mem_of_getElem? ha)]
  show (g a == g a) = true
  exact beq_self_eq_true _
theorem flat_tbl {l : List Str} {g : Str → Int} : ∀ p ∈ tblI l g, flatV p.2 = true := fun p hp => by
  obtain ⟨i, hi⟩ := List.mem_iff_getElem?.mp hp
  obtain ⟨k, v⟩ := p
  obtain ⟨a, ha, rfl, rfl⟩ := tblI_at hi
  rfl
theorem eqv_lst {zs : List Str} (h : ∀ z ∈ zs, PyData.strOk z = true) : PyData.eqv (.list (zs.map PyData.str)) (.list (zs.map PyData.str)) = true := SeqAt.eqv_refl _ (strs_lay h).1
theorem pl_strOk {ts : List (Str × Str)} (o : TreeOk ts) {z : Str} (h : Pl ts z) : PyData.strOk z = true := by
  rcases h with rfl | h
  · exact strOk_root
  · exact strOk_name (o.nm z h)
/-- a number written -/
theorem str_int {n : Int} (h0 : 0 ≤ n) (h1 : n < 10 ^ 31) : (Str.ofString (toString n)).length ≤ 31 ∧ n.natAbs.log2 < 1920 := by
  obtain ⟨m, rfl⟩ : ∃ m : Nat, n = (m : Int) := ⟨n.toNat, by omega⟩
  have hm : m < 10 ^ 31 := by omega
  refine ⟨(nT_len hm).2, ?_⟩
  exact Nat.lt_trans (PySem.Flt.log2_lt_of (k := 200) (by decide) (by rw [Int.natAbs_natCast]; exact Nat.lt_trans hm (by decide))) (by decide)
end FT


/-! lists of pairs of a text and a value; dict(..) of them. -/
namespace FT
open PySem L2 TL ClX
/-- pairs (a, g a) at the addresses rs -/
def PrG (g : Str → V) (H : Hp) (rs : List Addr) (l : List Str) : Prop := Paired (fun (r : Addr) (a : Str) => H r = some (.tup [.str a, g a])) rs l
theorem PrG.imp {g : Str → V} {H H' : Hp} (m : ∀ r (a : Str), H r = some (.tup [.str a, g a]) → H' r = some (.tup [.str a, g a])) : ∀ {rs : List Addr} {l : List Str}, PrG g H rs l → PrG g H' rs l
  | _, _, .nil => .nil
  | _, _, .cons h t => .cons (m _ _ h) (PrG.imp m t)
theorem PrG.mono {g : Str → V} {H H' : Hp} {rs : List Addr} {l : List Str} (s : Same H H') (p : PrG g H rs l) : PrG g H' rs l := p.imp fun r a e => s _ _ e
theorem PrG.push {g : Str → V} {H : Hp} {rs : List Addr} {l : List Str} {D : Addr} {xs : List V} {o : HO} (e : H D = some (.lst xs)) (p : PrG g H rs l) : PrG g (upd H D o) rs l := p.imp fun r a q => by
  rw [upd_ne (ne_of q e (by intro z; cases z))]
  exact q
theorem PrG.len {g : Str → V} {H : Hp} : ∀ {rs : List Addr} {l : List Str}, PrG g H rs l → rs.length = l.length
  | _, _, .nil => rfl
  | _, _, .cons _ t => congrArg (· + 1) (PrG.len t)
theorem PrG.at_ {g : Str → V} {H : Hp} {rs : List Addr} {l : List Str} (p : PrG g H rs l) {i : Nat} {r : Addr} (h : rs[i]? = some r) : ∃ a, l[i]? = some a ∧ H r = some (.tup [.str a, g a]) := LiI.paired_get p h
/-- as dict(..) asks it -/
theorem PrG.kvs {K : PySem.W.Frag} {g : Str → V} {H : Hp} : ∀ {rs : List Addr} {l : List Str}, PrG g H rs l → Paired (fun (p : Addr) (kv : Key × V) => SqT K H p [kV kv.1, kv.2]) rs (kvT (l.map fun a => (a, g a)))
  | _, _, .nil => .nil
  | _, _, .cons h t => .cons (.inl (.inl h)) (PrG.kvs t)
/-- the place of an item -/
theorem idx_at {l : List Str} {i : Nat} {a : Str} (nd : l.Nodup) (h : l[i]? = some a) : l.idxOf a = i := by
  have m : a ∈ l := List.mem_of_getElem? h
  have lt := List.idxOf_lt_length_of_mem m
  have e : l[l.idxOf a]? = some a := by rw [List.getElem?_eq_getElem lt, List.getElem_idxOf lt]
  exact (List.getElem?_inj lt nd).mp (e.trans h.symm)
/-- a tree from the order of its making -/
theorem tree_of {t : List (Str × Str)} (h1 : 1 ≤ t.length) (h2 : t.length ≤ 12) (nd : (t.map Prod.fst).Nodup) (nm : ∀ z ∈ t.map Prod.fst, NameL z) (up : ∀ (i : Nat) (p : Str × Str), t[i]? = some p → p.2 = "" ∨ p.2 ∈ (t.map Prod.fst).take i) : TreeOk t := by
  refine ⟨h1, h2, nd, nm, fun a => (t.map Prod.fst).idxOf a, fun p hp => ?_⟩
  obtain ⟨i, hi⟩ := List.mem_iff_getElem?.mp hp
  have il := (List.getElem?_eq_some_iff.mp hi).1
  have hk : (t.map Prod.fst)[i]? = some p.1 := by rw [List.getElem?_map, hi] <;> rfl
  refine ⟨by show (t.map Prod.fst).idxOf p.1 < _; rw [idx_at nd hk]; exact il, (up i p hi).imp id fun m => ⟨List.mem_of_mem_take m, ?_⟩⟩
  show (t.map Prod.fst).idxOf p.2 < (t.map Prod.fst).idxOf p.1
  rw [idx_at nd hk]
  obtain ⟨j, hj⟩ := List.mem_iff_getElem?.mp m
  have jl := (List.getElem?_eq_some_iff.mp hj).1
  rw [List.length_take] at jl
  rw [List.getElem?_take, if_pos (by omega)] at hj
  rw [idx_at nd hj]
  omega
end FT


/-! family C: parents ahead of their children -/
namespace FT
open PySem L2 TL ClX
/-- parents stand ahead of their children -/
def Ahead (t : List (Str × Str)) : Prop := ∀ (i : Nat) (p : Str × Str), t[i]? = some p → p.2 = "" ∨ p.2 ∈ (t.map Prod.fst).take i
theorem TreeUp.ahead {t : List (Str × Str)} (u : TreeUp t) : Ahead t := fun i p h => by
  have := u.up i p h
  rw [List.map_take] at this
  exact this
theorem TreeUp.ok {t : List (Str × Str)} (u : TreeUp t) : TreeOk t := tree_of u.one u.few u.nd (fun z hz => (u.nm z hz).name) u.ahead
theorem Keep.at_ {d c p : Addr} {H H' : Hp} {u : HO} (k : Keep d c H H') (e : H p = some u) (n1 : p ≠ d) (n2 : p ≠ c) : H' p = some u := k p u n1 n2 e
end FT


/-! law_k51: the law -/
namespace FT
open PySem L2 TL ClX LiI LamX
/-- what it leans on -/
structure W51 (P : Program) (w : World) (K : PySem.W.Frag) (mg : Str → Option Value) (base : Heap) (CF CA CT : Addr) (mc mcA : Value) (f : Nat → Addr) (fd : Nat → FuncData) (pP gP : Addr) (dP : FuncData) : Prop where
  Z : Fc K mg CF mc
  B : Ac K mg CA mcA
  bg : Dn P w K mg base CX0 1 "_law_begin" ["_law_script"] (spBegin K) (f 0) (fd 0)
  dt : Dn P w K mg base CX0 1 "_law_draw" ["_law_state", "_law_many"] spDraw (f 1) (fd 1)
  dp : Dn P w K mg base CX0 2 "_law_pick" ["_law_state", "_law_some"] (spPick K) (f 2) (fd 2)
  tr : Dn P w K mg base CX0 4 "_law_tree" ["_law_state", "_law_many"] spTree (f 3) (fd 3)
  fi : FnOk P w K mg base CX0 3 (f 4) (fd 4) ["self", "parents"] (spFInit CF)
  fim : Mk K CF (f 4)
  fib : Binds K (fd 4) ["self", "parents"] []
  pl : Dn P w K mg base CX0 3 "_law_places" ["_law_state", "_law_tree_here", "_law_users"] spPlaces (f 5) (fd 5)
  be : Dn P w K mg base CX0 3 "_law_bent" ["_law_state", "_law_told", "_law_mark"] spBent (f 6) (fd 6)
  si : Dn P w K mg base CX0 1 "_law_sizes_in" ["_law_tree_here", "_law_told"] spSzIn (f 7) (fd 7)
  li : Dn P w K mg base CX0 1 "_law_places_in" ["_law_tree_here", "_law_told"] spPlIn (f 8) (fd 8)
  ps : Dn P w K mg base (L2.CX P w) 3 "parse_sizes" ["forest", "text"] (spParS K CF CT) (f 9) (fd 9)
  pa : Dn P w K mg base (L2.CX P w) 3 "parse_assignment" ["forest", "text"] (spParA K CF CA CT) (f 10) (fd 10)
  pP : PrN P w K mg base 1 CA "places" (spAPlaces CA) pP gP dP
def spLaw51 (K : PySem.W.Frag) (T : List (Addr × Str)) : Sp := fun vs H Q _ => ∃ (a : Addr) (ns : List Int), vs = [.ref a] ∧ SqL K H a (ns.map V.int) ∧ ns.length ≤ 63 ∧ Tabs T H ∧ ∀ H', Q (.bl true) H'
abbrev N51 : List Str := ["_law_script", "_law_state", "_law_turn", "_law_tree_here", "_law_numbers", "_law_spots", "_law_bend", "_law_due", "_law_line", "_law_odd", "_law_page", "_law_wood", "_law_flag", "_law_number", "_law_spot"]
section
variable {P : Program} {w : World} {K : PySem.W.Frag} {mg : Str → Option Value} {base : Heap}
theorem sc51 : FnScope N51 ["_law_script"] (defScope s_law) := ⟨rfl, rfl, rfl, by decide +kernel, rfl, by decide +kernel, by decide +kernel⟩
theorem ok_law51 {f0 fEr CF CA CT R co ta pP gP : Addr} {mc mcA : Value} {CC : Nat → Addr} {T : List (Addr × Str)} {f : Nat → Addr} {fd : Nat → FuncData} {fd0 fdEr dP : FuncData} (F : FunC K "law" "law" s_law f0 fd0 co) (N : Nm mg) (L : W51 P w K mg base CF CA CT mc mcA f fd pP gP dP)
    (GE : Ge K mg "_law_error" s__law_error fEr fdEr) (C : ClT K mg R CC) (eC : CC 7 = CT) (TB : TabB base mg co ta) (hmT : (ta, lamQ "law") ∈ T) (hut : ∀ p ∈ T, p.1 = ta → p.2 = lamQ "law") : FnG P w K mg base CX0 6 f0 fd0 ["_law_script"] (spLaw51 K T) := by
  refine F.okG sc51 (fun vs H Q E h => ?_) (fun A outer s H vs Q E clr hr h => ?_)
  · obtain ⟨a, ns, rfl, _⟩ := h
    rfl
  · obtain ⟨a, ns, rfl, hS, hlen, tT, k⟩ := h
    have hu := hu_of hr
    have hr1 : Room 1 _ := hr.mono (by decide)
    have hr2 : Room 2 _ := hr.mono (by decide)
    have hr3 : Room 3 _ := hr.mono (by decide)
    have hr4 : Room 4 _ := hr.mono (by decide)
    have nd := sc51.nd
    have big : 100000 ≤ sizeLine := by decide
    refine ⟨_, pss_cons (ps_set (i := 1) nd rfl (.inr rfl) (pe_call L.bg.ok hr1 rfl L.bg.mgn L.bg.kp L.bg.bn .nil pass0 (pa_cons (pv 0) pa_nil)))
      (pss_cons (ps_for PassesOwn.never rfl (pi_range1 (by rfl) N.rng (pa_cons pe_int pa_nil)) (pg_name (i := 2) nd rfl (.inl rfl))
        (pss_cons (ps_set (i := 3) nd rfl (.inl rfl) (pe_call L.tr.ok hr4 rfl L.tr.mgn L.tr.kp L.tr.bn .nil pass0 (pa_cons (pv 1) (pa_cons (pe_op op_add pe_int (pe_call L.dt.ok hr1 rfl L.dt.mgn L.dt.kp L.dt.bn .nil pass0 (pa_cons (pv 1) (pa_cons pe_int pa_nil)))) pa_nil))))
        (pss_cons (ps_set (i := 11) nd rfl (.inr rfl) (pe_make L.fim L.fi hr4 (by rfl) L.Z.gF L.fib .nil pass0 (pa_cons (pv 3) pa_nil)))
        (pss_cons (ps_lock (ps_setLc (i := 4) (own := [("_law_flag", 12)]) (g := gName 12) (tt := tYes) (te := tCall (spPick K) [] E0 (tCons (tVar 1) (tCons (tLst (tCons (tC (.int 0)) (tCons (tC (.int 7)) (tCons (tCall spDraw [] E0 (tCons (tVar 1) (tCons (tOp (rI CPow fun i j => .int (i ^ j.toNat)) (tC (.int 10)) (tC (.int 31))) tNil))) tNil)))) tNil))) rfl nd rfl rfl (sw_true rfl rfl rfl (by decide +kernel)) (pi_keys (pv 3))
            (blkOk_by (N := N51) (sc := defScope s_law) (by decide +kernel)) (fun _ _ _ _ _ => pg_name (i := 12) nd rfl (Or.inl rfl)) (fun _ _ _ _ _ => pts_nil)
            (fun _ _ _ _ _ => pe_call L.dp.ok hr2 rfl L.dp.mgn L.dp.kp L.dp.bn .nil pass0 (pa_cons (pv 1) (pa_cons (pe_lst (pa_cons pe_int (pa_cons pe_int (pa_cons (pe_call L.dt.ok hr1 rfl L.dt.mgn L.dt.kp L.dt.bn .nil pass0 (pa_cons (pv 1) (pa_cons (pe_op op_pow pe_int pe_int) pa_nil))) pa_nil)))) pa_nil)))))
        (pss_cons (ps_set (i := 8) nd rfl (.inr rfl) (pe_join pe_str (pe_lc (own := [("_law_flag", 12), ("_law_number", 13)]) (g := gTup K 2 (gCons (gName 12) (gCons (gName 13) gNil))) (tt := tYes) rfl nd (pi_zip (by rfl) N.zip (pa_cons (pe_callB (call_sortedD rfl) (by rfl) N.srt (by decide +kernel) (pa_cons (pv 3) pa_nil)) (pa_cons (pv 4) pa_nil)))
            (blkOk_by (N := N51) (sc := defScope s_law) (by decide +kernel)) (fun _ _ _ _ _ => pg_tup rfl (pgs_cons (pg_name (i := 12) nd rfl (Or.inl rfl)) (pgs_cons (pg_name (i := 13) nd rfl (Or.inl rfl)) pgs_nil))) (fun _ _ _ _ _ => pts_nil)
            (fun _ _ _ _ _ => pe_op op_add_str (pe_op op_add_str (pv 12) pe_str) (pe_callTy call_str_int (by rfl) N.str (by decide +kernel) (pa_cons (pv 13) pa_nil))))))
        (pss_cons (ps_set (i := 5) nd rfl (.inl rfl) (pe_call L.pl.ok hr3 rfl L.pl.mgn L.pl.kp L.pl.bn .nil pass0 (pa_cons (pv 1) (pa_cons (pv 3) (pa_cons (pe_call L.dp.ok hr2 rfl L.dp.mgn L.dp.kp L.dp.bn .nil pass0 (pa_cons (pv 1) (pa_cons (pe_lst (pa_cons pe_int (pa_cons pe_int (pa_cons pe_int (pa_cons pe_int (pa_cons pe_int
            (pa_cons (pe_op op_add pe_int (pe_call L.dt.ok hr1 rfl L.dt.mgn L.dt.kp L.dt.bn .nil pass0 (pa_cons (pv 1) (pa_cons pe_int pa_nil)))) pa_nil))))))) pa_nil))) pa_nil)))))
        (pss_cons (ps_set (i := 10) nd rfl (.inr rfl) (pe_join pe_str (pe_lc (own := [("_law_spot", 14)]) (g := gName 14) (tt := tYes) (te := tOp rAddS (tOp (rIxL K) (tLst (tCons (tC (.str "-")) (tCons (tVar 14) tNil))) (tCB (fun xs H Q => (∃ i, xs = [.int i] ∧ Q (.int i) H) ∨ ∃ k, xs = [.bl k] ∧ Q (.int (if k then 1 else 0)) H) (tCons (tOp rNe (tVar 14) (tC (.str ""))) tNil))) (tC (.str "\n"))) rfl nd (pi_list (pv 5))
            (blkOk_by (N := N51) (sc := defScope s_law) (by decide +kernel)) (fun _ _ _ _ _ => pg_name (i := 14) nd rfl (Or.inl rfl)) (fun _ _ _ _ _ => pts_nil)
            (fun _ _ _ _ _ => pe_op op_add_str (pe_ix ix_list (pe_lst (pa_cons pe_str (pa_cons (pv 14) pa_nil))) (pe_callTy call_int1 (by rfl) N.int (by decide +kernel) (pa_cons (pe_cmpR op_ne (pv 14) pe_str (nomark _)) pa_nil)) (fun _ _ => rfl)) pe_str))))
        (pss_cons (ps_for PassesOwn.never rfl (pi_range1 (by rfl) N.rng (pa_cons (pe_call L.dt.ok hr1 rfl L.dt.mgn L.dt.kp L.dt.bn .nil pass0 (pa_cons (pv 1) (pa_cons pe_int pa_nil))) pa_nil)) (pg_name (i := 6) nd rfl (.inl rfl))
          (pss_one (ps_asg (pe_tup (pa_cons (pe_call L.be.ok hr3 rfl L.be.mgn L.be.kp L.be.bn .nil pass0 (pa_cons (pv 1) (pa_cons (pv 8) (pa_cons pe_str pa_nil)))) (pa_cons (pe_call L.be.ok hr3 rfl L.be.mgn L.be.kp L.be.bn .nil pass0 (pa_cons (pv 1) (pa_cons (pv 10) (pa_cons pe_str pa_nil)))) pa_nil))) (pg_tup rfl (pgs_cons (pg_name (i := 8) nd rfl (.inr rfl)) (pgs_cons (pg_name (i := 10) nd rfl (.inr rfl)) pgs_nil))))))
        (pss_cons (ps_set (i := 7) nd rfl (.inl rfl) (pe_call L.si.ok hr1 rfl L.si.mgn L.si.kp L.si.bn .nil pass0 (pa_cons (pv 3) (pa_cons (pv 8) pa_nil))))
        (pss_cons (ps_if (PW.pt (pw_and (pt_cmpR op_isN (pv 7) pe_non (nomark _)) (pw_and1 (pt_cmpR (op_neD hr.units) (pe_lamS (T := T) (k := 3) (t := fun E => tCall (spParS K CF CT) [] E (tCons (tVar 11) (tCons (tVar 8) tNil))) rfl GE.mgn GE.fn GE.bn scEc rfl (.inl rfl) (fun cdg => errT_gives N C) TB rfl hmT hut hr (lamS_by (sc := defScope s_law) (by decide +kernel)) rfl (fun _ _ _ _ _ => rfl)
            (fun A outer s H E f c' hr2 => pe_call L.ps.ok (hr2.mono (by decide)) rfl L.ps.mgn L.ps.kp L.ps.bn .nil (passes_call (takes_of rfl rfl rfl rfl) (fun _ _ _ _ h => h)) (pa_cons (pv 11) (pa_cons (pv 8) pa_nil)))) (pe_tup (pa_cons pe_str (pa_cons pe_int pa_nil))) (nomark _))))) (pss_one (ps_ret pe_bl)) pss_nil)
        (pss_cons (ps_if (PW.pt (pw_and (pt_cmpR op_notN (pv 7) pe_non (nomark _)) (pw_and1 (pt_cmpR (op_ne_dictC (Nat.lt_of_le_of_lt (Nat.le_add_right _ 64) hr.units)) (pe_call (E := E0) L.ps.ok hr3 rfl L.ps.mgn L.ps.kp L.ps.bn .nil L2.passL (pa_cons (pv 11) (pa_cons (pv 8) pa_nil))) (pv 7) (nomark _))))) (pss_one (ps_ret pe_bl)) pss_nil)
        (pss_cons (ps_set (i := 7) nd rfl (.inl rfl) (pe_call L.li.ok hr1 rfl L.li.mgn L.li.kp L.li.bn .nil pass0 (pa_cons (pv 3) (pa_cons (pv 10) pa_nil))))
        (pss_cons (ps_if (PW.pt (pw_and (pt_val (pe_callB call_isi (by rfl) N.isi (by decide +kernel) (pa_cons (pv 7) (pa_cons (pe_bltn (v := .ty "int") (u := .type "int") (by rfl) N.int (by decide +kernel) rfl) pa_nil)))) (pw_and1 (pt_cmpR (op_neD hr.units) (pe_lamS (T := T) (k := 3) (t := fun E => tCall (spParA K CF CA CT) [] E (tCons (tVar 11) (tCons (tVar 10) tNil))) rfl GE.mgn GE.fn GE.bn scEc rfl (.inl rfl) (fun cdg => errT_gives N C) TB rfl hmT hut hr (lamS_by (sc := defScope s_law) (by decide +kernel)) rfl (fun _ _ _ _ _ => rfl)
            (fun A outer s H E f c' hr2 => pe_call L.pa.ok (hr2.mono (by decide)) rfl L.pa.mgn L.pa.kp L.pa.bn .nil (passes_call (takes_of rfl rfl rfl rfl) (fun _ _ _ _ h => h)) (pa_cons (pv 11) (pa_cons (pv 10) pa_nil)))) (pe_tup (pa_cons pe_str (pa_cons (pv 7) pa_nil))) (nomark _))))) (pss_one (ps_ret pe_bl)) pss_nil)
        (pss_cons (ps_if (PW.pt (pw_and (pt_val (pe_callB call_isi (by rfl) N.isi (by decide +kernel) (pa_cons (pv 7) (pa_cons (pe_bltn (v := .ty "list") (u := .type "list") (by rfl) N.lst (by decide +kernel) rfl) pa_nil)))) (pw_and1 (pt_cmpR (op_neD hr.units) (pe_prop (pe_call (E := E0) L.pa.ok hr3 rfl L.pa.mgn L.pa.kp L.pa.bn .nil L2.passL (pa_cons (pv 11) (pa_cons (pv 10) pa_nil))) L.B.cl L.pP.pr L.pP.fn hr2 L.pP.bn .nil pass0 (by rfl)) (pv 7) (nomark _))))) (pss_one (ps_ret pe_bl)) pss_nil)
        (pss_cons (ps_set (i := 9) nd rfl (.inr rfl) (pe_call L.dp.ok hr2 rfl L.dp.mgn L.dp.kp L.dp.bn .nil pass0 (pa_cons (pv 1) (pa_cons (pe_lst (pa_cons pe_non (pa_cons pe_int (pa_cons pe_bl (pa_cons (pe_lst (pa_cons (pv 8) pa_nil)) (pa_cons (pe_tup (pa_cons (pv 8) pa_nil)) (pa_cons pe_dnewK (pa_cons (pe_lst pa_nil) (pa_cons pe_str pa_nil))))))))) pa_nil))))
        (pss_cons (ps_if (pt_cmpR (op_neD hr.units) (pe_lamS (T := T) (k := 3) (t := fun E => tCall (spParS K CF CT) [] E (tCons (tVar 11) (tCons (tVar 9) tNil))) rfl GE.mgn GE.fn GE.bn scEc rfl (.inl rfl) (fun cdg => errT_gives N C) TB rfl hmT hut hr (lamS_by (sc := defScope s_law) (by decide +kernel)) rfl (fun _ _ _ _ _ => rfl)
            (fun A outer s H E f c' hr2 => pe_call L.ps.ok (hr2.mono (by decide)) rfl L.ps.mgn L.ps.kp L.ps.bn .nil (passes_call (takes_of rfl rfl rfl rfl) (fun _ _ _ _ h => h)) (pa_cons (pv 11) (pa_cons (pv 9) pa_nil)))) (pe_tup (pa_cons pe_str (pa_cons pe_int pa_nil))) (nomark _)) (pss_one (ps_ret pe_bl)) pss_nil)
        (pss_one (ps_if (pt_cmpR (op_neD hr.units) (pe_lamS (T := T) (k := 3) (t := fun E => tCall (spParA K CF CA CT) [] E (tCons (tVar 11) (tCons (tVar 9) tNil))) rfl GE.mgn GE.fn GE.bn scEc rfl (.inl rfl) (fun cdg => errT_gives N C) TB rfl hmT hut hr (lamS_by (sc := defScope s_law) (by decide +kernel)) rfl (fun _ _ _ _ _ => rfl)
            (fun A outer s H E f c' hr2 => pe_call L.pa.ok (hr2.mono (by decide)) rfl L.pa.mgn L.pa.kp L.pa.bn .nil (passes_call (takes_of rfl rfl rfl rfl) (fun _ _ _ _ h => h)) (pa_cons (pv 11) (pa_cons (pv 9) pa_nil)))) (pe_tup (pa_cons pe_str (pa_cons pe_int pa_nil))) (nomark _)) (pss_one (ps_ret pe_bl)) pss_nil))))))))))))))))))
      (pss_one (ps_ret pe_bl))), ?_⟩
    refine ⟨_, rfl, a, ns, rfl, hS, hlen, fun H0 d c s0 nd0 nc0 dr0 => ?_⟩
    have tT0 : Tabs T H0 := tT.ext s0
    refine ⟨4, rfl, by decide, by decide, ?_⟩
    refine for_it (walk_range (lo := 0) (n := (4 : Int).toNat)) (fun j σ' H' => (∃ u2 u3 u4 u5 u6 u7 u8 u9 u10 u11, σ' = [some (.ref a), some (.ref d), u2, u3, u4, u5, u6, u7, u8, u9, u10, u11, none, none, none]) ∧ DrawAt H' d c ∧ Tabs T H') ⟨⟨_, _, _, _, _, _, _, _, _, _, rfl⟩, dr0, tT0⟩ (fun _ _ _ _ _ => trivial) ?_ (fun σ' H' _ => k H')
    intro jj xj σ' Ha Hb hj ⟨⟨u2, u3, u4, u5, u6, u7, u8, u9, u10, u11, e⟩, dr, tb⟩ ⟨ea, eb⟩
    subst e
    subst ea
    subst eb
    clear hj k
    -- tree, forest
    refine ⟨_, rfl, _, rfl, d, c, 12, rfl, dr, by decide, by decide, fun k1 H1 k10 k11 dr1 kp1 => ⟨_, _, rfl, rfl, ?_⟩⟩
    refine ⟨d, c, (1 + k1).toNat, by rw [Int.toNat_of_nonneg (by omega)] <;> rfl, dr1, by omega, by omega, fun q t H2 up lt nq hq dr2 kp2 => ?_⟩
    have ok := up.ok
    have few := ok.few
    have one := ok.one
    have tb2 : Tabs T H2 := fun p hp => by
      have off : ∀ {b : Addr} {o : HO}, H1 b = some o → (∀ xs, o ≠ .lst xs) → H2 b = some o := fun {b o} e n => kp2 b o (dr1.notD5 e n).1 (dr1.notD5 e n).2 e
      have off1 : ∀ {b : Addr} {o : HO}, Hb b = some o → (∀ xs, o ≠ .lst xs) → H1 b = some o := fun {b o} e n => kp1 b o (dr.notD5 e n).1 (dr.notD5 e n).2 e
      obtain ⟨ps, e1, e2, e3⟩ := tb p hp
      refine ⟨ps, off (off1 e1 (fun xs z => nomatch z)) (fun xs z => nomatch z), e2, fun pos cv hc => ?_⟩
      obtain ⟨c', q1, q2⟩ := e3 pos cv hc
      exact ⟨c', q1, off (off1 q2 (fun xs z => by unfold CodeO at z; cases z)) (fun xs z => by unfold CodeO at z; cases z)⟩
    refine ⟨_, rfl, fun x dx nx ndx ndxx => ⟨x, q, dx, t, rfl, upd_same, by rw [upd_ne (ne_of_none hq nx), upd_ne (ne_of_none hq ndx)]; exact hq, ok, fun H3 ts pts asc fa oth => ⟨rfl, ?_⟩⟩⟩
    have s23 : Same H2 H3 := fun b o e => oth b o (ne_of_none e nx) (by rw [upd_ne (ne_of_none e nx), upd_ne (ne_of_none e ndx)]; exact e)
    have S3 : S51 T CF d c q x t ts H3 := ⟨dr2.mono s23, tb2.ext s23, s23 _ _ hq, fa⟩
    have pfl : (ts.map Prod.fst).Perm (t.map Prod.fst) := pts.map _
    have o1 : TreeOk ts := ok.perm pts.symm
    have qd := S3.dr.notD5 S3.hq (fun xs z => nomatch z)
    show gName 11 (V.ref x) [some (.ref a), some (.ref d), some (.int (0 + (jj : Int))), some (.ref q), u4, u5, u6, u7, u8, u9, u10, u11, none, none, none] H3 _
    clear dr dr1 tb tb2 kp1 kp2 dr2 fa
    -- numbers
    refine ⟨q, _, S3.hq, trivial, fun od => ⟨_, rfl, q, od, rfl, .inl ⟨_, upd_same, fun D nD => ?_⟩⟩⟩
    obtain ⟨H4, e4⟩ : ∃ X, X = upd H3 q (.frz od (.dK (prs t))) := ⟨_, rfl⟩
    have hq4 : H4 q = some (.frz od (.dK (prs t))) := by rw [e4, upd_same]
    have dr4 : DrawAt H4 d c := by rw [e4]; exact S3.dr.off qd.1 qd.2
    rw [← e4] at nD ⊢
    have Dd := dr4.apart nD
    have Dq : D ≠ q := (ne_of_none hq4 nD).symm
    refine lc_it walk_keys (fun i H' => DrawAt H' d c ∧ Keep d c H4 H' ∧ ∃ ms : List Int, H' D = some (.lst (ms.map V.int)) ∧ ms.length = i ∧ ∀ m ∈ ms, 0 ≤ m ∧ m < 10 ^ 31) ⟨dr4.off Dd.1 Dd.2, Keep.refl.put nD, [], upd_same, rfl, fun m h => by cases h⟩ (fun i H' _ z => z.2.1 _ _ qd.1 qd.2 hq4) ?_ ?_
    · intro i y Hc Hd hi ⟨da, ka, ms, eD, lm, bm⟩ ⟨e, k', v', hk, ex⟩
      subst e
      subst ex
      have ph : ∃ a p : Str, k' = Sum.inr a := by
        unfold prs kvT at hk
        rw [List.map_map, List.getElem?_map] at hk
        obtain ⟨⟨a, p⟩, hp, e⟩ := Option.map_eq_some_iff.mp hk
        cases e
        exact ⟨a, p, rfl⟩
      obtain ⟨fa, _, rfl⟩ := ph
      refine ⟨rfl, ?_⟩
      refine ⟨_, rfl, _, rfl, 10, 31, rfl, rfl, ⟨by decide, by decide, by decide⟩, d, c, _, rfl, da, by decide, by decide, fun m1 He m10 m11 de ke => ⟨by show 3 ≤ sizeLine; omega, fun p1 np1 => ?_⟩⟩
      have p1d := de.apart np1
      have s5 := same_new (o := .lst (([0, 7, m1] : List Int).map V.int)) np1
      refine ⟨d, c, _, 3, (fun _ x => ∃ z, x = .int z ∧ z ∈ ([0, 7, m1] : List Int)), rfl, de.mono s5, .inl ⟨p1, ([0, 7, m1] : List Int).map V.int, rfl, p1d.1, p1d.2, upd_same, rfl, items_ints (fun z hz => hz)⟩, by decide, by decide, fun i' x' Hf xm df kf => ?_⟩
      obtain ⟨z, rfl, hz⟩ := xm
      have zb : 0 ≤ z ∧ z < 10 ^ 31 := by
        have m11' : m1 < 10 ^ 31 := m11
        simp only [List.mem_cons, List.not_mem_nil, or_false] at hz
        rcases hz with rfl | rfl | rfl
        · exact ⟨by decide, by decide⟩
        · exact ⟨by decide, by decide⟩
        · exact ⟨m10, m11'⟩
      have kk := (ke.trans (Keep.of_same s5)).trans kf
      rw [prs_len] at hi
      refine ⟨_, kk _ _ Dd.1 Dd.2 eD, by rw [List.length_map, lm]; omega, df.off Dd.1 Dd.2, (ka.trans kk).put nD, ms ++ [z], by rw [upd_same, List.map_append] <;> rfl, by rw [List.length_append, lm] <;> rfl, fun m hm => ?_⟩
      rcases List.mem_append.mp hm with h | h
      · exact bm m h
      · rw [List.mem_singleton.mp h]
        exact zb
    intro H5 ⟨dr5, k45, ms, hD5, lms, bms⟩
    rw [prs_len] at lms
    refine ⟨k45 _ _ qd.1 qd.2 hq4, ?_⟩
    obtain ⟨H6, e6⟩ : ∃ X, X = upd H5 q (.dK (prs t)) := ⟨_, rfl⟩
    have dr6 : DrawAt H6 d c := by rw [e6]; exact dr5.off qd.1 qd.2
    have k36 : Keep d c H3 H6 := fun b o b1 b2 e => by
      by_cases z : b = q
      · subst z
        rw [S3.hq] at e
        rw [e6, upd_same]
        exact e
      · rw [e6, upd_ne z]
        exact k45 b o b1 b2 (by rw [e4, upd_ne z]; exact e)
    have S6 := S3.keep dr6 k36
    have hD6 : H6 D = some (.lst (ms.map V.int)) := by rw [e6, upd_ne Dq]; exact hD5
    rw [← e6]
    show (_ : St → Hp → Prop) [some (.ref a), some (.ref d), some (.int (0 + (jj : Int))), some (.ref q), some (.ref D), u5, u6, u7, u8, u9, u10, some (.ref x), none, none, none] H6
    clear k45 dr5 hD5 hq4 e4 dr4 nD k36 S3
    -- line
    obtain ⟨fl, efl⟩ : ∃ fl, fl = ts.map Prod.fst := ⟨_, rfl⟩
    have lfl : fl.length = t.length := by rw [efl, List.length_map, pts.length_eq]
    refine ⟨⟨_, rfl⟩, _, rfl, q, prs t, t.map Prod.fst, rfl, .inl S6.hq, prs_keys t, by rw [List.length_map]; omega, fun ks p perm srt np => ?_⟩
    have eks : ks = fl := sorted_one (perm.trans (by rw [efl]; exact pfl.symm)) srt (by rw [efl]; exact asc)
    subst eks
    have s67 := same_new (o := .lst (ks.map V.str)) np
    obtain ⟨H7, e7⟩ : ∃ X, X = upd H6 p (.lst (ks.map V.str)) := ⟨_, rfl⟩
    have at7 : H7 p = some (.lst (ks.map V.str)) := by rw [e7]; exact upd_same
    rw [← e7] at s67 ⊢
    have hD7 := s67 _ _ hD6
    refine ⟨_, rfl, p, D, _, _, rfl, SqL.of at7, SqL.of hD7, fun D2 nD2 => ?_⟩
    have lks : ks.length = ms.length := by rw [lfl, lms]
    refine lc_it (walk_zip (n := ks.length) (by rw [List.length_map, List.length_map, lks, Nat.min_self])) (fun i H' => Same H7 H' ∧ ∃ ys : List Str, H' D2 = some (.lst (ys.map V.str)) ∧ ys.length = i ∧ wgt ys ≤ i * 41) ⟨same_new nD2, [], upd_same, rfl, Nat.zero_le _⟩ (fun i H' _ z => ⟨SqL.of (z.1 _ _ at7), SqL.of (z.1 _ _ hD7)⟩) ?_ ?_
    · intro i TT Hx He hi ⟨z1, ys, hDx, lys, wys⟩ ⟨T', xa, xb, eT, nT, eH, ex, ey⟩
      subst eT
      subst eH
      obtain ⟨fa, hfa, rfl⟩ := map_of (f := V.str) (l := ks) ex
      obtain ⟨m, hm, rfl⟩ := map_of (f := V.int) (l := ms) ey
      have mfa : fa ∈ t.map Prod.fst := perm.mem_iff.mp (List.mem_of_getElem? hfa)
      have la := (ok.nm fa mfa).len
      obtain ⟨b0, b1⟩ := bms m (List.mem_of_getElem? hm)
      obtain ⟨l31, lg⟩ := str_int b0 b1
      have sT : Same Hx (upd Hx T' (.tup [.str fa, .int m])) := same_new nT
      refine ⟨T', _, rfl, .inl (.inl upd_same), rfl, _, _, rfl, _, _, rfl, rfl, rfl, ?_⟩
      have l1 : (fa ++ "=").length = fa.length + 1 := by rw [Str.length_append] <;> rfl
      refine ⟨_, rfl, _, _, rfl, rfl, by show fa.length + 1 ≤ sizeLine; omega, _, rfl, m, rfl, lg, _, _, rfl, rfl, by rw [l1]; show fa.length + 1 + (Str.ofString (toString m)).length ≤ sizeLine; omega, ?_⟩
      refine ⟨_, sT _ _ hDx, by rw [List.length_map, lys]; omega, (z1.trans sT).put nD2, ys ++ [fa ++ "=" ++ Str.ofString (toString m)], by rw [upd_same, List.map_append] <;> rfl, by rw [List.length_append, lys] <;> rfl, ?_⟩
      rw [wgt_app, wgt_cons, Str.length_append, l1]
      show wgt ys + (fa.length + 1 + (Str.ofString (toString m)).length + 1 + 0) ≤ (i + 1) * 41
      rw [Nat.succ_mul]
      omega
    intro H8 ⟨s78, ys, hD8, lys, wys⟩
    obtain ⟨line, eline⟩ : ∃ line, line = Txt.join " " ys := ⟨_, rfl⟩
    have lline : line.length ≤ 700 := by
      rw [eline]
      have := join_wgt_le " " rfl ys
      omega
    have sumy := wgt_sum ys
    refine ⟨_, D2, ys, rfl, rfl, .inl (SqL.of hD8), by show _ + ys.length * 1 ≤ 16777216; omega, ?_⟩
    rw [← eline]
    have S8 := S6.same (s67.trans s78)
    show gName 8 (V.str line) [some (.ref a), some (.ref d), some (.int (0 + (jj : Int))), some (.ref q), some (.ref D), u5, u6, u7, u8, u9, u10, some (.ref x), none, none, none] H8 _
    -- places
    refine ⟨_, rfl, _, rfl, _, rfl, _, rfl, d, c, 62, rfl, S8.dr, by decide, by decide, fun z H9 z0 z62 dr9 k9 => ⟨_, _, rfl, rfl, by show 6 ≤ sizeLine; omega, fun pz nz => ?_⟩⟩
    have S9 := S8.keep dr9 k9
    have pzd := dr9.apart nz
    have sz := same_new (o := .lst (([1, 2, 59, 60, 61, 1 + z] : List Int).map V.int)) nz
    refine ⟨d, c, _, 6, (fun _ x => ∃ n : Nat, x = .int (n : Int) ∧ n ≤ 62), rfl, dr9.mono sz, .inl ⟨pz, ([1, 2, 59, 60, 61, 1 + z] : List Int).map V.int, rfl, pzd.1, pzd.2, upd_same, rfl, fun i x hx => ?_⟩, by decide, by decide, fun i xn H10 px dr10 k10 => ?_⟩
    · have fit : ∀ v : Int, 0 ≤ v → v ≤ 62 → ∃ n : Nat, V.int v = .int (n : Int) ∧ n ≤ 62 := fun v h0 h1 => ⟨v.toNat, by rw [Int.toNat_of_nonneg (by omega)], by omega⟩
      have hmem := List.mem_of_getElem? hx
      simp only [List.map_cons, List.map_nil, List.mem_cons, List.not_mem_nil, or_false] at hmem
      rcases hmem with rfl | rfl | rfl | rfl | rfl | rfl
      · exact fit _ (by decide) (by decide)
      · exact fit _ (by decide) (by decide)
      · exact fit _ (by decide) (by decide)
      · exact fit _ (by decide) (by decide)
      · exact fit _ (by decide) (by decide)
      · exact fit _ (by omega) (by omega)
    obtain ⟨n, rfl, n62⟩ := px
    have S10 := (S9.same sz).keep dr10 k10
    refine ⟨d, c, q, n, t, rfl, dr10, S10.hq, few, by omega, fun l zs H11 lz mz nl hl dr11 k11 => ?_⟩
    have S11 := S10.keep dr11 k11
    -- page
    refine ⟨⟨_, rfl⟩, _, rfl, l, rfl, ⟨_, SqL.of hl⟩, fun D5 nD5 => ?_⟩
    refine lc_it walk_list (fun i H' => Same H11 H' ∧ ∃ ys : List Str, H' D5 = some (.lst (ys.map V.str)) ∧ ys.length = i ∧ wgt ys ≤ i * 10) ⟨same_new nD5, [], upd_same, rfl, Nat.zero_le _⟩ (fun i H' _ z => SqL.of (z.1 _ _ hl)) ?_ ?_
    · intro i v Hc Hd hi ⟨q1, ys2, hDc, lys2, wys2⟩ ⟨eb, ex⟩
      subst eb
      obtain ⟨b, hb, rfl⟩ := map_of ex
      have lb : b.length ≤ 8 := by
        rcases mz b (List.mem_of_getElem? hb) with rfl | h
        · decide
        · exact (ok.nm b h).len.2
      rw [List.length_map] at hi
      refine ⟨rfl, ?_⟩
      have ln_at : ∃ y : Str, atI [V.str "-", V.str b] (if (!decide (V.str b = V.str "")) = true then 1 else 0) = some (.str y) ∧ y.length ≤ 8 := by
        by_cases e : b = ""
        · exact ⟨"-", by rw [decide_eq_true (show V.str b = V.str "" by rw [e])] <;> rfl, by decide⟩
        · exact ⟨b, by rw [decide_eq_false (show ¬ V.str b = V.str "" from fun z => e (V.str.inj z))] <;> rfl, lb⟩
      obtain ⟨yb, hyb, lyb⟩ := ln_at
      refine ⟨_, rfl, by show 2 ≤ sizeLine; omega, fun pq npq => ⟨_, rfl, rfl, .inr ⟨_, rfl, pq, _, _, .str yb, rfl, rfl, SqL.of upd_same, hyb, _, _, rfl, rfl, ?_, ?_⟩⟩⟩
      · show yb.length + 1 ≤ sizeLine
        omega
      · have sq := same_new (o := .lst [.str "-", .str b]) npq
        refine ⟨_, sq _ _ hDc, by rw [List.length_map, lys2]; omega, (q1.trans sq).put nD5, ys2 ++ [yb ++ "\n"], by rw [upd_same, List.map_append] <;> rfl, by rw [List.length_append, lys2] <;> rfl, ?_⟩
        rw [wgt_app, wgt_cons, Str.length_append]
        show wgt ys2 + (yb.length + 1 + 1 + 0) ≤ (i + 1) * 10
        rw [Nat.succ_mul]
        omega
    intro H12 ⟨s1112, ys2, hD12, lys2, wys2⟩
    rw [List.length_map] at lys2 wys2
    obtain ⟨page, epage⟩ : ∃ page, page = Txt.join "" ys2 := ⟨_, rfl⟩
    have sumy2 := wgt_sum ys2
    have lpage : page.length ≤ 700 := by
      rw [epage, join_eq]
      have := StrLaws.join_length_le "" ys2
      have l0 : ("" : Str).length = 0 := rfl
      rw [l0] at this
      omega
    refine ⟨_, D5, ys2, rfl, rfl, .inl (SqL.of hD12), by show _ + ys2.length * 0 ≤ 16777216; omega, ?_⟩
    rw [← epage]
    have S12 := S11.same s1112
    show gName 10 (V.str page) [some (.ref a), some (.ref d), some (.int (0 + (jj : Int))), some (.ref q), some (.ref D), some (.ref l), u6, u7, some (.str line), u9, u10, some (.ref x), none, none, none] H12 _
    clear S11 S10 S9 S8 S6 k9 k10 k11 dr9 dr10 dr11 eline epage sumy sumy2 wys wys2 hD12 hD8 lys lys2
    -- bent
    refine ⟨_, rfl, d, c, 3, rfl, S12.dr, by decide, by decide, fun bn H13 bn0 bn3 dr13 k13 => ⟨_, rfl, by omega, by omega, ?_⟩⟩
    have S13 := S12.keep dr13 k13
    refine for_it (walk_range (lo := 0) (n := bn.toNat)) (fun j σ' H' => (∃ u6 line page, σ' = [some (.ref a), some (.ref d), some (.int (0 + (jj : Int))), some (.ref q), some (.ref D), some (.ref l), u6, u7, some (.str line), u9, some (.str page), some (.ref x), none, none, none] ∧ (j = 0 → line.length ≤ 700 ∧ page.length ≤ 700) ∧ (j = 1 → line.length ≤ 2160 ∧ page.length ≤ 2160) ∧ (j = 2 → line.length ≤ 6540 ∧ page.length ≤ 6540)) ∧ S51 T CF d c q x t ts H') ⟨⟨_, _, _, rfl, fun _ => ⟨lline, lpage⟩, fun h => (nomatch h), fun h => (nomatch h)⟩, S13⟩ (fun _ _ _ _ _ => trivial) ?_ ?_
    · intro j xv σ' Hc Hd hj ⟨⟨u6', ln, pg, e, h0, h1, h2⟩, Sc⟩ ⟨eb, ex⟩
      subst e
      subst eb
      subst ex
      have bl : ln.length ≤ 3000 ∧ pg.length ≤ 3000 := by
        have : j = 0 ∨ j = 1 := by omega
        rcases this with e | e
        · have := h0 e
          omega
        · have := h1 e
          omega
      refine ⟨_, rfl, _, rfl, d, c, ln, " ", rfl, Sc.dr, rfl, bl.1, fun ln2 He lln2 dre ke => ?_⟩
      have Se := Sc.keep dre ke
      refine ⟨_, rfl, _, rfl, d, c, pg, "\n", rfl, dre, rfl, bl.2, fun pg2 Hf lpg2 drf kf => ⟨by show 2 ≤ sizeLine; omega, fun tp ntp => ?_⟩⟩
      have Sf := Se.keep drf kf
      refine ⟨tp, _, rfl, .inl (.inl upd_same), rfl, _, _, rfl, _, _, rfl, rfl, ⟨_, _, _, rfl, fun h => (nomatch h), fun h => ?_, fun h => ?_⟩, Sf.same (same_new ntp)⟩
      · have := h0 (by omega)
        omega
      · have := h1 (by omega)
        omega
    intro σ' H14 ⟨⟨u6', ln, pg, e, h0, h1, h2⟩, S14⟩
    subst e
    have ll : ln.length ≤ 10000 ∧ pg.length ≤ 10000 := by
      have : bn.toNat = 0 ∨ bn.toNat = 1 ∨ bn.toNat = 2 := by omega
      rcases this with e | e | e
      · have := h0 e
        omega
      · have := h1 e
        omega
      · have := h2 e
        omega
    clear h0 h1 h2 S13 S12 k13 dr13
    -- the sizes
    refine ⟨_, rfl, _, rfl, q, t, ts, ln, rfl, S14.hq, ok, pts, asc, ll.1, fun good p H15 s15 np hp => ?_, fun bad H15 s15 => ?_⟩
    all_goals
      have S15 := S14.same s15
      first
        | (refine ⟨_, rfl, rfl, _, rfl, ?_⟩
           rw [decide_eq_false (show ¬ V.ref p = V.non from fun e => nomatch e)]
           refine iteF ?_
           refine iteF ?_
           refine ⟨_, rfl, rfl, _, rfl, ?_⟩
           rw [decide_eq_false (show ¬ V.ref p = V.non from fun e => nomatch e)]
           show if true = true then _ else _
           rw [if_pos rfl]
           refine ⟨_, rfl, _, rfl, x, ts, .str ln, rfl, S15.fa, o1, .inl ⟨ln, rfl, ll.1, fun _ p2 H16 s16 np2 hp2 => ?_, fun b => absurd good b⟩⟩
           have S16 := S15.same s16
           refine ⟨_, rfl, p2, p, _, _, rfl, rfl, hp2, s16 _ _ hp, flat_tbl, flat_tbl, _, rfl, ?_⟩
           rw [eqDK_tbl]
           refine iteF ?_)
        | (refine ⟨_, rfl, rfl, _, rfl, ?_⟩
           rw [decide_eq_true (show V.non = V.non from rfl)]
           show if true = true then _ else _
           rw [if_pos rfl]
           refine chk_txt eC S15.tb (fun H' Q' h => h) (fun H2 e2 t2 E' Q' out => ⟨_, rfl, _, rfl, x, ts, .str ln, rfl, (S15.ext e2 t2).fa, o1, .inl ⟨ln, rfl, ll.1, fun g => absurd g bad, fun _ => out⟩⟩) (fun H2 H16 e2 t2 s16 => iteF ?_)
           have S16 := (S15.ext e2 t2).same s16
           refine ⟨_, rfl, rfl, _, rfl, ?_⟩
           rw [decide_eq_true (show V.non = V.non from rfl)]
           refine iteF ?_
           refine iteF ?_)
      -- the places
      refine ⟨_, rfl, _, rfl, q, t, ts, pg, rfl, S16.hq, ok, pts, ll.2, fun i ei H17 s17 => ?_, fun zs2 ei p3 H17 s17 np3 hp3 => ?_⟩
    all_goals
      have S17 := S16.same s17
      first
        | (refine ⟨_, rfl, .int (i : Nat), _, _, _, true, rfl, .ty _, .base (.int _), kit_ty (by decide +kernel), true, rfl, ?_⟩
           show if true = true then _ else _
           rw [if_pos rfl]
           refine chk_txt eC S17.tb (fun H' Q' h => ⟨_, rfl, h⟩) (fun H2 e2 t2 E' Q' out => ⟨_, rfl, _, rfl, x, ts, .str pg, rfl, (S17.ext e2 t2).fa, o1, .inl ⟨pg, rfl, ll.2, fun i' e' => ?_, fun zs' e' => nomatch e'.symm.trans ei⟩⟩) (fun H2 H18 e2 t2 s18 => iteF ?_)
           · cases e'.symm.trans ei
             exact out
           have S18 := (S17.ext e2 t2).same s18
           refine ⟨_, rfl, .int (i : Nat), _, _, _, false, rfl, .ty _, .base (.int _), kit_ty (by decide +kernel), false, rfl, iteF (iteF ?_)⟩)
        | (refine ⟨_, rfl, .ref p3, _, _, _, false, rfl, .ty _, .base (.lst hp3), kit_ty (by decide +kernel), false, rfl, iteF (iteF ?_)⟩
           refine ⟨_, rfl, .ref p3, _, _, _, true, rfl, .ty _, .base (.lst hp3), kit_ty (by decide +kernel), true, rfl, ?_⟩
           show if true = true then _ else _
           rw [if_pos rfl]
           refine ⟨_, rfl, _, rfl, x, ts, .str pg, rfl, S17.fa, o1, .inl ⟨pg, rfl, ll.2, fun i' e' => (nomatch e'.symm.trans ei), fun zs' e' y H18 s18 ny aa => ?_⟩⟩
           cases e'.symm.trans ei
           obtain ⟨dy, pp, hy, hpp⟩ := id aa
           have plz : ∀ z ∈ zs2, PyData.strOk z = true := fun z hz => pl_strOk o1 (plOf_pl ei z hz)
           refine ⟨y, dy, _, rfl, hy, y, x, zs2, rfl, aa, fun p4 np4 => ?_⟩
           have s19 := same_new (o := .lst (zs2.map V.str)) np4
           refine ⟨_, rfl, .list (zs2.map PyData.str), .list (zs2.map PyData.str), .lst (SqL.of upd_same) (dps_strs zs2), .lst (SqL.of (s19 _ _ (s18 _ _ hp3))) (dps_strs zs2), strs_shaped plz, strs_shaped plz, _, rfl, ?_⟩
           rw [eqv_lst plz]
           refine iteF ?_
           have S18 := (S17.same s18).same s19)
      -- odd values
      refine ⟨_, rfl, _, rfl, by show 1 ≤ sizeLine; omega, fun l1 nl1 => ⟨_, rfl, by show 1 ≤ sizeLine; omega, fun t1 nt1 d1 nd1 => ⟨by show 0 ≤ sizeLine; omega, fun l2 nl2 => ⟨by show 8 ≤ sizeLine; omega, fun po npo => odd51 S18.dr nl1 nt1 nd1 nl2 npo fun ov H20 od dr20 k20 => ?_⟩⟩⟩⟩
      have S20 := S18.keep dr20 k20
      have oneT : 1 ≤ (ts.map Prod.fst).length := by rw [List.length_map, pts.length_eq]; exact one
      refine chk_txt eC S20.tb (fun H' Q' h => h) (fun H2 e2 t2 E' Q' out => ⟨_, rfl, _, rfl, x, ts, ov, rfl, (S20.ext e2 t2).fa, o1, ?_⟩) (fun H2 H21 e2 t2 s21 => iteF ?_)
      · rcases (od.ext e2).no (K := K) with rfl | no
        · exact .inl ⟨"", rfl, by decide, fun g => absurd g (nil_bad oneT), fun _ => out⟩
        · exact .inr ⟨no, out⟩
      have S21 := (S20.ext e2 t2).same s21
      have od21 := (od.ext e2).keep (Keep.of_same s21)
      refine chk_txt eC S21.tb (fun H' Q' h => h) (fun H3 e3 t3 E' Q' out => ⟨_, rfl, _, rfl, x, ts, ov, rfl, (S21.ext e3 t3).fa, o1, ?_⟩) (fun H3 H22 e3 t3 s22 => iteF ?_)
      · rcases (od21.ext e3).no (K := K) with rfl | no
        · exact .inl ⟨"", rfl, by decide, fun i' e' => (by cases e'.symm.trans (nil_pl _); exact out), fun zs' e' => nomatch e'.symm.trans (nil_pl _)⟩
        · exact .inr ⟨no, out⟩
      have S22 := (S21.ext e3 t3).same s22
      exact ⟨⟨_, _, _, _, _, _, _, _, _, _, rfl⟩, S22.dr, S22.tb⟩
end
end FT


/-! Own: C.m(..) where m is a staticmethod of the class. -/
namespace L2
open PySem PySem.Spec PyProof.Rows
/-- C.m is a staticmethod: its record at p, its def at f -/
structure SMet (K : PySem.W.Frag) (C : Addr) (mc : Value) (m : Str) (p f : Addr) : Prop where
  at_ : PySem.W.findCls K (.ref C) mc m = some (.get (.builtin "staticmethod.__get__") (.ref p) .none (.ref C))
  rc : ∃ rest, PySem.W.recIn K p "staticmethod" = some (.ref f :: rest)
def tSMeth (C : Addr) (sp : Sp) (dvs : List V) (E : XK) (ta : TE) (t : TA) : TE := fun σ H Q => ta σ H fun x H1 => x = .ref C ∧ t σ H1 fun vs H2 => sp (vs ++ dvs) H2 Q E
section
variable {X : Cx} {CX : CXT} {k : Nat} {C p f : Addr} {mc : Value} {fd : FuncData} {ps : List Str} {sp : Sp} {dvs : List V} {ds : List Value} {E : XK} {o e : Expr} {es : List Expr} {m : Str} {pos apos : Pos} {ta : TE} {t : TA} {pl : Sem Bool}
end
end L2


/-! what the module's top says of classes, of defs: the form that the row's end asks for. -/
namespace FT
open PySem L2 TL ClX
abbrev exTail : List Value := [.type "ValueError", .type "Exception", .type "BaseException", .type "object"]
/-- an own class at C, its chain behind it -/
def ClsAt (K : PySem.W.Frag) (C : Addr) (bm : List Value) : Prop := ∃ nm q N bs sn sub ab col dd k0 k1 k2 k3 k5, K.lookup C = some (excClassObj nm q C N bs bm true sn sub ab col dd k0 k1 k2 k3 k5 "ValueError.__new__")
section
variable {K : PySem.W.Frag} {C : Addr} {bm : List Value}
theorem ClsAt.cls (h : ClsAt K C bm) : ∃ cd : ClassData, PySem.W.clsIn K C = some cd ∧ cd.mro = .ref C :: bm ∧ cd.hasDict = true := by
  obtain ⟨nm, q, N, bs, sn, sub, ab, col, dd, k0, k1, k2, k3, k5, e⟩ := h
  refine ⟨{ name := nm, bases := bs, mro := .ref C :: bm, ns := N, qualname := q, hasDict := true, slotNames := sn, subclasses := sub, abstract := ab, collection := col }, ?_, rfl, rfl⟩
  unfold PySem.W.clsIn
  rw [e]
theorem ClsAt.ty (h : ClsAt K C bm) : PySem.W.typeIn K (.ref C) = some (.type "type") := by
  obtain ⟨nm, q, N, bs, sn, sub, ab, col, dd, k0, k1, k2, k3, k5, e⟩ := h
  show (K.lookup C).map (·.cls) = _
  rw [e] <;> rfl
theorem ClsAt.mroIs (h : ClsAt K C bm) (b : Value) : PySem.W.mroIn K C b = some ((Value.ref C :: bm).contains b) := by
  obtain ⟨cd, e1, e2, _⟩ := h.cls
  unfold PySem.W.mroIn
  rw [e1]
  show (if cd.mro.isEmpty then none else some (cd.mro.contains b)) = _
  rw [e2] <;> rfl
theorem ClsAt.sub (h : ClsAt K C bm) (b : Value) : PySem.W.subIn K (.ref C) b = some ((Value.ref C :: bm).contains b) := h.mroIs b
theorem ClsAt.hd (h : ClsAt K C bm) : PySem.W.hasDictIn K C = true := by
  obtain ⟨cd, e1, _, e3⟩ := h.cls
  show (PySem.W.clsIn K C).any (·.hasDict) = true
  rw [e1]
  exact e3
theorem ClsAt.isC (h : ClsAt K C bm) : (PySem.W.clsIn K C).isSome = true := by
  obtain ⟨cd, e1, _⟩ := h.cls
  rw [e1] <;> rfl
/-- isinstance of the class at C against the class at D -/
theorem ClsAt.kit {D : Addr} {bn : List Value} (h : ClsAt K C bm) (g : ClsAt K D bn) : PySem.W.kitOne K (.ref C) (.ref D) = some ((Value.ref C :: bm).contains (.ref D)) := by
  unfold PySem.W.kitOne
  by_cases e : (Value.ref C == Value.ref D) = true
  · rw [if_pos e, beq_iff_eq.mp e, List.contains_cons, beq_self_eq_true] <;> rfl
  · rw [if_neg e]
    have e2 : ((PySem.W.clsIn K D).isSome && PySem.W.typeIn K (.ref D) == some (.type "type")) = true := by rw [g.isC, g.ty] <;> rfl
    show (if _ then PySem.W.subIn K (.ref C) (.ref D) else none) = _
    rw [if_pos e2, h.sub]
theorem ClsAt.exm {D : Addr} {bn : List Value} (h : ClsAt K C bm) (g : ClsAt K D bn) (eD : (Value.ref D :: bn).contains (.type "BaseException") = true) : PySem.W.exmOne K (.ref C) (.ref D) = some ((Value.ref C :: bm).contains (.ref D)) :=
  PySem.W.exm_ref (by rw [g.sub, eD]) g.hd g.ty (h.sub _)
end
/-- what the top says of one error class -/
structure ClsF (K : PySem.W.Frag) (nm f : Str) (C I R : Addr) : Prop where
  nsn : PySem.W.nsIn K mainGlobals nm = some (some (.ref C))
  at_ : ClsAt K C (.ref R :: exTail)
  sa : PySem.W.findIn K (.ref C) "__setattr__" = some (some (.builtin "object.__setattr__"))
  ga : PySem.W.findIn K (.ref C) "__getattribute__" = some (some (.builtin "BaseException.__getattribute__"))
  gg : PySem.W.findIn K (.ref C) "__getattr__" = some none
  ha : PySem.W.findIn K (.ref C) "__class__" = some (some (.builtin "object.__class__"))
  kC : PySem.W.keepIn K (.ref C) = true
  no : PySem.W.findIn K (.ref C) f = some none
  ini : PySem.W.findIn K (.ref C) "__init__" = some (some (.ref I))
  ity : PySem.W.typeIn K (.ref I) = some (.type "function")
/-- and of what they share -/
structure RootF (K : PySem.W.Frag) (R : Addr) : Prop where
  nsn : PySem.W.nsIn K mainGlobals "RolloutError" = some (some (.ref R))
  at_ : ClsAt K R exTail
  rd : PySem.W.readsIn K R (.type "type") = true
  ga : PySem.W.specialIn K (.ref R) "__getattribute__" = some (some (.builtin "type.__getattribute__"))
  ini : PySem.W.findCls K (.ref R) (.type "type") "__init__" = some (.val (.builtin "ValueError.__init__"))
  hn : PySem.W.specialIn K (.builtin "object.__class__") "__get__" = some (some (.builtin "getset_descriptor.__get__"))
  ht : PySem.W.takesIn K (.builtin "object.__class__") = some true
theorem ClsF.x {K : PySem.W.Frag} {nm f : Str} {C I R : Addr} (c : ClsF K nm f C I R) (r : RootF K R) : XCls K C where
  cls := by
    obtain ⟨nm, q, N, bs, sn, sub, ab, col, dd, k0, k1, k2, k3, k5, e⟩ := c.at_
    exact ⟨nm, q, N, bs, _, sn, sub, ab, col, dd, k0, k1, k2, k3, k5, e, rfl⟩
  sa := c.sa
  exC := by rw [c.at_.sub] <;> rfl
  tyC := c.at_.ty
  kC := c.kC
  ga := c.ga
  gg := c.gg
  hdC := c.at_.hd
  ha := c.ha
  hn := r.hn
  ht := r.ht
  hm := by rw [c.at_.mroIs] <;> rfl
theorem has_cls {C R D : Addr} {b : Bool} (h : decide (C = D) = b) (n : R ≠ D) : (Value.ref C :: Value.ref R :: exTail).contains (.ref D) = b := by
  subst h
  by_cases e : C = D
  · subst e
    rw [List.contains_cons, beq_self_eq_true, decide_eq_true rfl] <;> rfl
  · have e1 : (Value.ref D == Value.ref C) = false := beq_eq_false_iff_ne.mpr fun z => e (Value.ref.inj z).symm
    have e2 : (Value.ref D == Value.ref R) = false := beq_eq_false_iff_ne.mpr fun z => n (Value.ref.inj z).symm
    rw [decide_eq_false e, List.contains_cons, e1, List.contains_cons, e2] <;> rfl
theorem has_root {C R : Addr} : (Value.ref C :: Value.ref R :: exTail).contains (.ref R) = true := by
  rw [List.contains_cons, List.contains_cons, beq_self_eq_true, Bool.true_or, Bool.or_true]
/-- what the top says of a class with a constant MOST -/
structure ClsK (K : PySem.W.Frag) (nm : Str) (C : Addr) (n : Int) (t : Nat) : Prop where
  nsn : PySem.W.nsIn K mainGlobals nm = some (some (.ref C))
  rd : PySem.W.readsIn K C (.type "type") = true
  ga : PySem.W.specialIn K (.ref C) "__getattribute__" = some (some (.builtin "type.__getattribute__"))
  most : PySem.W.findCls K (.ref C) (.type "type") "MOST" = some (.val (.int n t))
  pg : PySem.W.plainGet K C Str.empty = true
  hd : PySem.W.hasDictIn K C = true
  po : PySem.W.plainOver K C = true
  sa : PySem.W.findIn K (.ref C) "__setattr__" = some (some (.builtin "object.__setattr__"))
  mks : PySem.W.makesIn K C = true
  kp : PySem.W.keepIn K (.ref C) = true
  ha : PySem.W.findIn K (.ref C) "__class__" = some (some (.builtin "object.__class__"))
  hn : PySem.W.specialIn K (.builtin "object.__class__") "__get__" = some (some (.builtin "getset_descriptor.__get__"))
  ht : PySem.W.takesIn K (.builtin "object.__class__") = some true
  hm : PySem.W.mroIn K C (.type "object") = some true
/-- a method -/
structure MetK (K : PySem.W.Frag) (C : Addr) (m : Str) (f : Addr) : Prop where
  at_ : PySem.W.findIn K (.ref C) m = some (some (.ref f))
  fn : PySem.W.isFn K (.ref f) = true
/-- a property -/
structure PrK (K : PySem.W.Frag) (C : Addr) (m : Str) (p g : Addr) (rest : List Value) : Prop where
  at_ : PySem.W.findIn K (.ref C) m = some (some (.ref p))
  get : PySem.W.specialIn K (.ref p) "__get__" = some (some (.builtin "property.__get__"))
  tak : PySem.W.takesIn K (.ref p) = some true
  rec_ : PySem.W.recIn K p "property" = some (.ref g :: rest)
theorem ClsF.er {K : PySem.W.Frag} {h : Heap} {mg : Str → Option Value} {nm f : Str} {C I R : Addr} (X : K.In h) (G : h.Ns mainGlobals mg) (c : ClsF K nm f C I R) (r : RootF K R) : Er K mg nm f C I :=
  ⟨PySem.W.mg_of X G c.nsn, c.x r, c.ini, c.ity, c.no⟩
theorem RootF.rt {K : PySem.W.Frag} {h : Heap} {mg : Str → Option Value} {R : Addr} (X : K.In h) (G : h.Ns mainGlobals mg) (r : RootF K R) : Rt K mg R := ⟨PySem.W.mg_of X G r.nsn, ⟨r.rd, r.ga, r.ini⟩⟩
theorem ClsK.fc {K : PySem.W.Frag} {h : Heap} {mg : Str → Option Value} {CF : Addr} {t t2 : Nat} (X : K.In h) (G : h.Ns mainGlobals mg) (k : ClsK K "Forest" CF 12 t) (root : PySem.W.findCls K (.ref CF) (.type "type") "ROOT" = some (.val (.str "" t2))) : Fc K mg CF (.type "type") :=
  ⟨PySem.W.mg_of X G k.nsn, ⟨k.rd, k.ga⟩, ⟨_, k.most, ⟨_, rfl⟩⟩, ⟨_, root, ⟨_, rfl⟩⟩⟩
theorem ClsK.cls {K : PySem.W.Frag} {nm : Str} {C : Addr} {n : Int} {t : Nat} (k : ClsK K nm C n t) : Cls K C := ⟨k.pg, k.hd, k.po, k.sa⟩
/-- a def with its code object and the table of that -/
structure TabK (K : PySem.W.Frag) (x : Str) (c P : Addr) : Prop where
  at_ : PySem.W.tabIn K x = some (c, P)
  no : K.lookup P = none
end FT


/-! what the top says of a class without a constant, of a static method -/
namespace FT
open PySem L2 TL ClX
structure ClsN (K : PySem.W.Frag) (nm : Str) (C : Addr) : Prop where
  nsn : PySem.W.nsIn K mainGlobals nm = some (some (.ref C))
  rd : PySem.W.readsIn K C (.type "type") = true
  ga : PySem.W.specialIn K (.ref C) "__getattribute__" = some (some (.builtin "type.__getattribute__"))
  pg : PySem.W.plainGet K C Str.empty = true
  hd : PySem.W.hasDictIn K C = true
  po : PySem.W.plainOver K C = true
  sa : PySem.W.findIn K (.ref C) "__setattr__" = some (some (.builtin "object.__setattr__"))
  mks : PySem.W.makesIn K C = true
  kp : PySem.W.keepIn K (.ref C) = true
theorem ClsN.cls {K : PySem.W.Frag} {nm : Str} {C : Addr} (k : ClsN K nm C) : Cls K C := ⟨k.pg, k.hd, k.po, k.sa⟩
/-- a static method -/
structure StK (K : PySem.W.Frag) (C : Addr) (m : Str) (p f : Addr) (rest : List Value) : Prop where
  at_ : PySem.W.findCls K (.ref C) (.type "type") m = some (.get (.builtin "staticmethod.__get__") (.ref p) .none (.ref C))
  rec_ : PySem.W.recIn K p "staticmethod" = some (.ref f :: rest)
theorem StK.sm {K : PySem.W.Frag} {C p f : Addr} {m : Str} {rest : List Value} (s : StK K C m p f rest) : SMet K C (.type "type") m p f := ⟨s.at_, _, s.rec_⟩
end FT


namespace FT
open PySem PySem.Spec PyProof.Rows L2 TL ClX LamX NdefX
section
variable {q : Program} {l : PySem.W.OpenLaw} {w : World} {K : PySem.W.Frag} {h : Heap} {mg : Str → Option Value} {fa : Addr}
theorem all_mk {f_bgC f_dtC f_dpC f_nmC f_trC f_isn f_isa f_nd f_fi f_plC f_btC f_siC f_liC f_io f_fl f_psS f_ai f_psA f_ap f_erC f_law p_fl p_ap C_Mismatch C_UnknownName C_InvalidSizes C_InvalidForest C_InvalidUsers C_UnknownUser C_InvalidPlace C_InvalidText C_Crowded C_InvalidNumber C_InvalidPin C_NotBest I_Mismatch I_UnknownName I_InvalidSizes I_InvalidForest I_InvalidUsers I_UnknownUser I_InvalidPlace I_InvalidText I_Crowded I_InvalidNumber I_InvalidPin I_NotBest R c_law t_law CF CA : Addr} {d_bgC d_dtC d_dpC d_nmC d_trC d_isn d_isa d_nd d_fi d_plC d_btC d_siC d_liC d_io d_fl d_psS d_ai d_psA d_ap d_erC d_law D_Mismatch D_UnknownName D_InvalidSizes D_InvalidForest D_InvalidUsers D_UnknownUser D_InvalidPlace D_InvalidText D_Crowded D_InvalidNumber D_InvalidPin D_NotBest : FuncData} {tL tT tR tD tMd tNf tCF tCA : Nat} {r_fl r_ap : List Value} (X : K.In h) (G : h.Ns mainGlobals mg) (hfa : mg "law" = some (.ref fa)) (TO : TabsOf q K h)
    (kCF : ClsK K "Forest" CF 12 tCF)
    (noCF_above : PySem.W.findIn K (.ref CF) "above" = some none)
    (kCA : ClsK K "Assignment" CA 60 tCA)
    (noCA_own_forest : PySem.W.findIn K (.ref CA) "own_forest" = some none)
    (noCA_own_places : PySem.W.findIn K (.ref CA) "own_places" = some none)
    (root : PySem.W.findCls K (.ref CF) (.type "type") "ROOT" = some (.val (.str "" tR)))
    (cL : PySem.W.nsIn K mainGlobals "LONGEST" = some (some (.int 8 tL)))
    (cT : PySem.W.nsIn K mainGlobals "LETTERS" = some (some (.str letters tT)))
    (cD : PySem.W.nsIn K mainGlobals "DIGITS" = some (some (.str digits tD)))
    (cMd : PySem.W.nsIn K mainGlobals "MOST_DIGITS" = some (some (.int 31 tMd)))
    (cNf : PySem.W.nsIn K mainGlobals "NO_FLAG" = some (some (.str "-" tNf)))
    (n_bgC : PySem.W.nsIn K mainGlobals "_law_begin" = some (some (.ref f_bgC)))
    (u_bgC : L2.Fun K "_law_begin" "_law_begin" s__law_begin f_bgC d_bgC)
    (n_dtC : PySem.W.nsIn K mainGlobals "_law_draw" = some (some (.ref f_dtC)))
    (u_dtC : L2.Fun K "_law_draw" "_law_draw" s__law_draw f_dtC d_dtC)
    (n_dpC : PySem.W.nsIn K mainGlobals "_law_pick" = some (some (.ref f_dpC)))
    (u_dpC : L2.Fun K "_law_pick" "_law_pick" s__law_pick f_dpC d_dpC)
    (n_nmC : PySem.W.nsIn K mainGlobals "_law_names" = some (some (.ref f_nmC)))
    (u_nmC : L2.Fun K "_law_names" "_law_names" s__law_names f_nmC d_nmC)
    (n_trC : PySem.W.nsIn K mainGlobals "_law_tree" = some (some (.ref f_trC)))
    (u_trC : L2.Fun K "_law_tree" "_law_tree" s__law_tree f_trC d_trC)
    (n_isn : PySem.W.nsIn K mainGlobals "is_name" = some (some (.ref f_isn)))
    (u_isn : L2.Fun K "is_name" "is_name" s_is_name f_isn d_isn)
    (n_isa : PySem.W.nsIn K mainGlobals "is_ancestor" = some (some (.ref f_isa)))
    (u_isa : L2.Fun K "is_ancestor" "is_ancestor" s_is_ancestor f_isa d_isa)
    (n_nd : PySem.W.nsIn K mainGlobals "need_parents" = some (some (.ref f_nd)))
    (u_nd : L2.Fun K "need_parents" "need_parents" s_need_parents f_nd d_nd)
    (n_plC : PySem.W.nsIn K mainGlobals "_law_places" = some (some (.ref f_plC)))
    (u_plC : L2.Fun K "_law_places" "_law_places" s__law_places f_plC d_plC)
    (n_btC : PySem.W.nsIn K mainGlobals "_law_bent" = some (some (.ref f_btC)))
    (u_btC : L2.Fun K "_law_bent" "_law_bent" s__law_bent f_btC d_btC)
    (n_siC : PySem.W.nsIn K mainGlobals "_law_sizes_in" = some (some (.ref f_siC)))
    (u_siC : L2.Fun K "_law_sizes_in" "_law_sizes_in" s__law_sizes_in f_siC d_siC)
    (n_liC : PySem.W.nsIn K mainGlobals "_law_places_in" = some (some (.ref f_liC)))
    (u_liC : L2.Fun K "_law_places_in" "_law_places_in" s__law_places_in f_liC d_liC)
    (n_io : PySem.W.nsIn K mainGlobals "integer_of" = some (some (.ref f_io)))
    (u_io : L2.Fun K "integer_of" "integer_of" s_integer_of f_io d_io)
    (n_psS : PySem.W.nsIn K mainGlobals "parse_sizes" = some (some (.ref f_psS)))
    (u_psS : L2.Fun K "parse_sizes" "parse_sizes" s_parse_sizes f_psS d_psS)
    (n_psA : PySem.W.nsIn K mainGlobals "parse_assignment" = some (some (.ref f_psA)))
    (u_psA : L2.Fun K "parse_assignment" "parse_assignment" s_parse_assignment f_psA d_psA)
    (n_erC : PySem.W.nsIn K mainGlobals "_law_error" = some (some (.ref f_erC)))
    (u_erC : L2.Fun K "_law_error" "_law_error" s__law_error f_erC d_erC)
    (n_law : PySem.W.nsIn K mainGlobals "law" = some (some (.ref f_law)))
    (u_law : FunC K "law" "law" s_law f_law d_law c_law)
    (t1_law : PySem.W.tabIn K "law" = some (c_law, t_law))
    (t2_law : K.lookup t_law = none)
    (t3_law : ((recsOf q).find? (fun e => e.name == ("law" : Str))).isSome = true)
    (m_fi : MetK K CF "__init__" f_fi)
    (m_ai : MetK K CA "__init__" f_ai)
    (m_fl : PrK K CF "flags" p_fl f_fl r_fl)
    (m_ap : PrK K CA "places" p_ap f_ap r_ap)
    (u_fi : L2.Fun K "__init__" "Forest.__init__" s_Forest___init__ f_fi d_fi)
    (u_ai : L2.Fun K "__init__" "Assignment.__init__" s_Assignment___init__ f_ai d_ai)
    (u_fl : L2.Fun K "flags" "Forest.flags" s_Forest_flags f_fl d_fl)
    (u_ap : L2.Fun K "places" "Assignment.places" s_Assignment_places f_ap d_ap)
    (rt0 : RootF K R)
    (e_Mismatch : ClsF K "Mismatch" "" C_Mismatch I_Mismatch R)
    (i_Mismatch : L2.Fun K "__init__" "Mismatch.__init__" s_Mismatch___init__ I_Mismatch D_Mismatch)
    (e_UnknownName : ClsF K "UnknownName" "name" C_UnknownName I_UnknownName R)
    (i_UnknownName : L2.Fun K "__init__" "UnknownName.__init__" s_UnknownName___init__ I_UnknownName D_UnknownName)
    (e_InvalidSizes : ClsF K "InvalidSizes" "place" C_InvalidSizes I_InvalidSizes R)
    (i_InvalidSizes : L2.Fun K "__init__" "InvalidSizes.__init__" s_InvalidSizes___init__ I_InvalidSizes D_InvalidSizes)
    (e_InvalidForest : ClsF K "InvalidForest" "name" C_InvalidForest I_InvalidForest R)
    (i_InvalidForest : L2.Fun K "__init__" "InvalidForest.__init__" s_InvalidForest___init__ I_InvalidForest D_InvalidForest)
    (e_InvalidUsers : ClsF K "InvalidUsers" "" C_InvalidUsers I_InvalidUsers R)
    (i_InvalidUsers : L2.Fun K "__init__" "InvalidUsers.__init__" s_InvalidUsers___init__ I_InvalidUsers D_InvalidUsers)
    (e_UnknownUser : ClsF K "UnknownUser" "user" C_UnknownUser I_UnknownUser R)
    (i_UnknownUser : L2.Fun K "__init__" "UnknownUser.__init__" s_UnknownUser___init__ I_UnknownUser D_UnknownUser)
    (e_InvalidPlace : ClsF K "InvalidPlace" "user" C_InvalidPlace I_InvalidPlace R)
    (i_InvalidPlace : L2.Fun K "__init__" "InvalidPlace.__init__" s_InvalidPlace___init__ I_InvalidPlace D_InvalidPlace)
    (e_InvalidText : ClsF K "InvalidText" "line" C_InvalidText I_InvalidText R)
    (i_InvalidText : L2.Fun K "__init__" "InvalidText.__init__" s_InvalidText___init__ I_InvalidText D_InvalidText)
    (e_Crowded : ClsF K "Crowded" "users" C_Crowded I_Crowded R)
    (i_Crowded : L2.Fun K "__init__" "Crowded.__init__" s_Crowded___init__ I_Crowded D_Crowded)
    (e_InvalidNumber : ClsF K "InvalidNumber" "" C_InvalidNumber I_InvalidNumber R)
    (i_InvalidNumber : L2.Fun K "__init__" "InvalidNumber.__init__" s_InvalidNumber___init__ I_InvalidNumber D_InvalidNumber)
    (e_InvalidPin : ClsF K "InvalidPin" "index" C_InvalidPin I_InvalidPin R)
    (i_InvalidPin : L2.Fun K "__init__" "InvalidPin.__init__" s_InvalidPin___init__ I_InvalidPin D_InvalidPin)
    (e_NotBest : ClsF K "NotBest" "" C_NotBest I_NotBest R)
    (i_NotBest : L2.Fun K "__init__" "NotBest.__init__" s_NotBest___init__ I_NotBest D_NotBest)
    (apart : ∀ i : Fin 12, R ≠ ([C_Mismatch, C_UnknownName, C_InvalidSizes, C_InvalidForest, C_InvalidUsers, C_UnknownUser, C_InvalidPlace, C_InvalidText, C_Crowded, C_InvalidNumber, C_InvalidPin, C_NotBest] : List Nat).getD i.1 0)
    (dist : ∀ i j : Fin 12, decide (([C_Mismatch, C_UnknownName, C_InvalidSizes, C_InvalidForest, C_InvalidUsers, C_UnknownUser, C_InvalidPlace, C_InvalidText, C_Crowded, C_InvalidNumber, C_InvalidPin, C_NotBest] : List Nat).getD i.1 0 = ([C_Mismatch, C_UnknownName, C_InvalidSizes, C_InvalidForest, C_InvalidUsers, C_UnknownUser, C_InvalidPlace, C_InvalidText, C_Crowded, C_InvalidNumber, C_InvalidPin, C_NotBest] : List Nat).getD j.1 0) = decide (i.1 = j.1))
    (z_abs : PySem.W.nsIn K mainGlobals "abs" = some none)
    (z_len : PySem.W.nsIn K mainGlobals "len" = some none)
    (z_rng : PySem.W.nsIn K mainGlobals "range" = some none)
    (z_enu : PySem.W.nsIn K mainGlobals "enumerate" = some none)
    (z_zip : PySem.W.nsIn K mainGlobals "zip" = some none)
    (z_isi : PySem.W.nsIn K mainGlobals "isinstance" = some none)
    (z_all : PySem.W.nsIn K mainGlobals "all" = some none)
    (z_srt : PySem.W.nsIn K mainGlobals "sorted" = some none)
    (z_lst : PySem.W.nsIn K mainGlobals "list" = some none)
    (z_dct : PySem.W.nsIn K mainGlobals "dict" = some none)
    (z_str : PySem.W.nsIn K mainGlobals "str" = some none)
    (z_int : PySem.W.nsIn K mainGlobals "int" = some none)
    (z_tup : PySem.W.nsIn K mainGlobals "tuple" = some none)
    (z_sum : PySem.W.nsIn K mainGlobals "sum" = some none)
    (z_min : PySem.W.nsIn K mainGlobals "min" = some none)
    (z_max : PySem.W.nsIn K mainGlobals "max" = some none)
    (z_rep : PySem.W.nsIn K mainGlobals "repr" = some none)
    (z_bool : PySem.W.nsIn K mainGlobals "bool" = some none)
    (z_any : PySem.W.nsIn K mainGlobals "any" = some none)
    (z_vE : PySem.W.nsIn K mainGlobals "ValueError" = some none)
    : LawTG l w K 6 63 "_law_script" mg fa h := by
  cases hfa.symm.trans (PySem.W.mg_of X G n_law)
  have N : Nm mg := ⟨PySem.W.mg_none_of X G z_abs, PySem.W.mg_none_of X G z_len, PySem.W.mg_none_of X G z_rng, PySem.W.mg_none_of X G z_enu, PySem.W.mg_none_of X G z_zip, PySem.W.mg_none_of X G z_isi, PySem.W.mg_none_of X G z_all, PySem.W.mg_none_of X G z_srt, PySem.W.mg_none_of X G z_lst, PySem.W.mg_none_of X G z_dct, PySem.W.mg_none_of X G z_str, PySem.W.mg_none_of X G z_int, PySem.W.mg_none_of X G z_tup, PySem.W.mg_none_of X G z_sum, PySem.W.mg_none_of X G z_min, PySem.W.mg_none_of X G z_max, PySem.W.mg_none_of X G z_rep, PySem.W.mg_none_of X G z_bool, PySem.W.mg_none_of X G z_any, PySem.W.mg_none_of X G z_vE⟩
  have Cs_ : Cs mg := ⟨⟨_, PySem.W.mg_of X G cL⟩, ⟨_, PySem.W.mg_of X G cT⟩⟩
  have O : FoC K CF := ⟨kCF.cls, noCF_above⟩
  have Z : Fc K mg CF (.type "type") := kCF.fc X G root
  have B : Ac K mg CA (.type "type") := ⟨PySem.W.mg_of X G kCA.nsn, ⟨kCA.rd, kCA.ga⟩, ⟨_, kCA.most, ⟨_, rfl⟩⟩, kCA.cls, noCA_own_forest, noCA_own_places⟩
  have b_bgC := u_bgC.binds (ps := ["_law_script"]) fun _ _ _ _ _ _ us hl => match us, hl with | [_], _ => rfl
  have b_dtC := u_dtC.binds (ps := ["_law_state", "_law_many"]) fun _ _ _ _ _ _ us hl => match us, hl with | [_, _], _ => rfl
  have b_dpC := u_dpC.binds (ps := ["_law_state", "_law_some"]) fun _ _ _ _ _ _ us hl => match us, hl with | [_, _], _ => rfl
  have b_nmC := u_nmC.binds (ps := ["_law_state", "_law_many"]) fun _ _ _ _ _ _ us hl => match us, hl with | [_, _], _ => rfl
  have b_trC := u_trC.binds (ps := ["_law_state", "_law_many"]) fun _ _ _ _ _ _ us hl => match us, hl with | [_, _], _ => rfl
  have b_isn := u_isn.binds (ps := ["value"]) fun _ _ _ _ _ _ us hl => match us, hl with | [_], _ => rfl
  have b_isa := u_isa.binds (ps := ["parents", "name"]) fun _ _ _ _ _ _ us hl => match us, hl with | [_, _], _ => rfl
  have b_nd := u_nd.binds (ps := ["parents"]) fun _ _ _ _ _ _ us hl => match us, hl with | [_], _ => rfl
  have b_fi := u_fi.binds (ps := ["self", "parents"]) fun _ _ _ _ _ _ us hl => match us, hl with | [_, _], _ => rfl
  have b_plC := u_plC.binds (ps := ["_law_state", "_law_tree_here", "_law_users"]) fun _ _ _ _ _ _ us hl => match us, hl with | [_, _, _], _ => rfl
  have b_btC := u_btC.binds (ps := ["_law_state", "_law_told", "_law_mark"]) fun _ _ _ _ _ _ us hl => match us, hl with | [_, _, _], _ => rfl
  have b_siC := u_siC.binds (ps := ["_law_tree_here", "_law_told"]) fun _ _ _ _ _ _ us hl => match us, hl with | [_, _], _ => rfl
  have b_liC := u_liC.binds (ps := ["_law_tree_here", "_law_told"]) fun _ _ _ _ _ _ us hl => match us, hl with | [_, _], _ => rfl
  have b_io := u_io.binds (ps := ["word"]) fun _ _ _ _ _ _ us hl => match us, hl with | [_], _ => rfl
  have b_fl := u_fl.binds (ps := ["self"]) fun _ _ _ _ _ _ us hl => match us, hl with | [_], _ => rfl
  have b_psS := u_psS.binds (ps := ["forest", "text"]) fun _ _ _ _ _ _ us hl => match us, hl with | [_, _], _ => rfl
  have b_ai := u_ai.binds (ps := ["self", "forest", "places"]) fun _ _ _ _ _ _ us hl => match us, hl with | [_, _, _], _ => rfl
  have b_psA := u_psA.binds (ps := ["forest", "text"]) fun _ _ _ _ _ _ us hl => match us, hl with | [_, _], _ => rfl
  have b_ap := u_ap.binds (ps := ["self"]) fun _ _ _ _ _ _ us hl => match us, hl with | [_], _ => rfl
  have b_erC := u_erC.binds (ps := ["_law_work"]) fun _ _ _ _ _ _ us hl => match us, hl with | [_], _ => rfl
  have g_bgC := PySem.W.mg_of X G n_bgC
  have g_dtC := PySem.W.mg_of X G n_dtC
  have g_dpC := PySem.W.mg_of X G n_dpC
  have g_nmC := PySem.W.mg_of X G n_nmC
  have g_trC := PySem.W.mg_of X G n_trC
  have g_isn := PySem.W.mg_of X G n_isn
  have g_isa := PySem.W.mg_of X G n_isa
  have g_nd := PySem.W.mg_of X G n_nd
  have g_plC := PySem.W.mg_of X G n_plC
  have g_btC := PySem.W.mg_of X G n_btC
  have g_siC := PySem.W.mg_of X G n_siC
  have g_liC := PySem.W.mg_of X G n_liC
  have g_io := PySem.W.mg_of X G n_io
  have g_psS := PySem.W.mg_of X G n_psS
  have g_psA := PySem.W.mg_of X G n_psA
  have g_erC := PySem.W.mg_of X G n_erC
  have rt := rt0.rt X G
  have at_ : ∀ i, i < 12 → ClsAt K (([C_Mismatch, C_UnknownName, C_InvalidSizes, C_InvalidForest, C_InvalidUsers, C_UnknownUser, C_InvalidPlace, C_InvalidText, C_Crowded, C_InvalidNumber, C_InvalidPin, C_NotBest] : List Nat).getD i 0) (.ref R :: exTail) := fun i hi => match i, hi with
    | 0, _ => e_Mismatch.at_
    | 1, _ => e_UnknownName.at_
    | 2, _ => e_InvalidSizes.at_
    | 3, _ => e_InvalidForest.at_
    | 4, _ => e_InvalidUsers.at_
    | 5, _ => e_UnknownUser.at_
    | 6, _ => e_InvalidPlace.at_
    | 7, _ => e_InvalidText.at_
    | 8, _ => e_Crowded.at_
    | 9, _ => e_InvalidNumber.at_
    | 10, _ => e_InvalidPin.at_
    | 11, _ => e_NotBest.at_
  have xs_ : ∀ i, i < 12 → XCls K (([C_Mismatch, C_UnknownName, C_InvalidSizes, C_InvalidForest, C_InvalidUsers, C_UnknownUser, C_InvalidPlace, C_InvalidText, C_Crowded, C_InvalidNumber, C_InvalidPin, C_NotBest] : List Nat).getD i 0) := fun i hi => match i, hi with
    | 0, _ => e_Mismatch.x rt0
    | 1, _ => e_UnknownName.x rt0
    | 2, _ => e_InvalidSizes.x rt0
    | 3, _ => e_InvalidForest.x rt0
    | 4, _ => e_InvalidUsers.x rt0
    | 5, _ => e_UnknownUser.x rt0
    | 6, _ => e_InvalidPlace.x rt0
    | 7, _ => e_InvalidText.x rt0
    | 8, _ => e_Crowded.x rt0
    | 9, _ => e_InvalidNumber.x rt0
    | 10, _ => e_InvalidPin.x rt0
    | 11, _ => e_NotBest.x rt0
  have kits : ∀ i j, i < 12 → j < 12 → PySem.W.kitOne K (.ref (([C_Mismatch, C_UnknownName, C_InvalidSizes, C_InvalidForest, C_InvalidUsers, C_UnknownUser, C_InvalidPlace, C_InvalidText, C_Crowded, C_InvalidNumber, C_InvalidPin, C_NotBest] : List Nat).getD i 0)) (.ref (([C_Mismatch, C_UnknownName, C_InvalidSizes, C_InvalidForest, C_InvalidUsers, C_UnknownUser, C_InvalidPlace, C_InvalidText, C_Crowded, C_InvalidNumber, C_InvalidPin, C_NotBest] : List Nat).getD j 0)) = some (decide (i = j)) := fun i j hi hj => by rw [(at_ i hi).kit (at_ j hj), has_cls (dist ⟨i, hi⟩ ⟨j, hj⟩) (apart ⟨j, hj⟩)]
  have exs : ∀ i j, i < 12 → j < 12 → PySem.W.exmOne K (.ref (([C_Mismatch, C_UnknownName, C_InvalidSizes, C_InvalidForest, C_InvalidUsers, C_UnknownUser, C_InvalidPlace, C_InvalidText, C_Crowded, C_InvalidNumber, C_InvalidPin, C_NotBest] : List Nat).getD i 0)) (.ref (([C_Mismatch, C_UnknownName, C_InvalidSizes, C_InvalidForest, C_InvalidUsers, C_UnknownUser, C_InvalidPlace, C_InvalidText, C_Crowded, C_InvalidNumber, C_InvalidPin, C_NotBest] : List Nat).getD j 0)) = some (decide (i = j)) := fun i j hi hj => by rw [(at_ i hi).exm (at_ j hj) rfl, has_cls (dist ⟨i, hi⟩ ⟨j, hj⟩) (apart ⟨j, hj⟩)]
  obtain ⟨T, eT⟩ : ∃ T : List (Addr × Str), T = [(t_law, lamQ "law")] := ⟨_, rfl⟩
  have m_law : (t_law, lamQ "law") ∈ T := by rw [eT]; simp
  have un_law : ∀ p ∈ T, p.1 = t_law → p.2 = lamQ "law" := fun p hp e => by
    rw [eT] at hp
    simp only [List.mem_cons, List.not_mem_nil, or_false] at hp
    rcases hp with rfl
    · rfl
  refine ⟨d_law, ([(c_law, t_law)] : List (Addr × Addr)), spLaw51 K T, fun p hp => ?_, fun s u => ?_, fun H a ns hl hts hS => ?_, fun base KB GB TBs => ?_⟩
  · simp only [List.mem_cons, List.not_mem_nil, or_false] at hp
    rcases hp with rfl
    · exact ⟨(TO _ _ _ t3_law t1_law).1, (TO _ _ _ t3_law t1_law).2, t2_law⟩
  · obtain ⟨oc, od, kV, doc, pm, an, cdv, ct, osl, rfl, lk, hcd⟩ := u_law.fun.ex
    exact .of_eq rfl
  · refine ⟨a, ns, rfl, hS, hl, ?_, fun _ => rfl⟩
    intro p hp
    rw [eT] at hp
    simp only [List.mem_cons, List.not_mem_nil, or_false] at hp
    rcases hp with rfl
    · exact TabS.nil (hts (c_law, t_law) (by simp))
  have E_InvalidText : Er1 l.prog w K mg base "InvalidText" "line" C_InvalidText I_InvalidText D_InvalidText := ⟨e_InvalidText.er X G rt0, ok_InvalidText i_InvalidText rt (e_InvalidText.er X G rt0), i_InvalidText.binds (ps := ["self", "line"]) fun _ _ _ _ _ _ us hl => match us, hl with | [_, _], _ => rfl⟩
  have D_bgC : Dn l.prog w K mg base CX0 1 "_law_begin" ["_law_script"] (spBegin K) f_bgC d_bgC := ⟨ok_begin u_bgC N, u_bgC.kp, b_bgC, g_bgC⟩
  have D_dtC : Dn l.prog w K mg base CX0 1 "_law_draw" ["_law_state", "_law_many"] (spDraw) f_dtC d_dtC := ⟨ok_draw u_dtC N, u_dtC.kp, b_dtC, g_dtC⟩
  have D_dpC : Dn l.prog w K mg base CX0 2 "_law_pick" ["_law_state", "_law_some"] (spPick K) f_dpC d_dpC := ⟨ok_pick u_dpC N u_dtC b_dtC g_dtC, u_dpC.kp, b_dpC, g_dpC⟩
  have D_nmC : Dn l.prog w K mg base CX0 3 "_law_names" ["_law_state", "_law_many"] (spNames K) f_nmC d_nmC := ⟨ok_names u_nmC N u_dtC b_dtC g_dtC u_dpC b_dpC g_dpC, u_nmC.kp, b_nmC, g_nmC⟩
  have D_trC : Dn l.prog w K mg base CX0 4 "_law_tree" ["_law_state", "_law_many"] (spTree) f_trC d_trC := ⟨ok_tree u_trC N u_dtC b_dtC g_dtC u_dpC b_dpC g_dpC u_nmC b_nmC g_nmC, u_trC.kp, b_trC, g_trC⟩
  have D_isn : Dn l.prog w K mg base CX0 1 "is_name" ["value"] (spIsName) f_isn d_isn := ⟨ok_isName u_isn N Cs_, u_isn.kp, b_isn, g_isn⟩
  have D_isa : Dn l.prog w K mg base CX0 1 "is_ancestor" ["parents", "name"] (spIsAnc) f_isa d_isa := ⟨ok_isAnc u_isa, u_isa.kp, b_isa, g_isa⟩
  have D_nd : Dn l.prog w K mg base CX0 2 "need_parents" ["parents"] (spNeed) f_nd d_nd := ⟨ok_need u_nd N Cs_ Z D_isn D_isa, u_nd.kp, b_nd, g_nd⟩
  have F_fi : FnOk l.prog w K mg base CX0 3 f_fi d_fi ["self", "parents"] (spFInit CF) := ok_finit u_fi N O D_nd
  have MK_fi : Mk K CF f_fi := ⟨kCF.mks, m_fi.at_, m_fi.fn, kCF.kp⟩
  have D_plC : Dn l.prog w K mg base CX0 3 "_law_places" ["_law_state", "_law_tree_here", "_law_users"] (spPlaces) f_plC d_plC := ⟨ok_places u_plC N u_dtC b_dtC g_dtC u_dpC b_dpC g_dpC, u_plC.kp, b_plC, g_plC⟩
  have D_btC : Dn l.prog w K mg base CX0 3 "_law_bent" ["_law_state", "_law_told", "_law_mark"] (spBent) f_btC d_btC := ⟨ok_bent u_btC N D_dtC D_dpC, u_btC.kp, b_btC, g_btC⟩
  have D_siC : Dn l.prog w K mg base CX0 1 "_law_sizes_in" ["_law_tree_here", "_law_told"] (spSzIn) f_siC d_siC := ⟨ok_szIn u_siC N, u_siC.kp, b_siC, g_siC⟩
  have D_liC : Dn l.prog w K mg base CX0 1 "_law_places_in" ["_law_tree_here", "_law_told"] (spPlIn) f_liC d_liC := ⟨ok_plIn u_liC N, u_liC.kp, b_liC, g_liC⟩
  have D_io : Dn l.prog w K mg base CX0 1 "integer_of" ["word"] (spIntOf) f_io d_io := ⟨ok_intOf u_io N ⟨⟨_, PySem.W.mg_of X G cD⟩, ⟨_, PySem.W.mg_of X G cMd⟩, ⟨_, PySem.W.mg_of X G cNf⟩⟩, u_io.kp, b_io, g_io⟩
  have P_fl : Pr1 l.prog w K mg base CF "flags" (spFFlags CF) p_fl f_fl d_fl := ⟨⟨m_fl.at_, m_fl.get, m_fl.tak, ⟨_, m_fl.rec_⟩⟩, ok_fflags u_fl N O, b_fl⟩
  have D_psS : Dn l.prog w K mg base (L2.CX l.prog w) 3 "parse_sizes" ["forest", "text"] (spParS K CF C_InvalidText) f_psS d_psS := ⟨ok_parS u_psS N O P_fl D_io E_InvalidText, u_psS.kp, b_psS, g_psS⟩
  have F_ai : FnOk l.prog w K mg base CX0 1 f_ai d_ai ["self", "forest", "places"] (spAInit CF CA) := ok_ainit u_ai N O Z B
  have MK_ai : Mk K CA f_ai := ⟨kCA.mks, m_ai.at_, m_ai.fn, kCA.kp⟩
  have D_psA : Dn l.prog w K mg base (L2.CX l.prog w) 3 "parse_assignment" ["forest", "text"] (spParA K CF CA C_InvalidText) f_psA d_psA := ⟨ok_parA u_psA N (PySem.W.mg_of X G cNf) O Z B P_fl MK_ai F_ai b_ai E_InvalidText, u_psA.kp, b_psA, g_psA⟩
  have P_ap : PrN l.prog w K mg base 1 CA "places" (spAPlaces CA) p_ap f_ap d_ap := ⟨⟨m_ap.at_, m_ap.get, m_ap.tak, ⟨_, m_ap.rec_⟩⟩, ok_aplaces u_ap N B, b_ap⟩
  have GE : Ge K mg "_law_error" s__law_error f_erC d_erC := ⟨u_erC, b_erC, g_erC⟩
  have CC_ : ClT K mg R (fun i => ([C_Mismatch, C_UnknownName, C_InvalidSizes, C_InvalidForest, C_InvalidUsers, C_UnknownUser, C_InvalidPlace, C_InvalidText, C_Crowded, C_InvalidNumber, C_InvalidPin, C_NotBest] : List Nat).getD i 0) := ⟨rt.g, fun i hi => match i, hi with
    | 0, _ => PySem.W.mg_of X G e_Mismatch.nsn
    | 1, _ => PySem.W.mg_of X G e_UnknownName.nsn
    | 2, _ => PySem.W.mg_of X G e_InvalidSizes.nsn
    | 3, _ => PySem.W.mg_of X G e_InvalidForest.nsn
    | 4, _ => PySem.W.mg_of X G e_InvalidUsers.nsn
    | 5, _ => PySem.W.mg_of X G e_UnknownUser.nsn
    | 6, _ => PySem.W.mg_of X G e_InvalidPlace.nsn
    | 7, _ => PySem.W.mg_of X G e_InvalidText.nsn
    | 8, _ => PySem.W.mg_of X G e_Crowded.nsn
    | 9, _ => PySem.W.mg_of X G e_InvalidNumber.nsn
    | 10, _ => PySem.W.mg_of X G e_InvalidPin.nsn
    | 11, _ => PySem.W.mg_of X G e_NotBest.nsn, xs_, kits, fun i hi => by rw [(at_ i hi).exm rt0.at_ rfl, has_root], E_InvalidText.e.no⟩
  have W : W51 l.prog w K mg base CF CA C_InvalidText (.type "type") (.type "type") (fun i => ([f_bgC, f_dtC, f_dpC, f_trC, f_fi, f_plC, f_btC, f_siC, f_liC, f_psS, f_psA] : List Nat).getD i 0) (fun i => ([d_bgC, d_dtC, d_dpC, d_trC, d_fi, d_plC, d_btC, d_siC, d_liC, d_psS, d_psA] : List FuncData).getD i d_ai) p_ap f_ap d_ap := { Z := Z, B := B, bg := D_bgC, dt := D_dtC, dp := D_dpC, tr := D_trC, fi := F_fi, fim := MK_fi, fib := b_fi, pl := D_plC, be := D_btC, si := D_siC, li := D_liC, ps := D_psS, pa := D_psA, pP := P_ap }
  exact ok_law51 u_law N W GE CC_ rfl (TBs (c_law, t_law) (by simp)) m_law un_law
end
theorem walk {l : PySem.W.OpenLaw} {q : Program} {loose : List Str} {XP : (Str → Option Value) → Heap → Prop} {YP : World → Heap → Prop} {d : DefRec} {K : Params → PySem.W.Frag} (hn : l.most = some 63) (hdf : d.params.defaults = [])
    (hY : ∀ (w : World) (h : Heap), YP w h → (K w.params).In h)
    (F : ∀ (w : World) (mg : Str → Option Value) (fa : Addr) (h : Heap), (K w.params).In h → h.Ns mainGlobals mg → mg d.name = some (.ref fa) → TabsOf q (K w.params) h → XP mg h → LawTG l w (K w.params) 6 63 "_law_script" mg fa h) :
    PySem.W.WalkO q loose XP YP l.row.toRowW d [] (fun f vs => PySem.call f vs) :=
  walk_tabG (n := 63) (k := 6) (x := "_law_script") hn (by decide) hdf ⟨rfl, by decide, by decide⟩ hY F
end FT


open PySem PySem.W PyProof.Rows
set_option maxRecDepth 100000 in
set_option maxHeartbeats 0 in
theorem PySem.Challenge.cw_flagtrees_k51_texts_changed_anywhere_holds : PySem.Challenge.rw_flagtrees_k51_texts_changed_anywhere.Holds := by
  w_on; o_law; k_head; (case hw => w_witness2)
  k_fill
  refine FT.walk (l := PySem.Challenge.rw_flagtrees_k51_texts_changed_anywhere) rfl rfl (fun w h Y => PySem.W.km_in_of Y) ?F
  case F =>
    intro w mg fa h KX G hm TO XX
    have hmg : mg "law" = some (.ref fa) := hm
    clear hm
    refine' FT.all_mk KX G hmg TO ?kCF ?noCF_above ?kCA ?noCA_own_forest ?noCA_own_places ?root ?cL ?cT ?cD ?cMd ?cNf ?n_bgC ?u_bgC ?n_dtC ?u_dtC ?n_dpC ?u_dpC ?n_nmC ?u_nmC ?n_trC ?u_trC ?n_isn ?u_isn ?n_isa ?u_isa ?n_nd ?u_nd ?n_plC ?u_plC ?n_btC ?u_btC ?n_siC ?u_siC ?n_liC ?u_liC ?n_io ?u_io ?n_psS ?u_psS ?n_psA ?u_psA ?n_erC ?u_erC ?n_law ?u_law ?t1_law ?t2_law ?t3_law ?m_fi ?m_ai ?m_fl ?m_ap ?u_fi ?u_ai ?u_fl ?u_ap ?rt0 ?e_Mismatch ?i_Mismatch ?e_UnknownName ?i_UnknownName ?e_InvalidSizes ?i_InvalidSizes ?e_InvalidForest ?i_InvalidForest ?e_InvalidUsers ?i_InvalidUsers ?e_UnknownUser ?i_UnknownUser ?e_InvalidPlace ?i_InvalidPlace ?e_InvalidText ?i_InvalidText ?e_Crowded ?i_Crowded ?e_InvalidNumber ?i_InvalidNumber ?e_InvalidPin ?i_InvalidPin ?e_NotBest ?i_NotBest ?apart ?dist ?z_abs ?z_len ?z_rng ?z_enu ?z_zip ?z_isi ?z_all ?z_srt ?z_lst ?z_dct ?z_str ?z_int ?z_tup ?z_sum ?z_min ?z_max ?z_rep ?z_bool ?z_any ?z_vE
    (case kCF => (refine' ⟨?nsn, ?rd, ?ga, ?most, ?pg, ?hd, ?po, ?sa, ?mks, ?kp, ?ha, ?hn, ?ht, ?hm⟩; (case nsn => k_is); (case rd => k_is); (case ga => k_is); (case most => k_is); (case pg => k_is); (case hd => k_is); (case po => k_is); (case sa => k_is); (case mks => k_is); (case kp => k_is); (case ha => k_is); (case hn => k_is); (case ht => k_is); (case hm => k_is)))
    (case noCF_above => k_is)
    (case kCA => (refine' ⟨?nsn, ?rd, ?ga, ?most, ?pg, ?hd, ?po, ?sa, ?mks, ?kp, ?ha, ?hn, ?ht, ?hm⟩; (case nsn => k_is); (case rd => k_is); (case ga => k_is); (case most => k_is); (case pg => k_is); (case hd => k_is); (case po => k_is); (case sa => k_is); (case mks => k_is); (case kp => k_is); (case ha => k_is); (case hn => k_is); (case ht => k_is); (case hm => k_is)))
    (case noCA_own_forest => k_is)
    (case noCA_own_places => k_is)
    (case root => k_is)
    (case cL => k_is)
    (case cT => k_is)
    (case cD => k_is)
    (case cMd => k_is)
    (case cNf => k_is)
    (case n_bgC => k_is)
    (case u_bgC => (refine' L2.fun_mk ?l ?c ?k; (case l => k_is); (case c => k_is); (case k => k_is)))
    (case n_dtC => k_is)
    (case u_dtC => (refine' L2.fun_mk ?l ?c ?k; (case l => k_is); (case c => k_is); (case k => k_is)))
    (case n_dpC => k_is)
    (case u_dpC => (refine' L2.fun_mk ?l ?c ?k; (case l => k_is); (case c => k_is); (case k => k_is)))
    (case n_nmC => k_is)
    (case u_nmC => (refine' L2.fun_mk ?l ?c ?k; (case l => k_is); (case c => k_is); (case k => k_is)))
    (case n_trC => k_is)
    (case u_trC => (refine' L2.fun_mk ?l ?c ?k; (case l => k_is); (case c => k_is); (case k => k_is)))
    (case n_isn => k_is)
    (case u_isn => (refine' L2.fun_mk ?l ?c ?k; (case l => k_is); (case c => k_is); (case k => k_is)))
    (case n_isa => k_is)
    (case u_isa => (refine' L2.fun_mk ?l ?c ?k; (case l => k_is); (case c => k_is); (case k => k_is)))
    (case n_nd => k_is)
    (case u_nd => (refine' L2.fun_mk ?l ?c ?k; (case l => k_is); (case c => k_is); (case k => k_is)))
    (case n_plC => k_is)
    (case u_plC => (refine' L2.fun_mk ?l ?c ?k; (case l => k_is); (case c => k_is); (case k => k_is)))
    (case n_btC => k_is)
    (case u_btC => (refine' L2.fun_mk ?l ?c ?k; (case l => k_is); (case c => k_is); (case k => k_is)))
    (case n_siC => k_is)
    (case u_siC => (refine' L2.fun_mk ?l ?c ?k; (case l => k_is); (case c => k_is); (case k => k_is)))
    (case n_liC => k_is)
    (case u_liC => (refine' L2.fun_mk ?l ?c ?k; (case l => k_is); (case c => k_is); (case k => k_is)))
    (case n_io => k_is)
    (case u_io => (refine' L2.fun_mk ?l ?c ?k; (case l => k_is); (case c => k_is); (case k => k_is)))
    (case n_psS => k_is)
    (case u_psS => (refine' L2.fun_mk ?l ?c ?k; (case l => k_is); (case c => k_is); (case k => k_is)))
    (case n_psA => k_is)
    (case u_psA => (refine' L2.fun_mk ?l ?c ?k; (case l => k_is); (case c => k_is); (case k => k_is)))
    (case n_erC => k_is)
    (case u_erC => (refine' L2.fun_mk ?l ?c ?k; (case l => k_is); (case c => k_is); (case k => k_is)))
    (case n_law => k_is)
    (case u_law => (refine' L2.funC_mk ?l ?e ?k; (case l => k_is); (case e => k_is); (case k => k_is)))
    (case t1_law => rfl)
    (case t2_law => rfl)
    (case t3_law => rfl)
    (case m_fi => (refine' ⟨?at_, ?fn⟩; (case at_ => k_is); (case fn => k_is)))
    (case m_ai => (refine' ⟨?at_, ?fn⟩; (case at_ => k_is); (case fn => k_is)))
    (case m_fl => (refine' ⟨?at_, ?get, ?tak, ?rec_⟩; (case at_ => k_is); (case get => k_is); (case tak => k_is); (case rec_ => k_is)))
    (case m_ap => (refine' ⟨?at_, ?get, ?tak, ?rec_⟩; (case at_ => k_is); (case get => k_is); (case tak => k_is); (case rec_ => k_is)))
    (case u_fi => (refine' L2.fun_mk ?l ?c ?k; (case l => k_is); (case c => k_is); (case k => k_is)))
    (case u_ai => (refine' L2.fun_mk ?l ?c ?k; (case l => k_is); (case c => k_is); (case k => k_is)))
    (case u_fl => (refine' L2.fun_mk ?l ?c ?k; (case l => k_is); (case c => k_is); (case k => k_is)))
    (case u_ap => (refine' L2.fun_mk ?l ?c ?k; (case l => k_is); (case c => k_is); (case k => k_is)))
    (case rt0 => (refine' ⟨?nsn, ?at_, ?rd, ?ga, ?ini, ?hn, ?ht⟩; (case nsn => k_is); (case at_ => (refine' ⟨_, _, _, _, _, _, _, _, _, _, _, _, _, _, ?xl⟩; (case xl => rfl))); (case rd => k_is); (case ga => k_is); (case ini => k_is); (case hn => k_is); (case ht => k_is)))
    (case e_Mismatch => (refine' ⟨?nsn, ?at_, ?sa, ?ga, ?gg, ?ha, ?kC, ?no, ?ini, ?ity⟩; (case nsn => k_is); (case at_ => (refine' ⟨_, _, _, _, _, _, _, _, _, _, _, _, _, _, ?xl⟩; (case xl => rfl))); (case sa => k_is); (case ga => k_is); (case gg => k_is); (case ha => k_is); (case kC => k_is); (case no => k_is); (case ini => k_is); (case ity => k_is)))
    (case i_Mismatch => (refine' L2.fun_mk ?l ?c ?k; (case l => k_is); (case c => k_is); (case k => k_is)))
    (case e_UnknownName => (refine' ⟨?nsn, ?at_, ?sa, ?ga, ?gg, ?ha, ?kC, ?no, ?ini, ?ity⟩; (case nsn => k_is); (case at_ => (refine' ⟨_, _, _, _, _, _, _, _, _, _, _, _, _, _, ?xl⟩; (case xl => rfl))); (case sa => k_is); (case ga => k_is); (case gg => k_is); (case ha => k_is); (case kC => k_is); (case no => k_is); (case ini => k_is); (case ity => k_is)))
    (case i_UnknownName => (refine' L2.fun_mk ?l ?c ?k; (case l => k_is); (case c => k_is); (case k => k_is)))
    (case e_InvalidSizes => (refine' ⟨?nsn, ?at_, ?sa, ?ga, ?gg, ?ha, ?kC, ?no, ?ini, ?ity⟩; (case nsn => k_is); (case at_ => (refine' ⟨_, _, _, _, _, _, _, _, _, _, _, _, _, _, ?xl⟩; (case xl => rfl))); (case sa => k_is); (case ga => k_is); (case gg => k_is); (case ha => k_is); (case kC => k_is); (case no => k_is); (case ini => k_is); (case ity => k_is)))
    (case i_InvalidSizes => (refine' L2.fun_mk ?l ?c ?k; (case l => k_is); (case c => k_is); (case k => k_is)))
    (case e_InvalidForest => (refine' ⟨?nsn, ?at_, ?sa, ?ga, ?gg, ?ha, ?kC, ?no, ?ini, ?ity⟩; (case nsn => k_is); (case at_ => (refine' ⟨_, _, _, _, _, _, _, _, _, _, _, _, _, _, ?xl⟩; (case xl => rfl))); (case sa => k_is); (case ga => k_is); (case gg => k_is); (case ha => k_is); (case kC => k_is); (case no => k_is); (case ini => k_is); (case ity => k_is)))
    (case i_InvalidForest => (refine' L2.fun_mk ?l ?c ?k; (case l => k_is); (case c => k_is); (case k => k_is)))
    (case e_InvalidUsers => (refine' ⟨?nsn, ?at_, ?sa, ?ga, ?gg, ?ha, ?kC, ?no, ?ini, ?ity⟩; (case nsn => k_is); (case at_ => (refine' ⟨_, _, _, _, _, _, _, _, _, _, _, _, _, _, ?xl⟩; (case xl => rfl))); (case sa => k_is); (case ga => k_is); (case gg => k_is); (case ha => k_is); (case kC => k_is); (case no => k_is); (case ini => k_is); (case ity => k_is)))
    (case i_InvalidUsers => (refine' L2.fun_mk ?l ?c ?k; (case l => k_is); (case c => k_is); (case k => k_is)))
    (case e_UnknownUser => (refine' ⟨?nsn, ?at_, ?sa, ?ga, ?gg, ?ha, ?kC, ?no, ?ini, ?ity⟩; (case nsn => k_is); (case at_ => (refine' ⟨_, _, _, _, _, _, _, _, _, _, _, _, _, _, ?xl⟩; (case xl => rfl))); (case sa => k_is); (case ga => k_is); (case gg => k_is); (case ha => k_is); (case kC => k_is); (case no => k_is); (case ini => k_is); (case ity => k_is)))
    (case i_UnknownUser => (refine' L2.fun_mk ?l ?c ?k; (case l => k_is); (case c => k_is); (case k => k_is)))
    (case e_InvalidPlace => (refine' ⟨?nsn, ?at_, ?sa, ?ga, ?gg, ?ha, ?kC, ?no, ?ini, ?ity⟩; (case nsn => k_is); (case at_ => (refine' ⟨_, _, _, _, _, _, _, _, _, _, _, _, _, _, ?xl⟩; (case xl => rfl))); (case sa => k_is); (case ga => k_is); (case gg => k_is); (case ha => k_is); (case kC => k_is); (case no => k_is); (case ini => k_is); (case ity => k_is)))
    (case i_InvalidPlace => (refine' L2.fun_mk ?l ?c ?k; (case l => k_is); (case c => k_is); (case k => k_is)))
    (case e_InvalidText => (refine' ⟨?nsn, ?at_, ?sa, ?ga, ?gg, ?ha, ?kC, ?no, ?ini, ?ity⟩; (case nsn => k_is); (case at_ => (refine' ⟨_, _, _, _, _, _, _, _, _, _, _, _, _, _, ?xl⟩; (case xl => rfl))); (case sa => k_is); (case ga => k_is); (case gg => k_is); (case ha => k_is); (case kC => k_is); (case no => k_is); (case ini => k_is); (case ity => k_is)))
    (case i_InvalidText => (refine' L2.fun_mk ?l ?c ?k; (case l => k_is); (case c => k_is); (case k => k_is)))
    (case e_Crowded => (refine' ⟨?nsn, ?at_, ?sa, ?ga, ?gg, ?ha, ?kC, ?no, ?ini, ?ity⟩; (case nsn => k_is); (case at_ => (refine' ⟨_, _, _, _, _, _, _, _, _, _, _, _, _, _, ?xl⟩; (case xl => rfl))); (case sa => k_is); (case ga => k_is); (case gg => k_is); (case ha => k_is); (case kC => k_is); (case no => k_is); (case ini => k_is); (case ity => k_is)))
    (case i_Crowded => (refine' L2.fun_mk ?l ?c ?k; (case l => k_is); (case c => k_is); (case k => k_is)))
    (case e_InvalidNumber => (refine' ⟨?nsn, ?at_, ?sa, ?ga, ?gg, ?ha, ?kC, ?no, ?ini, ?ity⟩; (case nsn => k_is); (case at_ => (refine' ⟨_, _, _, _, _, _, _, _, _, _, _, _, _, _, ?xl⟩; (case xl => rfl))); (case sa => k_is); (case ga => k_is); (case gg => k_is); (case ha => k_is); (case kC => k_is); (case no => k_is); (case ini => k_is); (case ity => k_is)))
    (case i_InvalidNumber => (refine' L2.fun_mk ?l ?c ?k; (case l => k_is); (case c => k_is); (case k => k_is)))
    (case e_InvalidPin => (refine' ⟨?nsn, ?at_, ?sa, ?ga, ?gg, ?ha, ?kC, ?no, ?ini, ?ity⟩; (case nsn => k_is); (case at_ => (refine' ⟨_, _, _, _, _, _, _, _, _, _, _, _, _, _, ?xl⟩; (case xl => rfl))); (case sa => k_is); (case ga => k_is); (case gg => k_is); (case ha => k_is); (case kC => k_is); (case no => k_is); (case ini => k_is); (case ity => k_is)))
    (case i_InvalidPin => (refine' L2.fun_mk ?l ?c ?k; (case l => k_is); (case c => k_is); (case k => k_is)))
    (case e_NotBest => (refine' ⟨?nsn, ?at_, ?sa, ?ga, ?gg, ?ha, ?kC, ?no, ?ini, ?ity⟩; (case nsn => k_is); (case at_ => (refine' ⟨_, _, _, _, _, _, _, _, _, _, _, _, _, _, ?xl⟩; (case xl => rfl))); (case sa => k_is); (case ga => k_is); (case gg => k_is); (case ha => k_is); (case kC => k_is); (case no => k_is); (case ini => k_is); (case ity => k_is)))
    (case i_NotBest => (refine' L2.fun_mk ?l ?c ?k; (case l => k_is); (case c => k_is); (case k => k_is)))
    (case apart => decide +kernel)
    (case dist => decide +kernel)
    (case z_abs => k_is)
    (case z_len => k_is)
    (case z_rng => k_is)
    (case z_enu => k_is)
    (case z_zip => k_is)
    (case z_isi => k_is)
    (case z_all => k_is)
    (case z_srt => k_is)
    (case z_lst => k_is)
    (case z_dct => k_is)
    (case z_str => k_is)
    (case z_int => k_is)
    (case z_tup => k_is)
    (case z_sum => k_is)
    (case z_min => k_is)
    (case z_max => k_is)
    (case z_rep => k_is)
    (case z_bool => k_is)
    (case z_any => k_is)
    (case z_vE => k_is)
