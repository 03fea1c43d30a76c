import PyProof.Rows.All
import Wide.All
import OpenK.AllK
import Wide.FinOn
import HandS.ForMost
import PyProof.EqAt
import PyProof.EqKinds
import PyProof.TupleCall
import KE.KFromBytes
import KE.KExcIs
import HandS.Exc
import HandS.TryOnly
import HandS.ExcInit
import HandS.ExcIs
import HandS.ExcField
import HandS.IsInst
import HandS.ClsMeth
import HandS.Defaults
import HandS.DictComp
import HandS.SortKw
import HandS.More
import HandS.Nested
import PyProof.Rows.StrRules
import PyProof.Rows.SortKeyStr
import KE.KUnpackStar
import HandS.Flow
import HandS.Walk
import HandS.Wide
import HandS.Text
import HandS.Style
import HandS.Property
import HandS.WordsDict
import HandS.ListItems
import HandS.Finally
import PyProof.ReprBulk
import HandS.WordsExc
import HandS.Conv
import HandS.TupAny
import HandS.OwnEq
import PyProof.InstNe
import HandS.List
import HandS.GenOver
import HandS.GenList
import KE.GoesComp
import KE.GoesRaise
import KE.KAsSuite
import HandS.GenYield
import HandS.Lambda
import HandS.EndBits
import KE.KNest
import HandS.Small
import KE.KDictZip
import KE.KTurns
import HandS.ExcOwn
import KE.RegKIsAll
import Wide.Loose
import PySem.Challenge.RW_flagtrees_k05_toggles
set_option Elab.async false
set_option linter.all false
set_option maxRecDepth 100000
set_option maxHeartbeats 8000000

namespace FT
open PySem L2
/-- the i-th statement of the row's text -/
def top (i : Nat) : Stmt := PySem.Challenge.pw_flagtrees_k05_toggles.main.body.getD i (.Pass ⟨0, 0, 0, 0⟩)
abbrev s__wall : Stmt := top 0
abbrev s_InvalidForest___init__ : Stmt := inClass (top 3) 0
abbrev s_UnknownName___init__ : Stmt := inClass (top 4) 0
abbrev s_InvalidUsers___init__ : Stmt := inClass (top 5) 0
abbrev s_InvalidSizes___init__ : Stmt := inClass (top 6) 0
abbrev s_InvalidPlace___init__ : Stmt := inClass (top 7) 0
abbrev s_Mismatch___init__ : Stmt := inClass (top 8) 0
abbrev s_InvalidNumber___init__ : Stmt := inClass (top 9) 0
abbrev s_NotBest___init__ : Stmt := inClass (top 10) 0
abbrev s_is_name : Stmt := top 14
abbrev s_is_ancestor : Stmt := top 15
abbrev s_need_parents : Stmt := top 16
abbrev s_Forest___init__ : Stmt := inClass (top 17) 2
abbrev s_Forest___eq__ : Stmt := inClass (top 17) 3
abbrev s_Forest_flags : Stmt := inClass (top 17) 4
abbrev s_Forest_parents : Stmt := inClass (top 17) 5
abbrev s_Forest_text : Stmt := inClass (top 17) 6
abbrev s_Forest_children : Stmt := inClass (top 17) 7
abbrev s_Forest_path : Stmt := inClass (top 17) 8
abbrev s_Forest_under : Stmt := inClass (top 17) 9
abbrev s_Forest_distance : Stmt := inClass (top 17) 10
abbrev s_Forest_walk : Stmt := inClass (top 17) 11
abbrev s_Forest_parse : Stmt := inClass (top 17) 12
abbrev s_path_in : Stmt := top 18
abbrev s_path_difference : Stmt := top 19
abbrev s_need_place : Stmt := top 20
abbrev s_sizes_of : Stmt := top 22
abbrev s_Assignment___init__ : Stmt := inClass (top 23) 1
abbrev s_Assignment___eq__ : Stmt := inClass (top 23) 2
abbrev s_Assignment_forest : Stmt := inClass (top 23) 3
abbrev s_Assignment_places : Stmt := inClass (top 23) 4
abbrev s_Assignment_total : Stmt := inClass (top 23) 5
abbrev s_Assignment_sizes : Stmt := inClass (top 23) 6
abbrev s_Assignment_flags_of : Stmt := inClass (top 23) 7
abbrev s_Assignment_has : Stmt := inClass (top 23) 8
abbrev s_Assignment_users_of : Stmt := inClass (top 23) 9
abbrev s_Assignment_at : Stmt := inClass (top 23) 10
abbrev s_Assignment_moved : Stmt := inClass (top 23) 11
abbrev s_Assignment_empty : Stmt := inClass (top 23) 12
abbrev s_need_match : Stmt := top 24
abbrev s_toggles : Stmt := top 25
abbrev s_user_changes : Stmt := top 26
abbrev s_changes : Stmt := top 27
abbrev s__law_begin : Stmt := top 29
abbrev s__law_take : Stmt := top 30
abbrev s__law_pick : Stmt := top 31
abbrev s__law_order : Stmt := top 32
abbrev s__law_names : Stmt := top 33
abbrev s__law_parents : Stmt := top 34
abbrev s__law_path : Stmt := top 35
abbrev s__law_far : Stmt := top 36
abbrev s__law_every : Stmt := top 37
abbrev s__law_error : Stmt := top 38
abbrev s__law_due : Stmt := top 39
abbrev s__law_paths_right : Stmt := top 40
abbrev s__law_other_parents : Stmt := top 41
abbrev s_law : Stmt := top 42
end FT


/-! Own: an exception class over ValueError called with one keyword, `C(name=value)`. The library's lemmas (HandSPX.call_own) say it for calls without keywords; these say it for one keyword. -/
namespace FX
open PySem PySem.W PySem.Calls PyProof.Rows PySem.HandSPX
section
variable {Mo : Model} {Ar : Around} {Er : Value → Shared → Prop} {he : Heap} {ge : Array GenState} {dr : Drawn} {tk : Nat} {os : OsState}
variable {nm qn : Str} {C N : Addr} {bs bm bmB : List Value} {hdct : Bool} {sn : List Str} {sub : List Value} {ab : Bool} {col : Option Bool} {dd : Option Addr} {k0 k1 k2 k3 k5 : Option Value} {B idN idI : String}
variable {kn : Str} {kv : Value} {more : List Value}
/-- the class object of an exception class, short -/
abbrev XO (nm qn : Str) (C N : Addr) (bs bm : List Value) (hdct : Bool) (sn : List Str) (sub : List Value) (ab : Bool) (col : Option Bool) (dd : Option Addr) (k0 k1 k2 k3 k5 : Option Value) (idN : String) : Obj :=
  excClassObj nm qn C N bs bm hdct sn sub ab col dd k0 k1 k2 k3 k5 idN
abbrev SameTy (bm bmB : List Value) : Prop := ∀ T : String, bm.contains (.type T) = bmB.contains (.type T)
end
section
variable {pg : Program} {w : World} {Ar : Around} {Er : Value → Shared → Prop} {Rs : Result → Shared → Prop} {he : Heap} {ge : Array GenState} {dr : Drawn} {tk : Nat} {os : OsState}
variable {nm qn : Str} {C N fI : Addr} {bs bm bmB : List Value} {hdct : Bool} {sn : List Str} {sub : List Value} {ab : Bool} {col : Option Bool} {dd : Option Addr} {k0 k1 k2 k3 k5 : Option Value} {B idN idI : String}
variable {kn : Str} {kv : Value} {more : List Value}
/-- the heap with the new exception -/
abbrev withX (he : Heap) (C : Addr) (more : List Value) : Heap := (he.push (W.kdv_tup more)).push (excO C he.objs.size)
end
end FX


namespace L2
open PySem PySem.Spec PyProof.Rows
/-- what the written part says of an own exception class over ValueError -/
structure XCls (K : PySem.W.Frag) (C : Addr) : Prop where
  cls : ∃ nm q N bs bm sn sub ab col dd k0 k1 k2 k3 k5, K.lookup C = some (excClassObj nm q C N bs bm true sn sub ab col dd k0 k1 k2 k3 k5 "ValueError.__new__") ∧ PySem.HandSPX.refsVE bm = true
  sa : PySem.W.findIn K (.ref C) "__setattr__" = some (some (.builtin "object.__setattr__"))
  exC : PySem.W.subIn K (.ref C) (.type "BaseException") = some true
  tyC : PySem.W.typeIn K (.ref C) = some (.type "type")
  kC : PySem.W.keepIn K (.ref C) = true
  ga : PySem.W.findIn K (.ref C) "__getattribute__" = some (some (.builtin "BaseException.__getattribute__"))
  gg : PySem.W.findIn K (.ref C) "__getattr__" = some none
  hdC : PySem.W.hasDictIn K C = true
  ha : PySem.W.findIn K (.ref C) "__class__" = some (some (.builtin "object.__class__"))
  hn : PySem.W.specialIn K (.builtin "object.__class__") "__get__" = some (some (.builtin "getset_descriptor.__get__"))
  ht : PySem.W.takesIn K (.builtin "object.__class__") = some true
  hm : PySem.W.mroIn K C (.type "object") = some true
theorem XCls.oex {K : PySem.W.Frag} {C : Addr} (c : XCls K C) : OexC K C := ⟨c.cls, c.sa, c.exC, c.tyC, c.kC⟩
/-- an exception object at a, by class and dict, its fields not told -/
def exg (a C : Addr) (d : Option Addr) : HO := .ext fun h => ∃ vs sl, h.get? a = some ({ cls := .ref C, dict := d, data := .fields vs, slots := sl } : Obj)
theorem exg_ok {P : Program} {w : World} {H : Hp} {h : Heap} {e C : Addr} {d : Option Addr} {vs : Array Value} {sl : Array (Option Value)} (he : h.get? e = some ({ cls := .ref C, dict := d, data := .fields vs, slots := sl } : Obj)) : ObjOk P w H h e (exg e C d) :=
  ⟨⟨vs, sl, he⟩, ⟨_, he⟩, fun h1 h2 z k => by
    obtain ⟨vs, sl, q⟩ := z
    exact ⟨vs, sl, k _ q⟩⟩
def XAt (H : Hp) (a C : Addr) (d : Option Addr) : Prop := H a = some (exo a C d) ∨ H a = some (exg a C d)
theorem XAt.obj {P : Program} {w : World} {H : Hp} {h : Heap} {a C : Addr} {d : Option Addr} (x : XAt H a C d) (hok : HOk P w H h) : ∃ ox vs, h.get? a = some ox ∧ ox.cls = .ref C ∧ ox.dict = d ∧ ox.data = .fields vs := by
  rcases x with e | e
  · obtain ⟨t1, q⟩ := exo_at hok e
    exact ⟨_, _, q, rfl, rfl, rfl⟩
  · have z : ObjOk P w H h a (.ext fun h => ∃ vs sl, h.get? a = some ({ cls := .ref C, dict := d, data := .fields vs, slots := sl } : Obj)) := hok a _ e
    obtain ⟨⟨vs, sl, q⟩, _⟩ := z
    exact ⟨_, vs, q, rfl, rfl, rfl⟩
def XD (H : Hp) (dx : Addr) (fs : List (Str × V)) : Prop := H dx = some (exd dx fs) ∨ H dx = some (.xd fs)
theorem XD.at {P : Program} {w : World} {H : Hp} {h : Heap} {dx : Addr} {fs : List (Str × V)} (x : XD H dx fs) (hok : HOk P w H h) : ∃ mA, h.Ns1 dx mA ∧ ∀ f, RelO (fs.lookup f) (mA f) := by
  rcases x with e | e
  · exact exd_at hok e
  · have z : ObjOk P w H h dx (.xd fs) := hok dx _ e
    exact z
/-- an exception of the class at C stands at a; its attributes are fs -/
def XV (H : Hp) (a C : Addr) (fs : List (Str × V)) : Prop := (XAt H a C none ∧ fs = []) ∨ ∃ dx, XAt H a C (some dx) ∧ XD H dx fs
theorem XV.inst {P : Program} {w : World} {H : Hp} {h : Heap} {a C : Addr} {fs : List (Str × V)} (x : XV H a C fs) (hok : HOk P w H h) : ∃ ox od, PySem.W.InstAt h a ox C od := by
  rcases x with ⟨x, _⟩ | ⟨dx, x, y⟩
  · obtain ⟨ox, vs, e1, e2, e3, e4⟩ := x.obj hok
    exact ⟨ox, none, e1, e2, by unfold PySem.W.notCls; rw [e4] <;> rfl, by rw [e3]; trivial⟩
  · obtain ⟨ox, vs, e1, e2, e3, e4⟩ := x.obj hok
    obtain ⟨mA, hn, hr⟩ := y.at hok
    obtain ⟨od, ho, hl⟩ := lookIn_ns hn
    exact ⟨ox, some od, e1, e2, by unfold PySem.W.notCls; rw [e4] <;> rfl, by rw [e3]; exact ho⟩
theorem XV.look {P : Program} {w : World} {H : Hp} {h : Heap} {a C : Addr} {fs : List (Str × V)} {f : Str} {v : V} (x : XV H a C fs) (hok : HOk P w H h) (hl : fs.lookup f = some v) :
    ∃ ox od u, PySem.W.InstAt h a ox C (some od) ∧ PySem.W.lookIn f od = some (some u) ∧ RelV v u := by
  rcases x with ⟨_, e⟩ | ⟨dx, x, y⟩
  · rw [e] at hl
    cases hl
  · obtain ⟨ox, vs, e1, e2, e3, e4⟩ := x.obj hok
    obtain ⟨mA, hn, hr⟩ := y.at hok
    obtain ⟨od, ho, hk⟩ := lookIn_ns hn
    obtain ⟨u, hu, ru⟩ := RelO.some_of (v := v) (o := mA f) (by rw [← hl]; exact hr f)
    exact ⟨ox, od, u, ⟨e1, e2, by unfold PySem.W.notCls; rw [e4] <;> rfl, by rw [e3]; exact ho⟩, by rw [hk, hu], ru⟩

section
variable {X : Cx}
/-- isinstance(e, c), e an exception of an own class -/
def rIsX (K : PySem.W.Frag) : List V → Hp → VK → Prop := fun xs H Q => ∃ (a C : Addr) (fs : List (Str × V)) (c : V) (u : Value) (b : Bool), xs = [.ref a, c] ∧ ClsV c u ∧ XCls K C ∧ XV H a C fs ∧ PySem.W.kitOne K (.ref C) u = some b ∧ Q (.bl b) H
theorem call_isX : CallR X (.builtin "isinstance") (rIsX X.K) := by
  intro pins s σ H xs us Q I r h
  obtain ⟨a, C, fs, c, u, b, rfl, k, T, xv, e, q⟩ := h
  obtain ⟨u1, u2, rfl, r1, r2⟩ := vals2 r
  have e2 := k.eq r2
  subst e2
  obtain rfl : u1 = Value.ref a := r1
  obtain ⟨ox, od, J⟩ := xv.inst I.hok
  have hcl : (PySem.W.clsIn X.K C).isSome = true := by
    obtain ⟨cd, hc, _⟩ := PySem.W.any_some T.hdC
    rw [hc] <;> rfl
  exact PySem.W.kia_one (PySem.W.kitx_exc hcl T.ga T.gg T.exC T.ha T.hn T.ht T.hm) I.kIn J e (fun z => nomatch z) fun tk => ⟨.bl b, H, I.tok tk, rfl, q⟩
/-- e.f -/
def tXFld (K : PySem.W.Frag) (te : TE) (f : Str) : TE := fun σ H Q => te σ H fun x H1 => ∃ (a C : Addr) (fs : List (Str × V)) (v : V), x = .ref a ∧ XV H1 a C fs ∧ XCls K C ∧ PySem.W.findIn K (.ref C) f = some none ∧ fs.lookup f = some v ∧ Q v H1
/-- R.__init__(self, ..), R an own class whose __init__ is ValueError's -/
structure XIni (K : PySem.W.Frag) (R : Addr) : Prop where
  rd : PySem.W.readsIn K R (.type "type") = true
  ga : PySem.W.specialIn K (.ref R) "__getattribute__" = some (some (.builtin "type.__getattribute__"))
  at_ : PySem.W.findCls K (.ref R) (.type "type") "__init__" = some (.val (.builtin "ValueError.__init__"))
theorem pe_clsinit {R : Addr} {rn : Str} {e : Expr} {es : List Expr} {ta : TA} {p1 p2 pos : Pos} {pl : Sem Bool} (T0 : XIni X.K R) (hg : Gl X rn) (hm : X.mg rn = some (.ref R)) (ha : PA X (e :: es) ta)
    (hdb : (rn == ("__debug__" : Str)) = false := by decide)
    (hc : eval (.Call (.Attribute (.Name rn p1) "__init__" p2) (e :: es) [] pos) X.env = (do
      let ov ← eval (.Name rn p1) X.env
      standAt p2.atName
      let (f, first) ← holding [ov] (getMethod ov "__init__" pl)
      callWith pos f first (backTo pos (starEach (e :: es) X.env)) (backToKw pos (keywordEach [] X.env))) := by rfl)
    (he : starEach (e :: es) X.env = (false, eval e X.env) :: starEach es X.env := by rfl) (hpl : (backTo pos (starEach es X.env)).any (·.1) = false := by rfl) :
    PE X (.Call (.Attribute (.Name rn p1) "__init__" p2) (e :: es) [] pos) (tVeI X.K ta) := by
  refine ⟨fun pins s σ H Q I h => ?_⟩
  refine PySem.W.methodCall_KW (ld_glob I hg hm ?_ hdb) hc
  refine PySem.W.method_cls I.kIn T0.ga (PySem.W.cls_value I.kIn T0.rd T0.at_ rfl ?_)
  show wpAny _ _ (callWith pos (Value.builtin "ValueError.__init__") [] (backTo pos (starEach (e :: es) X.env)) []) _ _ _
  refine PyProof.Rows.callWith_method1 (thn (ha.run pos pins _ σ H _ (I.tok _) h) fun us s1 ⟨vs, H1, I1, r1, a, C, ws, ev, hl, T, ea, q⟩ => ?_) he hpl
  subst ev
  cases r1 with
  | @cons _ u0 _ ur ra rw' =>
    obtain rfl : u0 = Value.ref a := ra
    have hlen : ur.length ≤ sizeLine := by
      rw [← Paired.length rw', sizeLine_eq]
      omega
    exact oinit_ok T I1 ea hlen fun s' J => ⟨.non, H1, J, rfl, q⟩

/-! ### C(..) as a value -/
variable {CX : CXT} {C fI : Addr} {k : Nat} {fd : FuncData} {ps : List Str} {sp : Sp} {ds : List Value} {dvs : List V} {E : XK}
/-- the state with a new exception of C laid, its arguments at the heap's end -/
theorem Inv.xnew {pins : List (Addr × Obj)} {σ : St} {H : Hp} {hp : Heap} {gn : Array GenState} {dr : Drawn} {tk : Nat} {os : OsState} (C : Addr) (us : List Value) (I : Inv X pins σ H ⟨hp, gn, dr, tk, os⟩) :
    H (hp.objs.size + 1) = none ∧ Inv X pins σ (upd H (hp.objs.size + 1) (exo (hp.objs.size + 1) C none)) ⟨FX.withX hp C us, gn, dr, tk, os⟩ := by
  have le : hp.objs.size ≤ hp.objs.size + 1 := Nat.le_succ _
  have at_ : (FX.withX hp C us).get? (hp.objs.size + 1) = some (PySem.HandSPX.excO C hp.objs.size) := by heap_get
  exact ⟨I.hok.fresh le, I.laid (t' := tk) (h' := FX.withX hp C us) (fun _ _ z => Heap.get?_push_of_some _ (Heap.get?_push_of_some _ z)) le (exo_ok at_)⟩
/-- C(e, ..) as a value; C's own __init__ keeps sp -/
def tMkX (C : Addr) (sp : Sp) (dvs : List V) (E : XK) (ta : TA) : TE := fun σ H Q => ta σ H fun vs H1 => vs.length ≤ 1000 ∧ ∀ a, H1 a = none → sp (.ref a :: (vs ++ dvs)) (upd H1 a (exo a C none)) (fun v H2 => v = .non ∧ Q (.ref a) H2) E
def tMkXK (C : Addr) (sp : Sp) (gV : List V → List V → List V) (E : XK) (te : TE) : TE := fun σ H Q => te σ H fun v H1 => ∀ a, H1 a = none → sp (gV [.ref a] [v]) (upd H1 a (exo a C none)) (fun v H2 => v = .non ∧ Q (.ref a) H2) E
variable {x : Str} {e : Expr} {es : List Expr} {ta : TA} {te : TE} {p pos kpos : Pos}
end
end L2


/-! y = {k: v for ..}, y a local; an expression whose answer is locked -/
namespace L2
open PySem PySem.Spec PyProof.Rows
section
variable {X : Cx} {i : Nat} {y : Str} {py : Pos} {kx vx tg iter : Expr} {ifs : List Expr} {scope : Scope} {own : List (Str × Nat)} {pos spos : Pos} {wi : TI} {g : TG} {tt : TT} {tk tv : TE}
/-- e, its answer locked from then on -/
def tLk (te : TE) : TE := fun σ H Q => te σ H fun x H1 => ∃ d u, x = .ref d ∧ H1 d = some u ∧ Mut (some u) ∧ ∀ od, Q (.ref d) (upd H1 d (.frz od u))
end
end L2


/-! try: .. except C as n: .., the caught exception known behind the try -/
namespace L2
open PySem PySem.Spec PyProof.Rows
section
variable {X : Cx} {pins : List (Addr × Obj)} {σ : St} {H : Hp} {s : Shared}
/-- an object that stands there is known from now on; the entry had none at its place -/
theorem Inv.known {a : Addr} {o : HO} (I : Inv X pins σ H s) (hn : H a = none) (h0 : X.s_0.heap.get? a = none) (hL : a ≠ X.env.locals) (h2 : ∀ x c, X.env.cells.lookup x = some c → c ≠ a) (h3 : ∀ p ∈ X.pn ++ pins, p.1 ≠ a)
    (new : ObjOk X.prog X.w (upd H a o) s.heap a o) : Inv X pins σ (upd H a o) s := by
  have nit : ∀ b u, H b = some u → b ≠ a := fun b u e z => by rw [z, hn] at e; cases e
  refine ⟨I.ok, I.os, I.bare, ⟨I.base.keep, I.base.slot, fun b o e n hx => ?_, I.base.there, fun b xs e => ?_, fun b o xs e => ?_, fun b ps e => ?_⟩, I.loc, I.cell, ?_, fun x c e => ?_, fun p hp => ?_, fun b u e => ?_, I.len⟩
  · rw [upd_ne (fun z => by rw [z, h0] at e; cases e)]
    exact I.base.free b o e n hx
  · have q := I.base.tups b xs e
    rw [upd_ne (nit b _ q)]
    exact q
  · have q := I.base.frzs b o xs e
    rw [upd_ne (nit b _ q)]
    exact q
  · obtain ⟨m, q⟩ := I.base.tbls b ps e
    exact ⟨m, by rw [upd_ne (nit b _ q)]; exact q⟩
  · rw [upd_ne (Ne.symm hL)]
    exact I.free
  · rw [upd_ne (h2 x c e)]
    exact I.freeC x c e
  · obtain ⟨e, n, r⟩ := I.pin p hp
    exact ⟨e, by rw [upd_ne (h3 p hp)]; exact n, r⟩
  · by_cases hb : b = a
    · subst hb
      rw [upd_same] at e
      cases e
      exact new
    · rw [upd_ne hb] at e
      exact (I.hok b u e).stay (fun c v hc q => q) (fun c q => by rw [upd_ne (nit c _ q)]; exact q) fun c _ q => by rw [upd_ne (nit c _ q)]; exact q
end
/-- what a landed exception is: its object, where it does not lie -/
structure Landed (X : Cx) (pins : List (Addr × Obj)) (σ : St) (H : Hp) (a C : Addr) (d : Option Addr) (h : Heap) (s : Shared) : Prop where
  inv : Inv X pins σ H { s with heap := h }
  obj : ∃ vs sl, h.get? a = some ({ cls := .ref C, dict := d, data := .fields vs, slots := sl } : Obj)
  free : H a = none
  entry : X.s_0.heap.get? a = none
  loc : a ≠ X.env.locals
  fs : a ∉ X.fs
  pin : ∀ p ∈ X.pn ++ pins, p.1 ≠ a
theorem Landed.of {X : Cx} {pins : List (Addr × Obj)} {σ : St} {H : Hp} {a C : Addr} {d : Option Addr} {h B : Heap} {s sI : Shared} (hs : X.stack = X.env :: X.outer) (hf : X.env.frame = some X.env.locals) (hex : X.ex = []) (J : Inv X pins σ H sI) (na : H a = none)
    (nb : ∀ b o, sI.heap.get? b = some o → b ∉ frs X.stack → B.get? b = some o) (hB : B.get? a = none) (ff : h.FunFrames B (X.env :: X.outer)) (there : ∃ oe vs, h.get? a = some oe ∧ Zc (.ref C) d oe ∧ oe.data = .fields vs) (K : Inv X pins σ H { s with heap := h }) : Landed X pins σ H a C d h s := by
  obtain ⟨⟨oc, od, odt, osl⟩, ws, at_, ⟨z1, z2⟩, z3⟩ := there
  have off : a ∉ frs (X.env :: X.outer) := fun hm => by
    obtain ⟨_, u, hu, plain⟩ := ff.mem hm
    rw [at_] at hu
    exact plain ws (by rw [← Option.some.inj hu]; exact z3)
  have out : sI.heap.get? a = none := by
    cases q : sI.heap.get? a with
    | none => rfl
    | some o => exact absurd (nb a o q (by rw [hs]; exact off)) (by rw [hB]; simp)
  refine ⟨K, ⟨ws, osl, ?_⟩, na, ?_, fun z => off (List.mem_filterMap.mpr ⟨X.env, .head _, by rw [hf, z]⟩), fun hm => ?_, fun p hp z => ?_⟩
  · dsimp only at z1 z2 z3
    rw [at_, z1, z2, z3]
  · cases q : X.s_0.heap.get? a with
    | none => rfl
    | some o =>
      obtain ⟨_, q2⟩ := J.base.there a o q (by rw [hex]; simp)
      rw [out] at q2
      cases q2
  · obtain ⟨e, m, q⟩ := List.mem_filterMap.mp hm
    exact off (List.mem_filterMap.mpr ⟨e, .tail _ m, q⟩)
  · have q := (J.pin p hp).1
    rw [z, out] at q
    cases q
/-- what is wanted of an exception in the try: as wAs, but behind the suite the exception is known -/
def wAsK (K : PySem.W.Frag) (c : Value) (i : Nat) (ts : Addr → Value → Option Addr → TS) (Wout : WX) (D : Ends) : WX := fun cls d σ H => ∃ b C, cls = Value.ref C ∧ PySem.W.exmOne K cls c = some b ∧
  (b = true → ∀ a, H a = none → ts a cls d ⟨fun σ' H' => D.nx (σ'.set i none) (upd H' a (exg a C d)), D.rt, fun σ' H' => D.bk (σ'.set i none) H', fun σ' H' => D.ct (σ'.set i none) H'⟩ (σ.set i (some (.ref a))) H) ∧ (b = false → Wout cls d σ H)
section
variable {X : Cx} {x n : Str} {c : Value} {i : Nat} {body suite : List Stmt} {st : Stmt} {np pos hpos : Pos} {tb : WX → TS} {ts : Addr → Value → Option Addr → TS} {Wout : WX}
/-- the end of such a suite -/
theorem keep_end {pins : List (Addr × Obj)} {σ σ6 : St} {H H6 : Hp} {a C : Addr} {d : Option Addr} {h : Heap} {s s6 : Shared} {oe : Obj} {Q : Shared → Prop} (L : Landed X pins σ H a C d h s) (eo : h.get? a = some oe) (hN : X.N.Nodup) (hi : X.N[i]? = some n) (hln : X.env.kindOf n = some .local)
    (S : Inv (X.suite a ((a, oe) :: (X.pn ++ pins))) [] σ6 H6 s6) (q : ∀ s7, Inv X pins (σ6.set i none) (upd H6 a (exg a C d)) s7 → Q s7) : wpAny (model X.prog X.w) X.A (do bindName X.env n .none; unbindBehindTheSuite X.env n hpos) (fun _ s7 => Q s7) X.xe s6 := by
  obtain ⟨p1, p2, _⟩ := S.pin (a, oe) (List.mem_append_left _ (.head _))
  obtain ⟨ws, sl, e0⟩ := L.obj
  rw [eo] at e0
  have p3 : s6.heap.get? a = some oe := p1
  rw [Option.some.inj e0] at p3
  have U := S.unsuite L.inv.ok
  refine gone_ok (U.known (o := exg a C d) p2 L.entry L.loc (fun y k e z => ?_) L.pin (exg_ok p3)) hN hi hln q
  obtain ⟨_, _, w1, w2⟩ := U.cell y k e
  rw [z, p3] at w1
  rw [← Option.some.inj w1] at w2
  cases w2
/-- try: body / except x as n: suite -/
theorem ps_try_keep (hs : X.stack = X.env :: X.outer) (hf : X.env.frame = some X.env.locals) (hex : X.ex = []) (hN : X.N.Nodup) (hi : X.N[i]? = some n) (hln : X.env.kindOf n = some .local) (hc : Names X x c) (tk : Takes X Wout)
    (hb : ∀ (W : WX) (pn : List (Addr × Obj)) (xe : Value → Shared → Prop), Takes (X.tr pn xe) W → PassesOwn (model X.prog X.w) X.A X.env xe → PSs (X.tr pn xe) body (tb W))
    (hsu : ∀ (a : Addr) (oe : Obj) (cls : Value) (d : Option Addr) (pn : List (Addr × Obj)), Zc cls d oe → (∃ vs, oe.data = .fields vs) → PSs (X.suite a ((a, oe) :: pn)) (st :: suite) (ts a cls d)) :
    PS X (.Try body [.ExceptHandler (some (.Name x np)) (some n) (st :: suite) hpos] [] [] pos) (fun D σ H => tb (wAsK X.K c i ts Wout D) D σ H) := by
  constructor
  intro pins s σ H D I h
  refine wpAny_Try_except (wpAny_mono ((hb (wAsK X.K c i ts Wout D) (X.pn ++ pins) (fun e t1 => wpAny (model X.prog X.w) X.A (noteFrame e X.env) (fun _ t2 => wpAny (model X.prog X.w) X.A (setFlight e none) (fun _ t3 =>
    wpAny (model X.prog X.w) X.A (handleBy e X.env [.ExceptHandler (some (.Name x np)) (some n) (st :: suite) hpos]) (SP X pins D) X.xe t3) X.xe t2) X.xe t1) (fun u s' air => ?_) PassesOwn.looking).run [] s σ H D (I.toTry _) h) (fun f t1 ok => ?_) fun _ _ z => z)
  case refine_2 =>
    cases f with
    | next => exact let ⟨σ1, H1, K, q⟩ := ok; wpAny_execs_nil ⟨σ1, H1, K.ofTry I.ok, q⟩
    | brk => exact let ⟨σ1, H1, K, q⟩ := ok; ⟨σ1, H1, K.ofTry I.ok, q⟩
    | cont => exact let ⟨σ1, H1, K, q⟩ := ok; ⟨σ1, H1, K.ofTry I.ok, q⟩
    | ret u => exact let ⟨v, σ1, H1, K, rv, q⟩ := ok; ⟨v, σ1, H1, K.ofTry I.ok, rv, q⟩
  case refine_1 =>
    obtain ⟨a, B, sI, pins', σ', H', cls, d, rfl, J', nb, up, sky, na, os, ag, b, C, rfl, mb, yes, no⟩ := air
    have J := J'.ofTry I.ok
    rw [hs] at sky
    have hfr : X.A.frames = some (X.env :: X.outer) := I.ok.frames.trans (congrArg some hs)
    show wpAny (model X.prog X.w) X.A (noteFrame (.ref a) X.env) _ _ _
    refine Sky.land Zc.steady hfr hf sky fun hA flA upA => ?_
    have KA : Inv X pins σ' H' { s' with heap := hA } := J.landed nb flA.1 (up.trans upA) os ag
    obtain ⟨oA, wA, atA, zA, dA⟩ := flA.there
    have LA := Landed.of (s := s') hs hf hex J na nb flA.2.1 flA.2.2.1 ⟨oA, wA, atA, zA, dA⟩ KA
    have SA := KA.suite atA dA na LA.loc LA.fs
    refine wpAny_handleBy_cons (codeAny_handlers_test ?_) fun z => by cases z
    have ty : PySem.W.Looks (model X.prog X.w) hA (typeOf (.ref a)) (.ref C) := fun _ _ _ _ kk q => wpAny_typeOf_ref (kk _ _ atA) (by rw [zA.1]; exact q)
    have mk := PySem.W.exm_one (M := model X.prog X.w) KA.kIn ty mb
    have named : ∀ {Q E : Value → Shared → Prop}, Q c { s' with heap := hA } → wpAny (model X.prog X.w) (X.A.mark (some (.ref a))) (eval (.Name x np) X.env) Q E { s' with heap := hA } := fun q => by
      obtain ⟨g, gd, e | ⟨e, bt, nn⟩⟩ := hc
      · exact ld_glob SA g e q gd
      · exact ld_blt SA g e bt q nn gd
    refine named (mk.here ?_)
    match b, yes, no with
    | true, yes, _ =>
      refine codeAny_handlers_suite_as (HandSPX.lands_againZ flA fun hC flC upC => ?_)
      have KC : Inv X pins σ' H' { s' with heap := hC } := J.landed nb flC.1 ((up.trans upA).trans upC) os ag
      obtain ⟨oC, wC, atC, zC, dC⟩ := flC.there
      have LC := Landed.of (s := s') hs hf hex J na nb flC.2.1 flC.2.2.1 ⟨oC, wC, atC, zC, dC⟩ KC
      refine store_ok (X := X.suite a ((a, oC) :: (X.pn ++ pins))) (v := .ref a) (KC.suite atC dC na LC.loc LC.fs) hN hi (.inl hln) rfl (fun t5 S5 => ?_) (.inr hln)
      refine wpAny_mono ((hsu a oC _ d (X.pn ++ pins) zC ⟨_, dC⟩).run [] t5 _ H' _ S5 (yes rfl a na)) (fun f t6 e6 => ?_) fun _ _ z => z.elim
      have plain : ∀ {σ6 : St} {H6 : Hp} {Q : Shared → Prop}, Inv (X.suite a ((a, oC) :: (X.pn ++ pins))) [] σ6 H6 t6 → (∀ t7, Inv X pins (σ6.set i none) H6 t7 → Q t7) → wpAny (model X.prog X.w) X.A (do bindName X.env n .none; unbindBehindTheSuite X.env n hpos) (fun _ t7 => Q t7) X.xe t6 :=
        fun S q => gone_ok (S.unsuite I.ok) hN hi hln q
      cases f with
      | next => exact let ⟨σ6, H6, S6, q6⟩ := e6; keep_end LC atC hN hi hln S6 fun t7 K7 => ⟨_, _, K7, q6⟩
      | brk => exact let ⟨σ6, H6, S6, q6⟩ := e6; plain S6 fun t7 K7 => ⟨_, _, K7, q6⟩
      | cont => exact let ⟨σ6, H6, S6, q6⟩ := e6; plain S6 fun t7 K7 => ⟨_, _, K7, q6⟩
      | ret u => exact let ⟨v6, σ6, H6, S6, r6, q6⟩ := e6; plain S6 fun t7 K7 => ⟨_, _, _, K7, r6, q6⟩
    | false, _, no =>
      show wpAny _ X.A (handleBy (.ref a) X.env []) _ _ _
      refine wpAny_handleBy_nil ?_
      obtain ⟨oe, vs, tb1, _, _, e1, _, e2, e3, _⟩ := flA.2.2.2
      unfold PySem.passOn
      refine wpAny_bind (wpAny_field e1 e2 e3 ?_)
      rw [if_neg (by simp)]
      have fly : wpAny (model X.prog X.w) X.A (setFlight (.ref a) X.env.frame) (fun _ t4 => wpAny (model X.prog X.w) X.A (throw (.ref a) : Sem Flow) (SP X pins D) X.xe t4) X.xe { s' with heap := hA } := by
        rw [hf]
        exact HandSPX.setFlight_upZ flA fun hD held upD => wpAny_throw (tk _ _ ⟨a, B, sI, pins, σ', H', .ref C, d, rfl, J, nb, (up.trans upA).trans upD, .inr (.inr (by rw [hs]; exact held)), na, os, ag, no rfl⟩)
      first | exact wpAny_bind (wpAny_pure (wpAny_bind fly)) | exact wpAny_bind fly
end
end L2


/-! raise C(..) where C's own __init__ writes no attribute -/
namespace L2
open PySem PySem.Spec PyProof.Rows
section
variable {X : Cx} {o e : Expr} {es : List Expr} {to te : TE} {ta : TA} {f : Str} {p p' p1 p2 pos : Pos}
/-- C(e, ..), C's own __init__ keeping sp; no attribute is written -/
def tMkO0 (C : Addr) (sp : Sp) (dvs : List V) (ta : TA) : St → Hp → XK → Prop := fun σ H Q => ta σ H fun vs H1 => vs.length ≤ 1000 ∧ ∀ a, H1 a = none → sp (.ref a :: (vs ++ dvs)) (upd H1 a (exo a C none))
  (fun v H2 => v = .non ∧ H2 a = some (exo a C none) ∧ Q (.ref C) none (del H2 a)) (fun _ _ _ => False)
/-- the new exception is let go -/
theorem mk_gone {pins : List (Addr × Obj)} {σ : St} {H1 H2 : Hp} {hp hp2 h2 : Heap} {g1 g2 : Array GenState} {d1 d2 : Drawn} {t1 t2 : Nat} {os1 os2 : OsState} {a C : Addr} (I1 : Inv X pins σ H1 ⟨hp, g1, d1, t1, os1⟩) (young : hp.objs.size ≤ a)
    (k : ∀ b o, hp.get? b = some o → hp2.get? b = some o) (un : Un (frs X.stack) [] (upd H1 a (exo a C none)) H2 hp2 h2) (hok : HOk X.prog X.w H2 h2) (ho : os2 = os1) (hb : AllBare g2) (ea : H2 a = some (exo a C none)) :
    ∃ (t0 : Addr) (G : Heap), Inv X pins σ (del H2 a) ⟨G, g2, d2, t2, os2⟩ ∧ (∀ b o, G.get? b = some o → h2.get? b = some o) ∧ G.get? a = none ∧ h2.get? a = some ({ cls := .ref C, dict := none, data := .fields #[.ref t0, .none, .none, .none, .bool false, .none] } : Obj) ∧ del H2 a a = none := by
  obtain ⟨t0, at2⟩ := exo_at hok ea
  have n1 : H1 a = none := I1.hok.fresh young
  obtain ⟨G, in_, out⟩ := restrict h2 fun b => decide (b ≠ a)
  have other : ∀ b, b ≠ a → G.get? b = h2.get? b := fun b nb => in_ b (decide_eq_true nb)
  have gone : G.get? a = none := out a (by simp)
  have old : ∀ {b : Addr} {o : Obj}, hp.get? b = some o → b ≠ a := fun z => Nat.ne_of_lt (Nat.lt_of_lt_of_le (Heap.lt_size z) young)
  have low : ∀ {b : Addr}, b ≠ a → H1 b = none → upd H1 a (exo a C none) b = none := fun nb n => (upd_ne nb).trans n
  have high : ∀ {b : Addr} {u : HO}, H1 b = some u → upd H1 a (exo a C none) b = some u ∧ b ≠ a := fun z => ⟨(upd_ne (ne_of_none z n1)).trans z, ne_of_none z n1⟩
  have U : Un (frs X.stack) [] H1 (del H2 a) hp G := by
    refine ⟨fun b o z n hf hx => (other b (old z)).trans (un.keep b o (k b o z) (low (old z) n) hf hx), fun b o z n hf hx => ?_, fun b o z n hx => (del_ne (old z)).trans (un.free b o (k b o z) (low (old z) n) hx), fun b o z hx => ?_, fun b xs z => (del_ne (high z).2).trans (un.tups b xs (high z).1),
      fun b o v z => (del_ne (high z).2).trans (un.frzs b o v (high z).1), fun b ps z => ?_⟩
    · obtain ⟨sl, q⟩ := un.slot b o (k b o z) (low (old z) n) hf hx
      exact ⟨sl, (other b (old z)).trans q⟩
    · obtain ⟨o', q⟩ := un.there b o (k b o z) hx
      exact ⟨o', (other b (old z)).trans q⟩
    · obtain ⟨m, q⟩ := un.tbls b ps (high z).1
      exact ⟨m, (del_ne (high z).2).trans q⟩
  have held : HOk X.prog X.w (del H2 a) G := fun b o z => by
    have nb : b ≠ a := fun e => by
      rw [e, del_same] at z
      cases z
    rw [del_ne nb] at z
    refine (hok b o z).stay (fun c v hc y => ?_) (fun c hc => (del_ne (at_ne ea hc exo_own)).trans hc) fun c xs hc => (del_ne (at_ne ea hc exo_tup)).trans hc
    refine (other c ?_).trans y
    rcases hc with rfl | hc
    · exact nb
    · exact at_ne ea hc exo_own
  refine ⟨t0, G, I1.call' (ch := []) ho U held hb (fun b z => absurd z (by simp)), fun b o z => ?_, gone, at2, del_same⟩
  by_cases nb : b = a
  · rw [nb, gone] at z
    cases z
  · exact (other b nb).symm.trans z
variable {CX : CXT} {x : Str} {C fI : Addr} {k : Nat} {fd : FuncData} {ps : List Str} {sp : Sp} {ds : List Value} {dvs : List V}
theorem run_mk0 {pins : List (Addr × Obj)} {σ : St} {H1 : Hp} {s : Shared} {Q : XK} {us : List Value} {vs : List V} (T : OexC X.K C) (iC : PySem.W.findIn X.K (.ref C) "__init__" = some (some (.ref fI))) (tI : PySem.W.typeIn X.K (.ref fI) = some (.type "function"))
    (F1 : FnOk X.prog X.w X.K X.mg X.base CX k fI fd ps sp) (hr : Room (k + 1) X.A) (hb : Binds X.K fd ps ds) (hd : Vals dvs ds) (hx : Passes CX X (fun _ _ _ => False)) (I1 : Inv X pins σ H1 s) (r1 : Vals vs us) (hz : vs.length ≤ 1000)
    (q1 : ∀ a, H1 a = none → sp (.ref a :: (vs ++ dvs)) (upd H1 a (exo a C none)) (fun v H2 => v = .non ∧ H2 a = some (exo a C none) ∧ Q (.ref C) none (del H2 a)) (fun _ _ _ => False)) :
    wpAny (model X.prog X.w) X.A (call (.ref C) us) (MkP X pins σ Q) X.xe s := by
  obtain ⟨_, _, _, _, bm, _, _, _, _, _, _, _, _, _, _, oC, tail⟩ := T.cls
  obtain ⟨hp, gn, dr, tk, os⟩ := s
  obtain ⟨new, J⟩ := Inv.xnew C us I1
  have want := q1 _ new
  have rel : Vals (V.ref (hp.objs.size + 1) :: (vs ++ dvs)) (Value.ref (hp.objs.size + 1) :: (us ++ ds)) := .cons rfl (r1.append hd)
  have len : (Value.ref (hp.objs.size + 1) :: us ++ ds).length = ps.length := rel.length.symm.trans (F1.len _ _ _ _ want)
  have few : us.length ≤ sizeLine := by
    have := r1.length
    rw [sizeLine_eq]; omega
  have go := F1.run _ X.stack _ _ ⟨Value.ref (hp.objs.size + 1) :: us, []⟩ (Value.ref (hp.objs.size + 1) :: (us ++ ds)) _ _ (fun _ _ _ => False) (hr.make C us []) (J.env0.make C us []) (hb _ (Value.ref (hp.objs.size + 1) :: us) J.kIn len) rel want
  refine wpAny_call (PySem.HandSPX.call_own F.excBase_ValueError (fun Y => PySem.HandSPX.refsVE_contains Y bm tail) (I1.kIn _ _ oC) (PySem.W.looks_findIn I1.kIn iC) (fun me => PySem.W.bind_fn I1.kIn me tI) few (codeAny_mono go fun r z q => ?_))
  match r, q with
  | .error er, q => exact hx pins σ _ _ er z J q
  | .ok (.ret u), q =>
    obtain ⟨v, H2, os2, bare2, un2, hok2, rv, ev, ea, q2⟩ := q
    subst ev
    obtain ⟨h2, g2, d2, t2, os'⟩ := z
    have up : ∀ b o, hp.get? b = some o → (FX.withX hp C us).get? b = some o := fun b o e => Heap.get?_push_of_some _ (Heap.get?_push_of_some _ e)
    obtain ⟨t0, G, JG, kG, gG, oG, nG⟩ := mk_gone (d2 := d2) (t2 := t2) I1 (Nat.le_succ _) up un2 hok2 os2 bare2 ea
    exact ⟨rv, _, _, _, ⟨G, g2, d2, t2, os'⟩, _, .ref C, none, rfl, JG, kG, gG, oG, ⟨rfl, rfl⟩, rfl, rfl, nG, rfl, bare2, raises_own T.exC T.tyC, q2⟩
  | .ok .next, q => exact q.elim
  | .ok .brk, q => exact q.elim
  | .ok .cont, q => exact q.elim
/-- C() -/
theorem pmk_none (T : OexC X.K C) (iC : PySem.W.findIn X.K (.ref C) "__init__" = some (some (.ref fI))) (tI : PySem.W.typeIn X.K (.ref fI) = some (.type "function"))
    (F1 : FnOk X.prog X.w X.K X.mg X.base CX k fI fd ps sp) (hr : Room (k + 1) X.A) (hb : Binds X.K fd ps ds) (hd : Vals dvs ds) (hx : Passes CX X (fun _ _ _ => False)) (hg : Gl X x) (hm : X.mg x = some (.ref C)) (hdb : (x == ("__debug__" : Str)) = false := by decide) :
    PMk X (.Call (.Name x p) [] [] pos) (tMkO0 C sp dvs tNil) := by
  intro pins s σ H Q I h
  refine wpAny_Call_Name_kw (ld_glob I hg hm ?_ hdb)
  exact PySem.W.callWith_K0 I.kIn T.kC (run_mk0 (us := []) T iC tI F1 hr hb hd hx I .nil h.1 h.2)
end
end L2


/-! sorted(a dict of texts, key=a lambda of one parameter that gives (int, text)) -/
namespace SrtKy
open PySem PyProof.Rows Srt SrtO
/-- a tuple of a number and a text -/
def IsIS (h : Heap) (v : Value) (x : Int) (z : Str) : Prop := ∃ a o t u n, v = .ref a ∧ h.get? a = some o ∧ o.cls = .type "tuple" ∧ o.data = .seq #[.int x t, .str z u] n
theorem IsIS.keeps {h h' : Heap} {v : Value} {x : Int} {z : Str} (p : IsIS h v x z) (k : ∀ b o, h.get? b = some o → o.cls = .type "tuple" → h'.get? b = some o) : IsIS h' v x z := by
  obtain ⟨a, o, t, u, n, e, ho, hc, hd⟩ := p
  exact ⟨a, o, t, u, n, e, k _ _ ho hc, hc, hd⟩
def isLt (p q : Int × Str) : Bool := if p.1 = q.1 then decide (p.2.cps.toList < q.2.cps.toList) else decide (p.1 < q.1)
section
variable {prog : Program} {w : World} {s : Shared} {A : Around} {E : Value → Shared → Prop}
end
end SrtKy


namespace L2
open PySem PySem.Spec PyProof.Rows
section
variable {X : Cx} {pins : List (Addr × Obj)} {σ : St} {H : Hp} {s : Shared} {h' : Heap}
end
/-- what the keys of the first items are -/
def KysAt (H : Hp) (key : V → Int × Str) (xs : List V) (kA : List Value) : Prop := ∀ (j : Nat) (kv : Value), kA[j]? = some kv → ∃ (t : Addr) (x : V), kv = Value.ref t ∧ xs[j]? = some x ∧ H t = some (.tup [.int (key x).1, .str (key x).2])
theorem KysAt.up {H H' : Hp} {key : V → Int × Str} {xs : List V} {kA : List Value} (h : KysAt H key xs kA) (t : ∀ b ys, H b = some (.tup ys) → H' b = some (.tup ys)) : KysAt H' key xs kA := fun j kv e => by
  obtain ⟨a, x, e1, e2, e3⟩ := h j kv e
  exact ⟨a, x, e1, e2, t _ _ e3⟩
theorem KysAt.snoc {H : Hp} {key : V → Int × Str} {xs : List V} {kA : List Value} {t : Addr} {x : V} (h : KysAt H key xs kA) (hx : xs[kA.length]? = some x) (ht : H t = some (.tup [.int (key x).1, .str (key x).2])) : KysAt H key xs (kA ++ [.ref t]) := fun j kv e => by
  by_cases hj : j < kA.length
  · rw [List.getElem?_append_left hj] at e
    exact h j kv e
  · rw [List.getElem?_append_right (by omega)] at e
    have h0 : j - kA.length = 0 := by
      have := (List.getElem?_eq_some_iff.mp e).1
      rw [List.length_singleton] at this
      omega
    rw [h0] at e
    have e' : Value.ref t = kv := Option.some.inj e
    have : j = kA.length := by omega
    subst this
    exact ⟨t, x, e'.symm, hx, ht⟩
/-- the key that stands at an address -/
def keyOfL (H : Hp) : Value → Int × Str
  | .ref t => match H t with
    | some (.tup [.int n, .str z]) => (n, z)
    | _ => (0, "")
  | _ => (0, "")
theorem keyOfL_at {H : Hp} {t : Addr} {n : Int} {z : Str} (h : H t = some (.tup [.int n, .str z])) : keyOfL H (.ref t) = (n, z) := by
  show (match H t with
    | some (.tup [.int n, .str z]) => (n, z)
    | _ => ((0 : Int), ("" : Str))) = (n, z)
  rw [h]
theorem KysAt.is {X : Cx} {pins : List (Addr × Obj)} {σ : St} {H : Hp} {s : Shared} {key : V → Int × Str} {xs : List V} {kA : List Value} (I : Inv X pins σ H s) (h : KysAt H key xs kA) : ∀ v ∈ kA, SrtKy.IsIS s.heap v (keyOfL H v).1 (keyOfL H v).2 := fun v hv => by
  obtain ⟨j, hj⟩ := List.mem_iff_getElem?.mp hv
  obtain ⟨t, x, rfl, _, e⟩ := h j v hj
  rw [keyOfL_at e]
  obtain ⟨_, its, r, o, ho, hc, n, hd⟩ := I.hok _ _ e
  obtain ⟨u1, u2, rfl, ri, rj⟩ := vals2 r
  obtain ⟨t1, rfl⟩ := ri
  obtain ⟨t2, rfl⟩ := rj
  exact ⟨t, o, t1, t2, n, rfl, ho, hc, hd⟩
section
variable {X : Cx} {pins : List (Addr × Obj)} {σ : St} {H : Hp} {s : Shared}
end
end L2


namespace L2
open PySem PySem.Spec PyProof.Rows LamX NdefX
/-- all that was told stays -/
def HKeep (H H' : Hp) : Prop := ∀ b o, H b = some o → H' b = some o
/-- the lambda as a function of the layer (its body is an expression: none of the statements' field is read) -/
def lamF (X : Cx) (params : Arguments) (scope : Scope) (c' : Addr) : NF := ⟨"<lambda>", X.env.qual ++ "<lambda>", params, [], scope, cloFrom X.env.cells scope.names [], c'⟩
/-- sorted(e, key=lambda ..): js: where the captured names stand among ours -/
def tSortLam (T : List (Addr × Str)) (q : Str) (N : List Str) (js : List Nat) (ta : TA) (tb : TE) : TE := fun σ H Q => ta σ H fun vs H1 => ∃ x : V, vs = [x] ∧ Tabs T H1 ∧ ∀ (c' : Addr) (H2 : Hp), ExtN H1 H2 → Tabs T H2 → H2 c' = some (CodeO c' q) →
  ∃ (a : Addr) (kvs : List (Key × V)) (ks : List Str) (key : Str → Int × Str), x = .ref a ∧ Rd H2 a (.dK kvs) ∧ kvs.map (·.1) = ks.map Sum.inr ∧ ks.length ≤ sizeLine ∧
    (∀ k ∈ ks, ∀ H, HKeep H2 H → tb (startF N [.str k] (js.map (NdefX.slotAt σ))) H fun v H3 => HKeep H H3 ∧ ∃ t, v = .ref t ∧ H3 t = some (.tup [.int (key k).1, .str (key k).2])) ∧
    ∀ (ys : List Str) (H3 : Hp) (p : Addr), ys.Perm ks → ys.Pairwise (fun x y => SrtKy.isLt (key y) (key x) = false) → HKeep H2 H3 → H3 p = none → Q (.ref p) (upd H3 p (.lst (ys.map V.str)))
section
variable {X : Cx}
end
end L2


/-! heaps, lists, texts: what all the laws' proofs share. -/
namespace FT
open PySem L2 TL
abbrev Same (H H' : Hp) : Prop := ∀ b o, H b = some o → H' b = some o
theorem Same.refl {H : Hp} : Same H H := fun _ _ e => e
theorem Same.trans {H H1 H2 : Hp} (a : Same H H1) (b : Same H1 H2) : Same H H2 := fun x o e => b x o (a x o e)
theorem Same.free {H H' : Hp} {p : Addr} (s : Same H H') (n : H' p = none) : H p = none := by
  cases e : H p with
  | none => rfl
  | some o =>
    rw [s p o e] at n
    cases n
theorem Same.sql {K : PySem.W.Frag} {H H' : Hp} {a : Addr} {xs : List V} (e : Same H H') (h : SqL K H a xs) : SqL K H' a xs := by
  rcases h with (h | ⟨o, h⟩) | h
  · exact .inl (.inl (e _ _ h))
  · exact .inl (.inr ⟨o, e _ _ h⟩)
  · exact .inr h
theorem same_new {H : Hp} {p : Addr} {o : HO} (n : H p = none) : Same H (upd H p o) := fun b u e => by
  rw [upd_ne (ne_of_none e n)]
  exact e
theorem Same.put {H H' : Hp} {p : Addr} {o : HO} (s : Same H H') (n : H p = none) : Same H (upd H' p o) := fun b u e => by
  rw [upd_ne (ne_of_none e n)]
  exact s b u e
/-- what the text finds among the module's names -/
structure Nm (mg : Str → Option Value) : Prop where
  abs : mg "abs" = none
  len : mg "len" = none
  rng : mg "range" = none
  enu : mg "enumerate" = none
  zip : mg "zip" = none
  isi : mg "isinstance" = none
  all : mg "all" = none
  srt : mg "sorted" = none
  lst : mg "list" = none
  dct : mg "dict" = none
  str : mg "str" = none
  int : mg "int" = none
  tup : mg "tuple" = none
  sum : mg "sum" = none
  min : mg "min" = none
  max : mg "max" = none
  rep : mg "repr" = none
  bool : mg "bool" = none
  any : mg "any" = none
  vE : mg "ValueError" = none
theorem take_more {α : Type} {l : List α} {i : Nat} {x : α} (h : l[i]? = some x) : l.take (i + 1) = l.take i ++ [x] := by
  rw [List.take_succ, h] <;> rfl
theorem cut_ints (ns : List Int) (lo hi : Option Int) : ∃ ms : List Int, cutV (ns.map V.int) lo hi = ms.map V.int ∧ ms.length ≤ ns.length := by
  unfold cutV
  generalize HT.sIx (ns.map V.int).length 0 lo = i
  generalize HT.sIx (ns.map V.int).length (ns.map V.int).length hi = j
  refine ⟨(ns.drop i).take (j - i), by rw [List.map_take, List.map_drop], ?_⟩
  rw [List.length_take, List.length_drop]
  omega
theorem cut_take {xs : List V} {j : Nat} (h : j ≤ xs.length) : cutV xs none (some (j : Int)) = xs.take j := by
  have e : HT.sIx xs.length xs.length (some (j : Int)) = min j xs.length := HT.sIx_nat _ _ j
  show (xs.drop 0).take (HT.sIx xs.length xs.length (some (j : Int)) - 0) = xs.take j
  rw [e, List.drop_zero, Nat.sub_zero, Nat.min_eq_left h]
theorem map_at {α : Type} {f : α → V} {cells : List α} {j : Nat} {z : α} (h : cells[j]? = some z) : (cells.map f)[j]? = some (f z) := by
  rw [List.getElem?_map, h] <;> rfl
theorem map_of {α : Type} {f : α → V} {l : List α} {j : Nat} {x : V} (h : (l.map f)[j]? = some x) : ∃ z, l[j]? = some z ∧ x = f z := by
  rw [List.getElem?_map] at h
  obtain ⟨z, hz, rfl⟩ := Option.map_eq_some_iff.mp h
  exact ⟨z, hz, rfl⟩
theorem ixN_nat {n j : Nat} (h : j < n) : ixN n (j : Int) = some j := by
  unfold ixN
  rw [if_pos (by omega), if_pos (by omega)]
  simp
theorem map_erase {α β : Type} (f : α → β) : ∀ (l : List α) (i : Nat), (l.map f).eraseIdx i = (l.eraseIdx i).map f
  | [], _ => rfl
  | _ :: _, 0 => rfl
  | a :: l, i + 1 => congrArg (List.cons (f a)) (map_erase f l i)
theorem erase_perm {α : Type} : ∀ (l : List α) (i : Nat) (h : i < l.length), (l[i] :: l.eraseIdx i).Perm l
  | [], _, h => absurd h (Nat.not_lt_zero _)
  | _ :: _, 0, _ => .refl _
  | a :: l, i + 1, h => (List.Perm.swap a _ _).trans ((erase_perm l i (Nat.lt_of_succ_lt_succ h)).cons a)
/-- how many items stand there -/
def many (H : Hp) (a : Addr) : Nat := match H a with
  | some (.lst xs) => xs.length
  | _ => 0
theorem many_at {H : Hp} {a : Addr} {xs : List V} (h : H a = some (.lst xs)) : many H a = xs.length := by
  unfold many
  rw [h]
theorem items_strs {Pz : Str → Prop} {ws : List Str} (h : ∀ z ∈ ws, Pz z) : ∀ (i : Nat) (x : V), (ws.map V.str)[i]? = some x → ∃ z, x = .str z ∧ Pz z := fun i x e => by
  obtain ⟨z, hz, rfl⟩ := map_of e
  exact ⟨z, rfl, h z (List.mem_of_getElem? hz)⟩
theorem inV_strs (x : Str) : ∀ fs : List Str, inV (.str x) (fs.map V.str) = decide (x ∈ fs)
  | [] => rfl
  | y :: fs => by
    show (eqV (.str y) (.str x) || inV (.str x) (fs.map V.str)) = _
    rw [inV_strs x fs]
    have e : eqV (.str y) (.str x) = decide (x = y) := by
      show (y == x) = decide (x = y)
      rw [Bool.eq_iff_iff, beq_iff_eq, decide_eq_true_eq]
      exact eq_comm
    rw [e, Bool.eq_iff_iff]
    simp only [Bool.or_eq_true, decide_eq_true_eq, List.mem_cons]
theorem flat_strs : ∀ fs : List Str, (fs.map V.str).all flatV = true
  | [] => rfl
  | _ :: fs => flat_strs fs
/-! ### texts -/
/-- a name: letters, one to eight, not self -/
def NameL (z : Str) : Prop := (∀ c ∈ tl z, 97 ≤ c ∧ c ≤ 122) ∧ 1 ≤ (tl z).length ∧ (tl z).length ≤ 8 ∧ z ≠ "self"
instance (z : Str) : Decidable (NameL z) := by unfold NameL; infer_instance
theorem NameL.len {z : Str} (h : NameL z) : 1 ≤ z.length ∧ z.length ≤ 8 := by
  rw [len_tl]
  exact ⟨h.2.1, h.2.2.1⟩
theorem NameL.self {z : Str} (h : NameL z) : z ≠ "self" := h.2.2.2
theorem NameL.ne {z : Str} (h : NameL z) : z ≠ "" := fun e => by
  subst e
  have := h.2.1
  revert this
  decide +kernel
theorem strOk_name {z : Str} (h : NameL z) : PyData.strOk z = true := by
  unfold PyData.strOk
  simp only [Bool.and_eq_true, decide_eq_true_eq, Array.all_eq_true_iff_forall_mem]
  intro c hc
  have := h.1 c (Array.mem_toList_iff.mpr hc)
  omega
/-! ### order -/
theorem rising_all : ∀ (l : List Str) (p : Str), PyProof.Rows.risingS p l = true → (∀ y ∈ l, tl p ≤ tl y) ∧ l.Pairwise (fun a b => tl a ≤ tl b)
  | [], p, _ => ⟨fun y h => (by cases h), List.Pairwise.nil⟩
  | x :: r, p, h => by
    have h' : (!PySem.Spec.ltCps x.cps.toList p.cps.toList && PyProof.Rows.risingS x r) = true := h
    rw [Bool.and_eq_true, PyProof.Rows.ltCps_eq] at h'
    obtain ⟨h1, h2⟩ := h'
    have px : tl p ≤ tl x := by
      show ¬ (tl x < tl p)
      intro z
      rw [decide_eq_true z] at h1
      cases h1
    obtain ⟨i1, i2⟩ := rising_all r x h2
    refine ⟨fun y hy => ?_, List.pairwise_cons.mpr ⟨i1, i2⟩⟩
    rcases List.mem_cons.mp hy with rfl | hy
    · exact px
    · exact List.le_trans px (i1 y hy)
theorem sorted_pw {l : List Str} (h : PyProof.Rows.sortedS l = true) : l.Pairwise (fun a b => tl a ≤ tl b) := by
  cases l with
  | nil => exact .nil
  | cons x r =>
    obtain ⟨i1, i2⟩ := rising_all r x h
    exact List.pairwise_cons.mpr ⟨i1, i2⟩
/-- one order of the same texts -/
theorem sorted_one {l m : List Str} (p : l.Perm m) (hl : PyProof.Rows.sortedS l = true) (hm : PyProof.Rows.sortedS m = true) : l = m :=
  List.Perm.eq_of_pairwise (le := fun a b => tl a ≤ tl b) (fun a b _ _ h1 h2 => ext_tl (List.le_antisymm h1 h2)) (sorted_pw hl) (sorted_pw hm) p
/-! ### comprehensions of dicts, locks -/
/-- a dict comprehension over a walk: Pv by the turn and the heap (the new dict at D within) -/
theorem dc_it {J : It} {n : Nat} {G : Hp → Prop} {Y : Nat → Hp → V → Hp → Prop} (w : Walk J n G Y) {g : TG} {tt : TT} {tk tv : TE} {vs : List Nat} {σ : St} {H1 : Hp} {D : Addr} {Qd : Hp → Prop} (Pv : Nat → Hp → Prop) (h0 : Pv 0 (upd H1 D (.dK []))) (hG : ∀ i H, i ≤ n → Pv i H → G H)
    (hs : ∀ i x H H', i < n → Pv i H → Y i H x H' → g x (wipe σ vs) H' fun σ2 H2 => wipe σ2 vs = wipe σ vs ∧ tt σ2 H2 fun b H3 =>
      if b = true then tk σ2 H3 fun y H4 => tv σ2 H4 fun z H5 => ∃ kvs k, y = kV k ∧ H5 D = some (.dK kvs) ∧ kvs.length < sizeLine ∧ Pv (i + 1) (upd H5 D (.dK (putK kvs k z))) else Pv (i + 1) H3) (hd : ∀ H, Pv n H → Qd H) :
    ∃ W : Nat → Nat → Hp → Prop, (∃ m, W 0 m (upd H1 D (.dK []))) ∧ ∀ i m H, W i m H →
      (J.stop i H ∧ Qd H) ∨ (J.go i H ∧ ∃ Nx : Hp → Prop, (∀ H', Nx H' → ∃ m', m' < m ∧ W (i + 1) m' H') ∧ ∀ x H', J.yld i H x H' → g x (wipe σ vs) H' fun σ2 H2 => wipe σ2 vs = wipe σ vs ∧ tt σ2 H2 fun b H3 =>
        if b = true then tk σ2 H3 fun y H4 => tv σ2 H4 fun z H5 => ∃ kvs k, y = kV k ∧ H5 D = some (.dK kvs) ∧ kvs.length < sizeLine ∧ Nx (upd H5 D (.dK (putK kvs k z))) else Nx H3) := by
  refine ⟨fun i m H => m = n - i ∧ i ≤ n ∧ Pv i H, ⟨n, by simp, Nat.zero_le _, h0⟩, fun i m H ⟨em, hi, p⟩ => ?_⟩
  have gh := hG i H hi p
  rcases Nat.lt_or_ge i n with lt | ge
  · exact .inr ⟨w.goes i H lt gh, Pv (i + 1), fun H' p' => ⟨n - (i + 1), by omega, rfl, lt, p'⟩, fun x H' y => hs i x H H' lt p (w.yields i H x H' lt gh y)⟩
  · have ei : i = n := by omega
    subst ei
    exact .inl ⟨w.stops H gh, hd H p⟩
theorem unlock_same {H H' : Hp} {q : Addr} {u : HO} {o : Obj} (e : H q = some u) (s : Same (upd H q (.frz o u)) H') : Same H (upd H' q u) := fun b x h => by
  by_cases z : b = q
  · subst z
    rw [upd_same]
    exact e.symm.trans h |>.symm ▸ rfl
  · rw [upd_ne z]
    exact s b x (by rw [upd_ne z]; exact h)
/-! ### dicts with text keys, by any values -/
/-- a dict of values by texts -/
def kvT (t : List (Str × V)) : List (Key × V) := t.map fun p => (Sum.inr p.1, p.2)
theorem kvT_len (t : List (Str × V)) : (kvT t).length = t.length := by unfold kvT; rw [List.length_map]
theorem kvT_app (t : List (Str × V)) (f : Str) (z : V) : kvT t ++ [(Sum.inr f, z)] = kvT (t ++ [(f, z)]) := by
  unfold kvT
  rw [List.map_append] <;> rfl
theorem kvT_any (t : List (Str × V)) (f : Str) : ((kvT t).any fun kv => decide (kv.1 = Sum.inr f)) = decide (f ∈ t.map Prod.fst) := by
  induction t with
  | nil => rfl
  | cons p t ih =>
    show (decide ((Sum.inr p.1 : Key) = Sum.inr f) || ((kvT t).any fun kv => decide (kv.1 = Sum.inr f))) = _
    rw [ih, Bool.eq_iff_iff]
    simp only [Bool.or_eq_true, decide_eq_true_eq, List.map_cons, List.mem_cons]
    constructor
    · rintro (h | h)
      · exact .inl (Sum.inr.inj h).symm
      · exact .inr h
    · rintro (h | h)
      · exact .inl (by rw [h])
      · exact .inr h
theorem kvT_put {t : List (Str × V)} {f : Str} {z : V} (n : f ∉ t.map Prod.fst) : putK (kvT t) (Sum.inr f) z = kvT (t ++ [(f, z)]) := by
  unfold putK
  rw [kvT_any, decide_eq_false n, if_neg (by decide), kvT_app]
/-- the value of a key -/
def look (t : List (Str × V)) (f : Str) : Option V := (t.find? fun p => decide (p.1 = f)).map Prod.snd
theorem look_cons (p : Str × V) (t : List (Str × V)) (f : Str) : look (p :: t) f = if p.1 = f then some p.2 else look t f := by
  unfold look
  rw [List.find?_cons]
  by_cases e : p.1 = f
  · rw [if_pos e, decide_eq_true e] <;> rfl
  · rw [if_neg e, decide_eq_false e]
theorem kvT_val : ∀ (t : List (Str × V)) (f : Str), valV (kvT t) (Sum.inr f) = look t f
  | [], f => rfl
  | p :: t, f => by
    rw [look_cons]
    by_cases e : p.1 = f
    · rw [if_pos e]
      exact valV_pos (by show (Sum.inr p.1 : Key) = Sum.inr f; rw [e])
    · rw [if_neg e]
      exact (valV_neg (p := (Sum.inr p.1, p.2)) (fun z => e (Sum.inr.inj z))).trans (kvT_val t f)
/-- a key's value, written anew -/
def putT (t : List (Str × V)) (f : Str) (z : V) : List (Str × V) := if f ∈ t.map Prod.fst then t.map fun p => if p.1 = f then (p.1, z) else p else t ++ [(f, z)]
theorem kvT_putT (t : List (Str × V)) (f : Str) (z : V) : putK (kvT t) (Sum.inr f) z = kvT (putT t f z) := by
  by_cases h : f ∈ t.map Prod.fst
  · unfold putK putT
    rw [kvT_any, decide_eq_true h, if_pos rfl, if_pos h]
    unfold kvT
    rw [List.map_map, List.map_map]
    refine List.map_congr_left fun p _ => ?_
    show (if (Sum.inr p.1 : Key) = Sum.inr f then ((Sum.inr p.1 : Key), z) else (Sum.inr p.1, p.2)) = (Sum.inr (if p.1 = f then (p.1, z) else p).1, (if p.1 = f then (p.1, z) else p).2)
    by_cases e : p.1 = f
    · rw [if_pos e, if_pos (by rw [e])]
    · rw [if_neg e, if_neg fun q => e (Sum.inr.inj q)]
  · rw [kvT_put h]
    unfold putT
    rw [if_neg h]
end FT


/-! forests as pairs of a flag and its parent, in any order. -/
namespace FT
open PySem L2 TL
/-- a dict of texts by texts -/
def prs (t : List (Str × Str)) : List (Key × V) := kvT (t.map fun p => (p.1, V.str p.2))
theorem prs_len (t : List (Str × Str)) : (prs t).length = t.length := by unfold prs; rw [kvT_len, List.length_map]
theorem prs_fst (t : List (Str × Str)) : (t.map fun p => (p.1, V.str p.2)).map Prod.fst = t.map Prod.fst := by rw [List.map_map] <;> rfl
theorem prs_keys (t : List (Str × Str)) : (prs t).map (·.1) = (t.map Prod.fst).map Sum.inr := by unfold prs kvT; rw [List.map_map, List.map_map, List.map_map] <;> rfl
theorem put_new {t : List (Str × Str)} {f z : Str} (n : f ∉ t.map Prod.fst) : putK (prs t) (Sum.inr f) (V.str z) = prs (t ++ [(f, z)]) := by
  unfold prs
  rw [kvT_put (by rw [prs_fst]; exact n), List.map_append] <;> rfl
/-- the parent of a flag -/
def par (t : List (Str × Str)) (a : Str) : Option Str := (t.find? fun p => decide (p.1 = a)).map Prod.snd
theorem par_cons (p : Str × Str) (t : List (Str × Str)) (a : Str) : par (p :: t) a = if p.1 = a then some p.2 else par t a := by
  unfold par
  rw [List.find?_cons]
  by_cases e : p.1 = a
  · rw [if_pos e, decide_eq_true e] <;> rfl
  · rw [if_neg e, decide_eq_false e]
theorem val_prs (a : Str) : ∀ t : List (Str × Str), valV (prs t) (Sum.inr a) = (par t a).map V.str
  | [] => rfl
  | p :: t => by
    have ih := val_prs a t
    unfold prs at ih ⊢
    rw [List.map_cons, kvT_val, look_cons, par_cons]
    rw [kvT_val] at ih
    by_cases e : p.1 = a
    · rw [if_pos e, if_pos e] <;> rfl
    · rw [if_neg e, if_neg e, ih]
theorem par_mem {t : List (Str × Str)} {a z : Str} (h : par t a = some z) : (a, z) ∈ t := by
  induction t with
  | nil => cases h
  | cons p t ih =>
    rw [par_cons] at h
    by_cases e : p.1 = a
    · rw [if_pos e] at h
      cases h
      exact List.mem_cons.mpr (.inl (by rw [← e]))
    · rw [if_neg e] at h
      exact List.mem_cons_of_mem _ (ih h)
theorem par_of {t : List (Str × Str)} {a z : Str} (nd : (t.map Prod.fst).Nodup) (h : (a, z) ∈ t) : par t a = some z := by
  induction t with
  | nil => cases h
  | cons p t ih =>
    obtain ⟨n1, n2⟩ := List.nodup_cons.mp nd
    rw [par_cons]
    rcases List.mem_cons.mp h with e | h
    · subst e
      exact if_pos rfl
    · rw [if_neg fun e => n1 (by rw [e]; exact List.mem_map.mpr ⟨_, h, rfl⟩)]
      exact ih n2 h
theorem par_none {t : List (Str × Str)} {a : Str} (n : a ∉ t.map Prod.fst) : par t a = none := by
  cases e : par t a with
  | none => rfl
  | some z => exact absurd (List.mem_map.mpr ⟨_, par_mem e, rfl⟩) n
theorem par_some {t : List (Str × Str)} {a : Str} (nd : (t.map Prod.fst).Nodup) (h : a ∈ t.map Prod.fst) : ∃ z, par t a = some z := by
  obtain ⟨p, hp, rfl⟩ := List.mem_map.mp h
  exact ⟨p.2, par_of nd hp⟩
theorem par_perm {t u : List (Str × Str)} (nd : (t.map Prod.fst).Nodup) (p : t.Perm u) (a : Str) : par t a = par u a := by
  cases e : par t a with
  | some v => exact (par_of ((p.map _).nodup_iff.mp nd) (p.mem_iff.mp (par_mem e))).symm
  | none =>
    cases e2 : par u a with
    | none => rfl
    | some v =>
      have := par_of nd (p.mem_iff.mpr (par_mem e2))
      rw [e] at this
      cases this
/-- each parent has a lower rank -/
def Rk (t : List (Str × Str)) (rk : Str → Nat) : Prop := ∀ p ∈ t, rk p.1 < t.length ∧ (p.2 = "" ∨ (p.2 ∈ t.map Prod.fst ∧ rk p.2 < rk p.1))
/-- a forest of one to twelve flags -/
structure TreeOk (t : List (Str × Str)) : Prop where
  one : 1 ≤ t.length
  few : t.length ≤ 12
  nd : (t.map Prod.fst).Nodup
  nm : ∀ z ∈ t.map Prod.fst, NameL z
  up : ∃ rk : Str → Nat, Rk t rk
theorem TreeOk.perm {t u : List (Str × Str)} (p : t.Perm u) (o : TreeOk t) : TreeOk u := by
  obtain ⟨rk, hr⟩ := o.up
  have l := p.length_eq
  refine ⟨by have := o.one; omega, by have := o.few; omega, (p.map _).nodup_iff.mp o.nd, fun z h => o.nm z ((p.map _).mem_iff.mpr h), rk, fun q hq => ?_⟩
  obtain ⟨h1, h2⟩ := hr q (p.mem_iff.mpr hq)
  exact ⟨by omega, h2.imp id fun h => ⟨(p.map _).mem_iff.mp h.1, h.2⟩⟩
theorem TreeOk.root {t : List (Str × Str)} (o : TreeOk t) : ("" : Str) ∉ t.map Prod.fst := fun h => (o.nm _ h).ne rfl
/-- the step up -/
theorem TreeOk.step {t : List (Str × Str)} (o : TreeOk t) {rk : Str → Nat} (r : Rk t rk) {a : Str} (h : a ∈ t.map Prod.fst) : ∃ p : Str, par t a = some p ∧ (p = "" ∨ (p ∈ t.map Prod.fst ∧ rk p < rk a)) ∧ rk a < t.length := by
  obtain ⟨z, hz⟩ := par_some o.nd h
  obtain ⟨h1, h2⟩ := r _ (par_mem hz)
  exact ⟨z, hz, h2, h1⟩
/-! ### paths -/
/-- the flags from the top down to a place; n bounds the steps -/
def upN (t : List (Str × Str)) : Nat → Str → List Str
  | 0, _ => []
  | n + 1, a => if a = "" then [] else upN t n ((par t a).getD "") ++ [a]
def pathOf (t : List (Str × Str)) (a : Str) : List Str := upN t t.length a
/-- a place: the root or a flag -/
def Pl (t : List (Str × Str)) (a : Str) : Prop := a = "" ∨ a ∈ t.map Prod.fst
theorem upN_root (t : List (Str × Str)) (n : Nat) : upN t n "" = [] := by
  cases n with
  | zero => rfl
  | succ n => exact if_pos rfl
theorem upN_eq {t : List (Str × Str)} (o : TreeOk t) {rk : Str → Nat} (r : Rk t rk) : ∀ (n m : Nat) (a : Str), Pl t a → (a ≠ "" → rk a < n) → (a ≠ "" → rk a < m) → upN t n a = upN t m a := by
  intro n
  induction n with
  | zero =>
    intro m a hp h1 h2
    by_cases e : a = ""
    · subst e
      rw [upN_root, upN_root]
    · exact absurd (h1 e) (Nat.not_lt_zero _)
  | succ n ih =>
    intro m a hp h1 h2
    by_cases e : a = ""
    · subst e
      rw [upN_root, upN_root]
    · cases m with
      | zero => exact absurd (h2 e) (Nat.not_lt_zero _)
      | succ m =>
        obtain ⟨p, ep, hp2, _⟩ := o.step r (hp.resolve_left e)
        have q1 := h1 e
        have q2 := h2 e
        show (if a = "" then [] else upN t n ((par t a).getD "") ++ [a]) = if a = "" then [] else upN t m ((par t a).getD "") ++ [a]
        rw [if_neg e, if_neg e, ep]
        show upN t n p ++ [a] = upN t m p ++ [a]
        rw [ih m p (hp2.imp id And.left) (fun z => by have := (hp2.resolve_left z).2; omega) (fun z => by have := (hp2.resolve_left z).2; omega)]
theorem path_root (t : List (Str × Str)) : pathOf t "" = [] := upN_root _ _
theorem path_step {t : List (Str × Str)} (o : TreeOk t) {a p : Str} (h : a ∈ t.map Prod.fst) (e : par t a = some p) : pathOf t a = pathOf t p ++ [a] := by
  obtain ⟨rk, r⟩ := o.up
  have ne : a ≠ "" := fun z => o.root (by rw [← z]; exact h)
  obtain ⟨p', e', hp, la⟩ := o.step r h
  cases e.symm.trans e'
  have lt := o.one
  obtain ⟨n, hn⟩ : ∃ n, t.length = n + 1 := ⟨t.length - 1, by omega⟩
  unfold pathOf
  rw [hn]
  show (if a = "" then [] else upN t n ((par t a).getD "") ++ [a]) = _
  rw [if_neg ne, e]
  show upN t n p ++ [a] = _
  rw [upN_eq o r n (n + 1) p (hp.imp id And.left) (fun z => by have := (hp.resolve_left z).2; omega) (fun z => by have := (hp.resolve_left z).2; omega)]
theorem path_perm {t u : List (Str × Str)} (nd : (t.map Prod.fst).Nodup) (p : t.Perm u) (a : Str) : pathOf t a = pathOf u a := by
  unfold pathOf
  rw [p.length_eq]
  generalize u.length = n
  induction n generalizing a with
  | zero => rfl
  | succ n ih =>
    show (if a = "" then [] else upN t n ((par t a).getD "") ++ [a]) = if a = "" then [] else upN u n ((par u a).getD "") ++ [a]
    rw [ih, par_perm nd p]
theorem upN_len (t : List (Str × Str)) : ∀ (n : Nat) (a : Str), (upN t n a).length ≤ n
  | 0, _ => Nat.le_refl _
  | n + 1, a => by
    show (if a = "" then [] else upN t n ((par t a).getD "") ++ [a]).length ≤ n + 1
    by_cases e : a = ""
    · rw [if_pos e]
      exact Nat.zero_le _
    · rw [if_neg e, List.length_append]
      have := upN_len t n ((par t a).getD "")
      show _ + 1 ≤ n + 1
      omega
theorem path_len (t : List (Str × Str)) (a : Str) : (pathOf t a).length ≤ t.length := upN_len _ _ _
theorem upN_all {t : List (Str × Str)} (o : TreeOk t) : ∀ (n : Nat) (a : Str), Pl t a → ∀ z ∈ upN t n a, z ∈ t.map Prod.fst
  | 0, _, _, z, h => by cases h
  | n + 1, a, hp, z, h => by
    have h' : z ∈ (if a = "" then [] else upN t n ((par t a).getD "") ++ [a]) := h
    by_cases e : a = ""
    · rw [if_pos e] at h'
      cases h'
    · rw [if_neg e] at h'
      have ha := hp.resolve_left e
      obtain ⟨rk, r⟩ := o.up
      obtain ⟨p, ep, hp2, _⟩ := o.step r ha
      rw [ep] at h'
      rcases List.mem_append.mp h' with h' | h'
      · exact upN_all o n p (hp2.imp id And.left) z h'
      · rw [List.mem_singleton.mp h']
        exact ha
theorem path_all {t : List (Str × Str)} (o : TreeOk t) {a : Str} (h : Pl t a) : ∀ z ∈ pathOf t a, z ∈ t.map Prod.fst := upN_all o _ _ h
/-! ### sums over children -/
/-- the sum of sizes of the children of a place -/
def kids (t : List (Str × Str)) (p : Str) : List Str := (t.filter fun q => decide (q.2 = p)).map Prod.fst
def resid (t : List (Str × Str)) (n : Int) (sz : Str → Int) (p : Str) : Int := (if p = "" then n else sz p) - ((kids t p).map sz).sum
theorem kids_snoc (t : List (Str × Str)) (q : Str × Str) (p : Str) : kids (t ++ [q]) p = kids t p ++ (if q.2 = p then [q.1] else []) := by
  unfold kids
  rw [List.filter_append, List.map_append]
  by_cases e : q.2 = p
  · rw [if_pos e, List.filter_cons, decide_eq_true e, List.filter_nil] <;> rfl
  · rw [if_neg e, List.filter_cons, decide_eq_false e, List.filter_nil] <;> rfl
theorem kids_perm {t u : List (Str × Str)} (h : t.Perm u) (p : Str) : (kids t p).Perm (kids u p) := (h.filter _).map _
theorem sum_perm {l m : List Int} (h : l.Perm m) : l.sum = m.sum := by
  induction h with
  | nil => rfl
  | cons x _ ih => rw [List.sum_cons, List.sum_cons, ih]
  | swap x y l => rw [List.sum_cons, List.sum_cons, List.sum_cons, List.sum_cons]; omega
  | trans _ _ a b => rw [a, b]
theorem resid_perm {t u : List (Str × Str)} (h : t.Perm u) (n : Int) (sz : Str → Int) (p : Str) : resid t n sz p = resid u n sz p := by
  unfold resid
  rw [sum_perm ((kids_perm h p).map sz)]
theorem resid_snoc (t : List (Str × Str)) (q : Str × Str) (n : Int) (sz : Str → Int) (p : Str) : resid (t ++ [q]) n sz p = if q.2 = p then resid t n sz p - sz q.1 else resid t n sz p := by
  unfold resid
  rw [kids_snoc]
  by_cases e : q.2 = p
  · rw [if_pos e, if_pos e, List.map_append, List.sum_append]
    show _ - (_ + (sz q.1 + 0)) = _
    omega
  · rw [if_neg e, if_neg e, List.append_nil]
end FT


/-! lists of texts as data, for == and !=. -/
namespace FT
open PySem L2 TL
theorem dps_strs {K : PySem.W.Frag} {H : Hp} : ∀ ts : List Str, DpAll K H (ts.map V.str) (ts.map PyData.str)
  | [] => .nil
  | t :: ts => .cons (.str t) (dps_strs ts)
theorem strs_lay : ∀ {ts : List Str}, (∀ t ∈ ts, PyData.strOk t = true) → PyData.canLayAll0 (ts.map PyData.str) = true ∧ PyData.depthAll (ts.map PyData.str) ≤ 0
  | [], _ => ⟨rfl, Nat.le_refl _⟩
  | t :: ts, h => by
    obtain ⟨h1, h2⟩ := strs_lay (ts := ts) fun b hb => h b (List.mem_cons_of_mem _ hb)
    constructor
    · show (PyData.strOk t && PyData.canLayAll0 (ts.map PyData.str)) = true
      rw [h t (List.mem_cons_self ..), h1] <;> rfl
    · show max 0 (PyData.depthAll (ts.map PyData.str)) ≤ 0
      omega
theorem strs_shaped {ts : List Str} (h : ∀ t ∈ ts, PyData.strOk t = true) : SeqAt.shaped (.list (ts.map PyData.str)) = true := by
  obtain ⟨h1, h2⟩ := strs_lay h
  unfold SeqAt.shaped
  have c : (PyData.list (ts.map PyData.str)).canLay0 = true := h1
  rw [c]
  have d : (PyData.list (ts.map PyData.str)).depth ≤ 64 := by
    show PyData.depthAll (ts.map PyData.str) + 1 ≤ 64
    omega
  rw [decide_eq_true d] <;> rfl
end FT


/-! small ints and texts, shown -/
namespace FT
open PySem L2 TL ClX LiI
theorem int_small : ∀ k : Fin 101, (PyData.shown (.int ((k.1 : Nat) : Int))).length ≤ 8 ∧ PyData.showable (.int ((k.1 : Nat) : Int)) = true := by decide +kernel
theorem int_small' {u : Int} (h0 : 0 ≤ u) (h1 : u ≤ 100) : (PyData.shown (.int u)).length ≤ 8 ∧ PyData.showable (.int u) = true := by
  have h := int_small ⟨u.toNat, by omega⟩
  rw [show ((u.toNat : Nat) : Int) = u by omega] at h
  exact h
theorem str_leaf8 {z : Str} (h : PyData.strOk z = true) : PyData.leavesShort 8 (.str z) = true := by
  unfold PyData.leavesShort
  rw [List.all_eq_true]
  unfold PyData.strOk at h
  intro c hc
  have h := Array.all_eq_true_iff_forall_mem.mp h c (Array.mem_toList_iff.mp hc)
  have h := of_decide_eq_true h
  exact decide_eq_true (by omega)
end FT


namespace FT
open PySem L2 TL ClX
def letters : Str := "abcdefghijklmnopqrstuvwxyz"
theorem in_letters {c : Nat} (h0 : 97 ≤ c) (h1 : c ≤ 122) : c ∈ letters.cps.toList := by
  have all : ∀ i : Fin 26, (97 + i.1) ∈ letters.cps.toList := by decide +kernel
  have q := all ⟨c - 97, by omega⟩
  rw [show 97 + (⟨c - 97, by omega⟩ : Fin 26).1 = c by show 97 + (c - 97) = c; omega] at q
  exact q
/-- the module's own constants -/
structure Cs (mg : Str → Option Value) : Prop where
  long : ∃ t, mg "LONGEST" = some (.int 8 t)
  lett : ∃ t, mg "LETTERS" = some (.str letters t)
/-- the class Forest: its two constants -/
structure Fc (K : PySem.W.Frag) (mg : Str → Option Value) (CF : Addr) (mc : Value) : Prop where
  gF : mg "Forest" = some (.ref CF)
  rd : CRead K CF mc
  most : ∃ u, CVal K CF mc "MOST" (.int 12) u
  root : ∃ u, CVal K CF mc "ROOT" (.str "") u
/-- one of the text's defs, called by place -/
structure Dn (P : Program) (w : World) (K : PySem.W.Frag) (mg : Str → Option Value) (base : Heap) (CX : CXT) (k : Nat) (x : Str) (ps : List Str) (sp : Sp) (f : Addr) (fd : FuncData) : Prop where
  ok : FnOk P w K mg base CX k f fd ps sp
  kp : PySem.W.keepIn K (.ref f) = true
  bn : Binds K fd ps []
  mgn : mg x = some (.ref f)
def spIsName : Sp := fun vs H Q _ => ∃ z : Str, vs = [.str z] ∧ NameL z ∧ ∀ H', Same H H' → Q (.bl true) H'
def spIsAnc : Sp := fun vs H Q _ => ∃ (q : Addr) (f : Str) (t : List (Str × Str)), vs = [.ref q, .str f] ∧ H q = some (.dK (prs t)) ∧ TreeOk t ∧ f ∈ t.map Prod.fst ∧ ∀ H', Same H H' → Q (.bl false) H'
def spNeed : Sp := fun vs H Q _ => ∃ (q : Addr) (t : List (Str × Str)), vs = [.ref q] ∧ H q = some (.dK (prs t)) ∧ TreeOk t ∧ ∀ H', Same H H' → Q .non H'
section
variable {P : Program} {w : World} {K : PySem.W.Frag} {mg : Str → Option Value} {base : Heap}
theorem scIsName : FnScope ["value", "letter"] ["value"] (defScope s_is_name) := ⟨rfl, rfl, rfl, by decide +kernel, rfl, by decide +kernel, by decide +kernel⟩
theorem ok_isName {f : Addr} {fd : FuncData} (F : Fun K "is_name" "is_name" s_is_name f fd) (T : Nm mg) (C : Cs mg) : FnOk P w K mg base CX0 1 f fd ["value"] spIsName := by
  obtain ⟨t1, g1⟩ := C.long
  obtain ⟨t2, g2⟩ := C.lett
  refine F.ok scIsName (fun vs H Q E h => ?_) (fun cdv A outer s H vs Q E hr h => ?_)
  · obtain ⟨z, rfl, _⟩ := h
    rfl
  · obtain ⟨z, rfl, nm, k⟩ := h
    refine ⟨_, pss_cons (ps_if (PW.pt (pw_or (pt_not (pt_val (pe_callB call_isi (by rfl) T.isi (by decide +kernel) (pa_cons (pv 0) (pa_cons (pe_bltn (v := .ty "str") (u := .type "str") (by rfl) T.str (by decide +kernel) rfl) pa_nil)))))
        (pw_or (pt_not (pt_chain op_le op_le pe_int (pe_callB call_len_str (by rfl) T.len PySem.boot_len (pa_cons (pv 0) pa_nil)) (pe_glob (v := .int 8) (by rfl) g1 ⟨_, rfl⟩))) (pw_or1 (pt_cmpR op_eq (pv 0) pe_str (nomark _))))))
        (pss_one (ps_ret pe_bl)) pss_nil)
      (pss_one (ps_ret (pe_callB (cr_all rfl) (by rfl) T.all (by decide +kernel) (pa_cons (pe_lc (own := [("letter", 1)]) (g := gName 1) (tt := tYes) (te := tOp (fun x y H Q => ∃ (c : Nat) (z : Str), x = .str ⟨#[c]⟩ ∧ y = .str z ∧ Q (.bl (decide (c ∈ z.cps.toList))) H) (tVar 1) (tC (.str letters))) rfl scIsName.nd (pi_str (pv 0))
        (blkOk_by (N := ["value", "letter"]) (sc := defScope s_is_name) (by decide +kernel))
        (fun _ _ _ _ _ => pg_name (i := 1) scIsName.nd rfl (Or.inl rfl)) (fun _ _ _ _ _ => pts_nil) (fun _ _ _ _ _ => pe_cmpR op_in_sign (pv 1) (pe_glob (v := .str letters) (by rfl) g2 ⟨_, rfl⟩) rfl)) pa_nil)))), ?_⟩
    have l := nm.len
    have big : 1000 ≤ sizeLine := by decide
    refine ⟨_, rfl, .str z, _, _, _, true, rfl, .ty _, .base (.str z), kit_ty (by decide +kernel), true, rfl, ?_⟩
    refine iteF ?_
    refine ⟨_, rfl, z, rfl, by omega, _, _, rfl, rfl, _, rfl, ?_⟩
    rw [if_pos (decide_eq_true (by omega))]
    refine ⟨_, _, rfl, rfl, _, rfl, ?_⟩
    rw [decide_eq_true (show (z.length : Int) ≤ 8 by omega)]
    refine iteF ?_
    refine ⟨_, rfl, rfl, _, rfl, ?_⟩
    rw [decide_eq_false (show ¬ V.str z = V.str "self" from fun e => nm.self (V.str.inj e))]
    refine iteF ?_
    refine ⟨_, rfl, z, rfl, fun D nD => lc_it walk_str (fun i H' => Same H H' ∧ H' D = some (.lst ((List.replicate i true).map V.bl))) ⟨same_new nD, upd_same⟩ (fun _ _ _ _ => trivial) ?_ ?_⟩
    · intro i x Ha Hb hi ⟨q1, q2⟩ ⟨e, ch, hc, ex⟩
      subst e
      subst ex
      have hm : ch ∈ letters.cps.toList := by
        have hz : ch ∈ tl z := by
          rw [← Array.getElem?_toList] at hc
          exact List.mem_of_getElem? hc
        exact in_letters (nm.1 ch hz).1 (nm.1 ch hz).2
      refine ⟨rfl, ?_⟩
      refine ⟨_, rfl, ch, letters, rfl, rfl, _, q2, ?_, ?_, ?_⟩
      · rw [List.length_map, List.length_replicate]
        have : z.cps.size = z.length := rfl
        omega
      · exact Same.put q1 nD
      · rw [upd_same, decide_eq_true hm, List.replicate_succ', List.map_append] <;> rfl
    · intro H' ⟨q1, q2⟩
      refine ⟨D, _, rfl, SqL.of q2, ?_⟩
      have e : (List.replicate z.cps.size true).all id = true := by simp
      rw [e]
      exact k H' q1
def rankS (t : List (Str × Str)) (rk : Str → Nat) (σ : St) : Nat := match σ[3]? with
  | some (some (V.str a)) => if a ∈ t.map Prod.fst then rk a + 1 else 0
  | _ => 0
theorem scIsAnc : FnScope ["parents", "name", "seen", "above"] ["parents", "name"] (defScope s_is_ancestor) := ⟨rfl, rfl, rfl, by decide +kernel, rfl, by decide +kernel, by decide +kernel⟩
theorem ok_isAnc {f : Addr} {fd : FuncData} (F : Fun K "is_ancestor" "is_ancestor" s_is_ancestor f fd) : FnOk P w K mg base CX0 1 f fd ["parents", "name"] spIsAnc := by
  refine F.ok scIsAnc (fun vs H Q E h => ?_) (fun cdv A outer s H vs Q E hr h => ?_)
  · obtain ⟨q, g, t, rfl, _⟩ := h
    rfl
  · obtain ⟨q, g, t, rfl, hq, o, hg, k⟩ := h
    have hu := hu_of hr
    obtain ⟨rk, r⟩ := o.up
    refine ⟨_, pss_cons (ps_set (i := 2) scIsAnc.nd rfl (.inl rfl) (pe_lst pa_nil))
      (pss_cons (ps_set (i := 3) scIsAnc.nd rfl (.inl rfl) (pe_dget hu (pv 0) (pv 1) (fun _ _ => rfl)))
      (pss_cons (ps_while PassesOwn.never (PW.pt (pw_and (pt_cmp (pc_din hu (pv 3) (pv 0))) (pw_and1 (pt_cmpR op_notIn_seq (pv 3) (pv 2) rfl))))
        (pss_cons (ps_if (pt_cmpR op_eq (pv 3) (pv 1) (nomark _)) (pss_one (ps_ret pe_bl)) pss_nil)
        (pss_cons (ps_expr (pe_bm PySem.F.plainAttrs_list PySem.F.slot_list_append PySem.F.type_list_append mt_append (pv 2) (pa_cons (pv 3) pa_nil)))
        (pss_one (ps_set (i := 3) scIsAnc.nd rfl (.inl rfl) (pe_dget hu (pv 0) (pv 3) (fun _ _ => rfl)))))))
      (pss_one (ps_ret pe_bl)))), ?_⟩
    obtain ⟨p0, v0, w0, i0⟩ := o.step r hg
    have few := o.few
    have big : 1000 ≤ sizeLine := by decide
    refine ⟨by show 0 ≤ sizeLine; omega, fun l nl => ?_⟩
    have hq1 : (upd H l (.lst [])) q = some (.dK (prs t)) := by rw [upd_ne (ne_of_none hq nl)]; exact hq
    have ql : q ≠ l := ne_of_none hq nl
    refine ⟨_, rfl, _, rfl, q, V.str p0, rfl, by have z := DGet.k (k := Sum.inr g) hq1; rw [val_prs, v0] at z; exact z, ?_⟩
    refine while_by (fun σ H' => ∃ (a : Str) (ws : List Str), σ = [some (.ref q), some (.str g), some (.ref l), some (.str a)] ∧ H' l = some (.lst (ws.map V.str)) ∧ (∀ b u, H b = some u → H' b = some u) ∧ (a = "" ∨ (a ∈ t.map Prod.fst ∧ rk a < rk g ∧ ws.length + rk a < t.length)))
      (fun σ _ => rankS t rk σ) ⟨p0, [], rfl, upd_same, same_new nl, w0.imp id fun z => ⟨z.1, z.2, by simp only [List.length_nil]; omega⟩⟩ ?_ ?_
    · rintro σ Hx ⟨a, ws, rfl, hl, sm, ha⟩
      have hqx := sm _ _ hq
      have dg := DGet.k (k := Sum.inr a) hqx
      rw [val_prs] at dg
      refine ⟨_, rfl, _, rfl, q, _, rfl, dg, _, rfl, ?_⟩
      rcases ha with rfl | ⟨ha, ia, la⟩
      · rw [par_none o.root]
        refine iteF ?_
        exact iteF (k Hx sm)
      · obtain ⟨p, hv, hp, il⟩ := o.step r ha
        rw [hv]
        show if true = true then _ else _
        rw [if_pos rfl]
        refine ⟨_, rfl, _, rfl, l, _, rfl, .inl (SqL.of hl), rfl, flat_strs ws, _, rfl, ?_⟩
        rw [inV_strs]
        by_cases hw : a ∈ ws
        · rw [decide_eq_true hw]
          exact iteF (k Hx sm)
        · rw [decide_eq_false hw]
          show if true = true then _ else _
          rw [if_pos rfl]
          refine ⟨_, rfl, _, rfl, rfl, _, rfl, ?_⟩
          rw [decide_eq_false (show ¬ V.str a = V.str g from fun e => by
            have := V.str.inj e
            subst this
            omega)]
          refine iteF ?_
          refine ⟨_, rfl, .inl ⟨rfl, _, SqL.of hl⟩, _, rfl, l, _, _, rfl, rfl, hl, by rw [List.length_map]; omega, ?_⟩
          have hq2 : (upd Hx l (.lst (ws.map V.str ++ [.str a]))) q = some (.dK (prs t)) := by rw [upd_ne ql]; exact hqx
          refine ⟨_, rfl, _, rfl, q, V.str p, rfl, by have z := DGet.k (k := Sum.inr a) hq2; rw [val_prs, hv] at z; exact z, ?_⟩
          refine ⟨⟨p, ws ++ [a], rfl, by rw [upd_same, List.map_append] <;> rfl, fun b u e => ?_, ?_⟩, ?_⟩
          · rw [upd_ne (ne_of_none e nl)]
            exact sm b u e
          · rcases hp with rfl | ⟨hp, ip⟩
            · exact .inl rfl
            · refine .inr ⟨hp, by omega, ?_⟩
              rw [List.length_append]
              show ws.length + 1 + rk p < t.length
              omega
          · show rankS t rk [some (.ref q), some (.str g), some (.ref l), some (.str p)] < rankS t rk [some (.ref q), some (.str g), some (.ref l), some (.str a)]
            have e1 : rankS t rk [some (.ref q), some (.str g), some (.ref l), some (.str a)] = rk a + 1 := if_pos ha
            rw [e1]
            rcases hp with rfl | ⟨hp, ip⟩
            · have e2 : rankS t rk [some (.ref q), some (.str g), some (.ref l), some (.str "")] = 0 := if_neg o.root
              rw [e2]
              omega
            · have e2 : rankS t rk [some (.ref q), some (.str g), some (.ref l), some (.str p)] = rk p + 1 := if_pos hp
              rw [e2]
              omega
    · intro σ Hx Qa Qb h
      rintro ⟨v, e1, w, e2, a, r, e3, g, d, e4, z⟩
      refine ⟨v, e1, w, e2, a, r, e3, g, d, e4, ?_⟩
      cases d with
      | false =>
        rw [if_neg (by decide)] at z ⊢
        exact h _ _ z
      | true =>
        rw [if_pos rfl] at z ⊢
        obtain ⟨v, e1, w, e2, p, xs, e3, e4, e5, e6, b, e7, z⟩ := z
        exact ⟨v, e1, w, e2, p, xs, e3, e4, e5, e6, b, e7, h _ _ z⟩
theorem scNeed : FnScope ["parents", "name", "above", "other"] ["parents"] (defScope s_need_parents) := ⟨rfl, rfl, rfl, by decide +kernel, rfl, by decide +kernel, by decide +kernel⟩
theorem ok_need {f fI fA CF : Addr} {mc : Value} {fd fdI fdA : FuncData} (F : Fun K "need_parents" "need_parents" s_need_parents f fd) (T : Nm mg) (C : Cs mg) (Z : Fc K mg CF mc)
    (FI : Dn P w K mg base CX0 1 "is_name" ["value"] spIsName fI fdI) (FA : Dn P w K mg base CX0 1 "is_ancestor" ["parents", "name"] spIsAnc fA fdA) : FnOk P w K mg base CX0 2 f fd ["parents"] spNeed := by
  obtain ⟨um, cm⟩ := Z.most
  obtain ⟨ur, cr⟩ := Z.root
  refine F.ok scNeed (fun vs H Q E h => ?_) (fun cdv A outer s H vs Q E hr h => ?_)
  · obtain ⟨q, t, rfl, _⟩ := h
    rfl
  · obtain ⟨q, t, rfl, hq, o, k⟩ := h
    have hu := hu_of hr
    obtain ⟨rk, r⟩ := o.up
    refine ⟨_, pss_cons (ps_if (PW.pt (pw_or (pt_not (pt_val (pe_callB call_isi (by rfl) T.isi (by decide +kernel) (pa_cons (pv 0) (pa_cons (pe_bltn (v := .ty "dict") (u := .type "dict") (by rfl) T.dct (by decide +kernel) rfl) pa_nil)))))
        (pw_or1 (pt_not (pt_chain op_le op_le pe_int (pe_callB call_lenD (by rfl) T.len PySem.boot_len (pa_cons (pv 0) pa_nil)) (pe_cval (pe_glob (v := .ref CF) (by rfl) Z.gF rfl))))))) pss_never pss_nil)
      (pss_cons (ps_if (pt_not (pt_val (pe_callB (cr_all rfl) (by rfl) T.all (by decide +kernel) (pa_cons (pe_lock (pe_lc (own := [("name", 1)]) (g := gName 1) (tt := tYes) rfl scNeed.nd (pi_keys (pv 0))
        (blkOk_by (N := ["parents", "name", "above", "other"]) (sc := defScope s_need_parents) (by decide +kernel))
        (fun _ _ _ _ _ => pg_name (i := 1) scNeed.nd rfl (Or.inl rfl)) (fun _ _ _ _ _ => pts_nil) (fun _ _ _ _ _ => pe_call FI.ok hr rfl FI.mgn FI.kp FI.bn .nil pass0 (pa_cons (pv 1) pa_nil)))) pa_nil)))) pss_never pss_nil)
      (pss_one (ps_for PassesOwn.never rfl (pi_list (pe_callB (call_sortedD rfl) (by rfl) T.srt (by decide +kernel) (pa_cons (pv 0) pa_nil))) (pg_name (i := 1) scNeed.nd rfl (.inl rfl))
        (pss_cons (ps_set (i := 2) scNeed.nd rfl (.inl rfl) (pe_dget hu (pv 0) (pv 1) (fun _ _ => rfl)))
        (pss_cons (ps_if (PW.pt (pw_or (pt_not (pt_val (pe_callB call_isi (by rfl) T.isi (by decide +kernel) (pa_cons (pv 2) (pa_cons (pe_bltn (v := .ty "str") (u := .type "str") (by rfl) T.str (by decide +kernel) rfl) pa_nil)))))
          (pw_or1 (PW.pt (pw_and (pt_cmpR op_ne (pv 2) (pe_cval (pe_glob (v := .ref CF) (by rfl) Z.gF rfl)) (nomark _)) (pw_and1 (pt_cmp (pc_dnotin hu (pv 2) (pv 0))))))))) pss_never pss_nil)
        (pss_one (ps_if (pt_val (pe_call FA.ok hr rfl FA.mgn FA.kp FA.bn .nil pass0 (pa_cons (pe_lock (pe_dc (own := [("other", 3)]) (g := gName 3) (tt := tB (tCB (rIsi K) (tCons (tDGet (tVar 0) (tVar 3)) (tCons (tC (.ty "str")) tNil)))) rfl scNeed.nd (pi_keys (pv 0))
          (blkOk_by (N := ["parents", "name", "above", "other"]) (sc := defScope s_need_parents) (by decide +kernel))
          (fun _ _ _ _ _ => pg_name (i := 3) scNeed.nd rfl (Or.inl rfl)) (fun _ _ _ _ _ => pts_one (pt_val (pe_callB call_isi (by rfl) T.isi (by decide +kernel) (pa_cons (pe_dget hu (pv 0) (pv 3) (fun _ _ => rfl)) (pa_cons (pe_bltn (v := .ty "str") (u := .type "str") (by rfl) T.str (by decide +kernel) rfl) pa_nil)))))
          (fun _ _ _ _ _ => pv 3) (fun _ _ _ _ _ => pe_dget hu (pv 0) (pv 3) (fun _ _ => rfl)))) (pa_cons (pv 1) pa_nil)))) pss_never pss_nil))))))), ?_⟩
    have few := o.few
    have one := o.one
    have big : 1000 ≤ sizeLine := by decide
    have lp := prs_len t
    -- a dict, of one to twelve
    refine ⟨_, rfl, .ref q, _, _, _, true, rfl, .ty _, .base (.dK hq), kit_ty (by decide +kernel), true, rfl, ?_⟩
    refine iteF ?_
    refine ⟨_, rfl, q, _, rfl, hq, _, _, rfl, rfl, _, rfl, ?_⟩
    rw [if_pos (decide_eq_true (by omega))]
    refine ⟨CF, mc, _, um, rfl, Z.rd, cm, _, _, rfl, rfl, _, rfl, ?_⟩
    rw [decide_eq_true (show ((prs t).length : Int) ≤ 12 by omega)]
    refine iteF ?_
    -- all are names
    refine ⟨q, .dK (prs t), hq, trivial, fun od => ⟨_, rfl, q, od, rfl, .inl ⟨prs t, upd_same, fun D nD => ?_⟩⟩⟩
    have Dq : D ≠ q := (ne_of_none upd_same nD).symm
    have key : ∀ {i : Nat} {k : Key} {v : V}, (prs t)[i]? = some (k, v) → ∃ a p : Str, k = Sum.inr a ∧ v = .str p ∧ t[i]? = some (a, p) := fun {i k v} h => by
      unfold prs kvT at h
      rw [List.map_map, List.getElem?_map] at h
      obtain ⟨⟨a, p⟩, hp, e⟩ := Option.map_eq_some_iff.mp h
      cases e
      exact ⟨a, p, rfl, rfl, hp⟩
    refine lc_it walk_keys (fun i H' => Same (upd H q (.frz od (.dK (prs t)))) H' ∧ H' D = some (.lst ((List.replicate i true).map V.bl))) ⟨same_new nD, upd_same⟩ (fun i H' _ z => z.1 q _ upd_same) ?_ ?_
    · intro i x Ha Hb hi ⟨q1, q2⟩ ⟨e, k', v, hk, ex⟩
      subst e
      subst ex
      obtain ⟨a, p, rfl, rfl, hp⟩ := key hk
      refine ⟨rfl, ?_⟩
      refine ⟨_, rfl, a, rfl, o.nm a (List.mem_map.mpr ⟨(a, p), List.mem_of_getElem? hp, rfl⟩), fun H' s' => ⟨_, s' D _ q2, ?_, ?_, ?_⟩⟩
      · rw [List.length_map, List.length_replicate]
        omega
      · intro b u e
        rw [upd_ne (ne_of_none e nD)]
        exact s' _ _ (q1 b u e)
      · rw [upd_same, List.replicate_succ', List.map_append] <;> rfl
    intro H1 ⟨q1, q2⟩
    refine ⟨q1 q _ upd_same, D, _, rfl, SqL.of (by rw [upd_ne Dq]; exact q2), true, by rw [show (List.replicate (prs t).length true).all id = true by simp], ?_⟩
    refine iteF ?_
    have s1 : Same H (upd H1 q (.dK (prs t))) := unlock_same hq q1
    -- one by one, in their order
    refine ⟨_, rfl, q, prs t, t.map Prod.fst, rfl, .inl upd_same, prs_keys t, by rw [List.length_map]; omega, fun ys p perm srt np => ⟨p, rfl, ⟨_, SqL.of upd_same⟩, ?_⟩⟩
    obtain ⟨H2, e2⟩ : ∃ X, X = upd (upd H1 q (.dK (prs t))) p (.lst (ys.map V.str)) := ⟨_, rfl⟩
    have s2 : Same H H2 := s1.trans (e2 ▸ same_new np)
    have at2 : H2 p = some (.lst (ys.map V.str)) := by rw [e2]; exact upd_same
    rw [← e2]
    refine for_it walk_list (fun j σ' H' => (∃ u1 u2 u3, σ' = [some (.ref q), u1, u2, u3]) ∧ Same H2 H') ⟨⟨_, _, _, rfl⟩, fun _ _ e => e⟩ (fun j σ' H' _ z => SqL.of (z.2 _ _ at2)) ?_ ?_
    · intro j x σ' Ha Hb hj ⟨⟨u1, u2, u3, e⟩, sa⟩ ⟨eb, ex⟩
      subst e
      subst eb
      rw [List.getElem?_map] at ex
      obtain ⟨a, ha, rfl⟩ := Option.map_eq_some_iff.mp ex
      have ma : a ∈ t.map Prod.fst := perm.mem_iff.mp (List.mem_of_getElem? ha)
      obtain ⟨pa, hv, hpa, ia⟩ := o.step r ma
      have s0a : Same H Hb := s2.trans sa
      have hqa := s0a _ _ hq
      refine ⟨_, rfl, _, rfl, q, V.str pa, rfl, by have z := DGet.k (k := Sum.inr a) hqa; rw [val_prs, hv] at z; exact z, ?_⟩
      refine ⟨_, rfl, .str pa, _, _, _, true, rfl, .ty _, .base (.str pa), kit_ty (by decide +kernel), true, rfl, ?_⟩
      refine iteF ?_
      have anc : tIfS (tB (tCall spIsAnc [] E0 (tCons (tLockE (tDc (iKeys (tVar 0)) (gName 3) (tB (tCB (rIsi K) (tCons (tDGet (tVar 0) (tVar 3)) (tCons (tC (.ty "str")) tNil)))) (tVar 3) (tDGet (tVar 0) (tVar 3)) [3])) (tCons (tVar 1) tNil)))) tNever tNext
          ⟨fun σ' H' => (∃ u1 u2 u3, σ' = [some (.ref q), u1, u2, u3]) ∧ Same H2 H', fun v H' => Q v H', fun σ' H' => Q .non H', fun σ' H' => (∃ u1 u2 u3, σ' = [some (.ref q), u1, u2, u3]) ∧ Same H2 H'⟩ [some (.ref q), some (.str a), some (.str pa), u3] Hb := by
        refine ⟨q, .dK (prs t), hqa, trivial, fun od => ⟨_, rfl, q, od, rfl, .inl ⟨prs t, upd_same, fun D nD => ?_⟩⟩⟩
        have Dq : D ≠ q := (ne_of_none upd_same nD).symm
        refine dc_it walk_keys (fun i H' => Same (upd Hb q (.frz od (.dK (prs t)))) H' ∧ H' D = some (.dK (prs (t.take i)))) ⟨same_new nD, upd_same⟩ (fun i H' _ z => z.1 q _ upd_same) ?_ ?_
        · intro i x Hc Hd hi ⟨q1, q2⟩ ⟨e, k', v, hk, ex⟩
          subst e
          subst ex
          obtain ⟨b, r', rfl, rfl, hp⟩ := key hk
          have fz := q1 q _ upd_same
          have dg : DGet Hd q (.str b) (some (.str r')) := .inl ⟨prs t, Sum.inr b, .inr ⟨od, fz⟩, rfl, by rw [val_prs, par_of o.nd (List.mem_of_getElem? hp)] <;> rfl⟩
          have nb : b ∉ (t.take i).map Prod.fst := fun hm => by
            rw [List.map_take] at hm
            obtain ⟨j, hj⟩ := List.mem_iff_getElem?.mp hm
            have jl := (List.getElem?_eq_some_iff.mp hj).1
            rw [List.length_take] at jl
            rw [List.getElem?_take, if_pos (by omega)] at hj
            have e0 : (t.map Prod.fst)[i]? = some b := by rw [List.getElem?_map, hp] <;> rfl
            have := (List.getElem?_inj (by omega) o.nd).mp (hj.trans e0.symm)
            omega
          refine ⟨rfl, ?_⟩
          refine ⟨_, rfl, _, rfl, q, _, rfl, dg, .str r', _, _, _, true, rfl, .ty _, .base (.str r'), kit_ty (by decide +kernel), true, rfl, ?_⟩
          show if true = true then _ else _
          rw [if_pos rfl]
          refine ⟨_, rfl, _, rfl, _, rfl, q, _, rfl, dg, prs (t.take i), Sum.inr b, rfl, q2, ?_, ?_, ?_⟩
          · rw [prs_len, List.length_take]
            omega
          · intro c u e
            rw [upd_ne (ne_of_none e nD)]
            exact q1 c u e
          · rw [upd_same, put_new nb, take_more hp]
        · intro Hc ⟨q1, q2⟩
          rw [lp, List.take_length] at q2
          refine ⟨q1 q _ upd_same, _, rfl, D, a, t, rfl, by rw [upd_ne Dq]; exact q2, o, ma, fun H' s' => ⟨false, rfl, iteF ⟨⟨_, _, _, rfl⟩, (sa.trans (unlock_same hqa q1)).trans s'⟩⟩⟩
      rcases hpa with rfl | ⟨hp, _⟩
      · refine ⟨_, rfl, CF, mc, _, ur, rfl, Z.rd, cr, rfl, _, rfl, ?_⟩
        rw [decide_eq_true rfl]
        refine iteF ?_
        exact iteF anc
      · obtain ⟨pp, hv2, _⟩ := o.step r hp
        refine ⟨_, rfl, CF, mc, _, ur, rfl, Z.rd, cr, rfl, _, rfl, ?_⟩
        have ne : ¬ V.str pa = V.str "" := fun e => o.root (by rw [← V.str.inj e]; exact hp)
        rw [decide_eq_false ne]
        show if true = true then _ else _
        rw [if_pos rfl]
        refine ⟨_, rfl, _, rfl, q, V.str pp, rfl, by have z := DGet.k (k := Sum.inr pa) hqa; rw [val_prs, hv2] at z; exact z, _, rfl, ?_⟩
        exact iteF anc
    · intro σ' H' ⟨_, sa⟩
      exact k H' (s2.trans sa)
/-! ### Forest -/
/-- a forest at x, its pairs ts -/
def FAt (CF : Addr) (H : Hp) (x : Addr) (ts : List (Str × Str)) : Prop := ∃ dx dq, H x = some (.ins CF dx [("above", .ref dq)]) ∧ H dq = some (.dK (prs ts))
theorem FAt.mono {CF x : Addr} {H H' : Hp} {ts : List (Str × Str)} (s : Same H H') (h : FAt CF H x ts) : FAt CF H' x ts := let ⟨dx, dq, e1, e2⟩ := h; ⟨dx, dq, s _ _ e1, s _ _ e2⟩
/-- in ascending order -/
def Asc (ts : List (Str × Str)) : Prop := PyProof.Rows.sortedS (ts.map Prod.fst) = true
/-- facts of a class of the text -/
structure FoC (K : PySem.W.Frag) (CF : Addr) : Prop where
  cl : Cls K CF
  nA : NoAttr K CF "above"
def spFInit (CF : Addr) : Sp := fun vs H Q _ => ∃ (x q dx : Addr) (t : List (Str × Str)), vs = [.ref x, .ref q] ∧ H x = some (.ins CF dx []) ∧ H q = some (.dK (prs t)) ∧ TreeOk t ∧
  ∀ (H' : Hp) (ts : List (Str × Str)), ts.Perm t → Asc ts → FAt CF H' x ts → (∀ b o, b ≠ x → H b = some o → H' b = some o) → Q .non H'
def spFFlags (CF : Addr) : Sp := fun vs H Q _ => ∃ (x : Addr) (ts : List (Str × Str)), vs = [.ref x] ∧ FAt CF H x ts ∧ ∀ p, H p = none → Q (.ref p) (upd H p (.lst ((ts.map Prod.fst).map V.str)))
def spFParents (CF : Addr) : Sp := fun vs H Q _ => ∃ (x : Addr) (ts : List (Str × Str)), vs = [.ref x] ∧ FAt CF H x ts ∧ ∀ p, H p = none → Q (.ref p) (upd H p (.dK (prs ts)))
theorem scFInit : FnScope ["self", "parents", "name"] ["self", "parents"] (defScope s_Forest___init__) := ⟨rfl, rfl, rfl, by decide +kernel, rfl, by decide +kernel, by decide +kernel⟩
theorem perm_pairs : ∀ {ts t : List (Str × Str)}, (t.map Prod.fst).Nodup → (ts.map Prod.fst).Perm (t.map Prod.fst) → (∀ p ∈ ts, p ∈ t) → ts.Perm t
  | [], t, _, pf, _ => by
    have := pf.length_eq
    rw [List.length_map, List.length_map] at this
    rw [List.length_eq_zero_iff.mp (this.symm : t.length = 0)]
  | p :: ts, t, nd, pf, h => by
    have mp := h p (List.mem_cons_self ..)
    have pe := List.perm_cons_erase mp
    have pk : (ts.map Prod.fst).Perm ((t.erase p).map Prod.fst) := (pf.trans (pe.map Prod.fst)).cons_inv
    have nk := (pe.map Prod.fst).nodup_iff.mp nd
    obtain ⟨n1, n2⟩ := List.nodup_cons.mp (show (p.1 :: (t.erase p).map Prod.fst).Nodup from nk)
    refine ((perm_pairs n2 pk fun q hq => ?_).cons p).trans pe.symm
    rcases List.mem_cons.mp (pe.mem_iff.mp (h q (List.mem_cons_of_mem _ hq))) with e | m
    · exfalso
      refine n1 (pk.mem_iff.mp (List.mem_map.mpr ⟨q, hq, ?_⟩))
      rw [e]
    · exact m
theorem ok_finit {f fN CF : Addr} {fd fdN : FuncData} (F : Fun K "__init__" "Forest.__init__" s_Forest___init__ f fd) (T : Nm mg) (O : FoC K CF) (GN : Dn P w K mg base CX0 2 "need_parents" ["parents"] spNeed fN fdN) :
    FnOk P w K mg base CX0 3 f fd ["self", "parents"] (spFInit CF) := by
  refine F.ok scFInit (fun vs H Q E h => ?_) (fun cdv A outer s H vs Q E hr h => ?_)
  · obtain ⟨x, q, dx, t, rfl, _⟩ := h
    rfl
  · obtain ⟨x, q, dx, t, rfl, hx, hq, o, k⟩ := h
    have hu := hu_of hr
    refine ⟨_, pss_cons (ps_expr (pe_call GN.ok hr rfl GN.mgn GN.kp GN.bn .nil pass0 (pa_cons (pv 1) pa_nil)))
      (pss_one (ps_fld (pv 0) (pe_dc (own := [("name", 2)]) (g := gName 2) (tt := tYes) rfl scFInit.nd (pi_list (pe_callB (call_sortedD rfl) (by rfl) T.srt (by decide +kernel) (pa_cons (pv 1) pa_nil)))
        (blkOk_by (N := ["self", "parents", "name"]) (sc := defScope s_Forest___init__) (by decide +kernel))
        (fun _ _ _ _ _ => pg_name (i := 2) scFInit.nd rfl (Or.inl rfl)) (fun _ _ _ _ _ => pts_nil) (fun _ _ _ _ _ => pv 2) (fun _ _ _ _ _ => pe_dget hu (pv 1) (pv 2) (fun _ _ => rfl))) rfl)), ?_⟩
    have few := o.few
    have big : 1000 ≤ sizeLine := by decide
    refine ⟨_, rfl, q, t, rfl, hq, o, fun H1 s1 => ?_⟩
    have hq1 := s1 _ _ hq
    refine ⟨_, rfl, q, prs t, t.map Prod.fst, rfl, .inl hq1, prs_keys t, by rw [List.length_map]; omega, fun ys p perm srt np => ⟨p, rfl, ⟨_, SqL.of upd_same⟩, fun D nD => ?_⟩⟩
    obtain ⟨H2, e2⟩ : ∃ X, X = upd H1 p (.lst (ys.map V.str)) := ⟨_, rfl⟩
    have s2 : Same H H2 := s1.trans (e2 ▸ same_new np)
    have at2 : H2 p = some (.lst (ys.map V.str)) := by rw [e2]; exact upd_same
    rw [← e2] at nD ⊢
    have ndy : ys.Nodup := perm.nodup_iff.mpr o.nd
    have ly := perm.length_eq
    rw [List.length_map] at ly
    refine dc_it walk_list (fun i H' => Same H2 H' ∧ ∃ ts : List (Str × Str), H' D = some (.dK (prs ts)) ∧ ts.map Prod.fst = ys.take i ∧ ∀ p ∈ ts, p ∈ t) ⟨same_new nD, [], upd_same, by rw [List.take_zero] <;> rfl, fun p h => by cases h⟩ (fun i H' _ z => SqL.of (z.1 _ _ at2)) ?_ ?_
    · intro i y Ha Hb hi ⟨q1, ts, hD, ets, hts⟩ ⟨eb, ex⟩
      subst eb
      rw [List.getElem?_map] at ex
      obtain ⟨a, ha, rfl⟩ := Option.map_eq_some_iff.mp ex
      have ma : a ∈ t.map Prod.fst := perm.mem_iff.mp (List.mem_of_getElem? ha)
      obtain ⟨pa, hv⟩ := par_some o.nd ma
      have hqa := q1 _ _ (s2 _ _ hq)
      have fresh : a ∉ ts.map Prod.fst := by
        rw [ets]
        intro hm
        obtain ⟨j, hj⟩ := List.mem_iff_getElem?.mp hm
        have jl := (List.getElem?_eq_some_iff.mp hj).1
        have il := (List.getElem?_eq_some_iff.mp ha).1
        rw [List.length_take] at jl
        rw [List.getElem?_take, if_pos (by omega)] at hj
        have := (List.getElem?_inj (by omega) ndy).mp (hj.trans ha.symm)
        omega
      have lt := congrArg List.length ets
      rw [List.length_map, List.length_take] at lt
      refine ⟨rfl, ?_⟩
      refine ⟨_, rfl, _, rfl, _, rfl, q, V.str pa, rfl, by have z := DGet.k (k := Sum.inr a) hqa; rw [val_prs, hv] at z; exact z, prs ts, Sum.inr a, rfl, hD, by rw [prs_len]; omega, ?_, ts ++ [(a, pa)], ?_, ?_, fun z hz => ?_⟩
      · intro b u e
        rw [upd_ne (ne_of_none e nD)]
        exact q1 b u e
      · rw [upd_same, put_new fresh]
      · rw [List.map_append, ets, take_more ha] <;> rfl
      · rcases List.mem_append.mp hz with h | h
        · exact hts z h
        · rw [List.mem_singleton.mp h]
          exact par_mem hv
    · intro H3 ⟨q1, ts, hD, ets, hts⟩
      rw [List.length_map, List.take_length] at ets
      have s3 : Same H H3 := s2.trans q1
      refine ⟨_, rfl, x, CF, dx, [], rfl, s3 _ _ hx, O.cl, O.nA, by show 0 < 1000; decide, ?_⟩
      have xD : D ≠ x := (ne_of_none (s2 _ _ hx) nD).symm
      refine k _ ts (perm_pairs o.nd (by rw [ets]; exact perm) hts) (by unfold Asc; rw [ets]; exact srt) ⟨dx, D, upd_same, by rw [upd_ne xD]; exact hD⟩ fun b u bx e => ?_
      rw [upd_ne bx]
      exact s3 b u e
/-- a property of a class -/
structure Pr1 (P : Program) (w : World) (K : PySem.W.Frag) (mg : Str → Option Value) (base : Heap) (CF : Addr) (x : Str) (sp : Sp) (p g : Addr) (fd : FuncData) : Prop where
  pr : PropOf K CF x p g
  fn : FnOk P w K mg base CX0 1 g fd ["self"] sp
  bn : Binds K fd ["self"] []
def spPlacesOf (CF : Addr) : Sp := fun vs H Q _ => ∃ (x : Addr) (ts : List (Str × Str)), vs = [.ref x] ∧ FAt CF H x ts ∧ ts.length ≤ 12 ∧ ∀ p H', Same H H' → H p = none → H' p = some (.lst ((("" : Str) :: ts.map Prod.fst).map V.str)) → Q (.ref p) H'
end
end FT


/-! the package's errors: their __init__, how they are raised. -/
namespace FT
open PySem L2 TL ClX
/-- what the top has written of an error class at C, its __init__ at I; f its attribute, or the empty text -/
structure Er (K : PySem.W.Frag) (mg : Str → Option Value) (nm f : Str) (C I : Addr) : Prop where
  g : mg nm = some (.ref C)
  x : XCls K C
  ini : PySem.W.findIn K (.ref C) "__init__" = some (some (.ref I))
  ity : PySem.W.typeIn K (.ref I) = some (.type "function")
  no : PySem.W.findIn K (.ref C) f = some none
/-- the base class -/
structure Rt (K : PySem.W.Frag) (mg : Str → Option Value) (R : Addr) : Prop where
  g : mg "RolloutError" = some (.ref R)
  ini : XIni K R
def spInit1 (C : Addr) (f : Str) : Sp := fun vs H Q _ => ∃ (a : Addr) (v : V), vs = [.ref a, v] ∧ H a = some (exo a C none) ∧ ∀ d, H d = none → d ≠ a → Q .non (upd (upd H d (exd d [(f, v)])) a (exo a C (some d)))
def spInit0 (C : Addr) : Sp := fun vs H Q _ => ∃ (a : Addr), vs = [.ref a] ∧ H a = some (exo a C none) ∧ Q .non H
/-- C(): what is asked -/
theorem raise0 {C : Addr} {H1 : Hp} {Q : XK} (k : Q (.ref C) none H1) :
    ([] : List V).length ≤ 1000 ∧ ∀ a, H1 a = none → spInit0 C (.ref a :: ([] ++ [])) (upd H1 a (exo a C none)) (fun v H2 => v = .non ∧ H2 a = some (exo a C none) ∧ Q (.ref C) none (del H2 a)) (fun _ _ _ => False) := by
  refine ⟨Nat.zero_le _, fun a na => ⟨a, rfl, upd_same, rfl, upd_same, ?_⟩⟩
  have e : del (upd H1 a (exo a C none)) a = H1 := by
    funext b
    by_cases h : b = a
    · subst h
      rw [del_same, na]
    · rw [del_ne h, upd_ne h]
  rw [e]
  exact k
/-- an error class with its __init__, as a whole: with one value -/
structure Er1 (P : Program) (w : World) (K : PySem.W.Frag) (mg : Str → Option Value) (base : Heap) (nm f : Str) (C I : Addr) (fd : FuncData) : Prop where
  e : Er K mg nm f C I
  fn : FnOk P w K mg base CX0 1 I fd ["self", f] (spInit1 C f)
  bn : Binds K fd ["self", f] []
structure Er0 (P : Program) (w : World) (K : PySem.W.Frag) (mg : Str → Option Value) (base : Heap) (nm : Str) (C I : Addr) (fd : FuncData) : Prop where
  e : Er K mg nm "" C I
  fn : FnOk P w K mg base CX0 1 I fd ["self"] (spInit0 C)
  bn : Binds K fd ["self"] []
section
variable {X : Cx} {W : WX} {nm f : Str} {C I : Addr} {fd : FuncData} {ex : Expr} {te : TE} {p pos pos2 : Pos}
/-- raise C() -/
theorem ps_err0 (L : Er0 X.prog X.w X.K X.mg X.base nm C I fd) (hc : X.calm = true) (tk : Takes X W) (hr : Room 2 X.A) (hg : Gl X nm) (hdb : (nm == ("__debug__" : Str)) = false := by decide) :
    PS X (.Raise (some (.Call (.Name nm p) [] [] pos)) none pos2) (fun _ σ H => tMkO0 C (spInit0 C) [] tNil σ H fun cls d H' => W cls d σ H') :=
  ps_raise hc tk (pmk_none L.e.x.oex L.e.ini L.e.ity L.fn hr L.bn .nil (fun _ _ _ _ _ _ _ h => h.elim) hg L.e.g hdb)
end
end FT


namespace FT
open PySem L2 TL ClX
section
variable {P : Program} {w : World} {K : PySem.W.Frag} {mg : Str → Option Value} {base : Heap}
theorem sc_Mismatch : FnScope ["self"] ["self"] (defScope s_Mismatch___init__) := ⟨rfl, rfl, rfl, by decide +kernel, rfl, by decide +kernel, by decide +kernel⟩
theorem ok_Mismatch {f R C I : Addr} {fd : FuncData} (F : Fun K "__init__" "Mismatch.__init__" s_Mismatch___init__ f fd) (T : Rt K mg R) (L : Er K mg "Mismatch" "" C I) : FnOk P w K mg base CX0 1 f fd ["self"] (spInit0 C) := by
  refine F.ok sc_Mismatch (fun vs H Q E h => ?_) (fun cdv A outer s H vs Q E hr h => ?_)
  · obtain ⟨a, rfl, _⟩ := h
    rfl
  · obtain ⟨a, rfl, ha, k⟩ := h
    refine ⟨_, pss_one (ps_expr (pe_clsinit T.ini rfl T.g (pa_cons (pv 0) (pa_cons pe_str pa_nil)))), ?_⟩
    exact ⟨_, rfl, a, C, _, rfl, by show 1 ≤ 1000; omega, L.x.oex, ha, k⟩
end
end FT


/-! data of any kind; what is raised; numbers by places -/
namespace FT
open PySem L2 TL ClX
/-! ### data of any kind -/
inductive Dat (K : PySem.W.Frag) (H : Hp) : V → String → Prop where
  | non : Dat K H .non "NoneType"
  | bl (b : Bool) : Dat K H (.bl b) "bool"
  | int (i : Int) : Dat K H (.int i) "int"
  | str (z : Str) : Dat K H (.str z) "str"
  | lst {a : Addr} {xs : List V} (h : H a = some (.lst xs)) : Dat K H (.ref a) "list"
  | tup {a : Addr} {xs : List V} (h : H a = some (.tup xs)) : Dat K H (.ref a) "tuple"
  | dct {a : Addr} {kvs : List (Key × V)} (h : H a = some (.dK kvs)) : Dat K H (.ref a) "dict"
theorem Dat.ty {K : PySem.W.Frag} {H : Hp} {v : V} {T : String} (d : Dat K H v T) : TyX K H v (.type T) := by
  cases d with
  | non => exact .base .non
  | bl b => exact .base (.bl b)
  | int i => exact .base (.int i)
  | str z => exact .base (.str z)
  | lst h => exact .base (.lst h)
  | tup h => exact .base (.tup h)
  | dct h => exact .base (.dK h)
theorem Dat.mono {K : PySem.W.Frag} {H H' : Hp} {v : V} {T : String} (s : Same H H') (d : Dat K H v T) : Dat K H' v T := by
  cases d with
  | non => exact .non
  | bl b => exact .bl b
  | int i => exact .int i
  | str z => exact .str z
  | lst h => exact .lst (s _ _ h)
  | tup h => exact .tup (s _ _ h)
  | dct h => exact .dct (s _ _ h)
def IsDat (K : PySem.W.Frag) (H : Hp) (v : V) : Prop := ∃ T, Dat K H v T
theorem IsDat.mono {K : PySem.W.Frag} {H H' : Hp} {v : V} (s : Same H H') (d : IsDat K H v) : IsDat K H' v := let ⟨T, d⟩ := d; ⟨T, d.mono s⟩
/-- isinstance(v, int) -/
def isIntV : V → Bool
  | .int _ => true
  | .bl _ => true
  | _ => false
def isBlV : V → Bool
  | .bl _ => true
  | _ => false
def isDictV (H : Hp) (v : V) : Bool := match v with
  | .ref a => match H a with
    | some (.dK _) => true
    | _ => false
  | _ => false
/-- an integer, no bool, of at least l -/
def isGe (v : V) (l : Int) : Bool := match v with
  | .int i => decide (l ≤ i)
  | _ => false
/-! ### what is raised -/
inductive Err where
  | e0 (C : Addr)
  | e1 (C : Addr) (f : Str) (v : V)
/-- the way out of such an error, from the heap H -/
def Out (H : Hp) (E : XK) : Err → Prop
  | .e0 C => ∀ H', Same H H' → E (.ref C) none H'
  | .e1 C f v => ∀ d H', Same H H' → H d = none → H' d = some (.xd [(f, v)]) → E (.ref C) (some d) H'
theorem Out.mono {H H1 : Hp} {E : XK} {e : Err} (s : Same H H1) (o : Out H E e) : Out H1 E e := by
  cases e with
  | e0 C => exact fun H' s' => o H' (s.trans s')
  | e1 C f v => exact fun d H' s' n => o d H' (s.trans s') (s.free n)
theorem out0 {C : Addr} {H H1 : Hp} {E : XK} (o : Out H E (.e0 C)) (s : Same H H1) :
    ([] : List V).length ≤ 1000 ∧ ∀ a, H1 a = none → spInit0 C (.ref a :: ([] ++ [])) (upd H1 a (exo a C none)) (fun v H2 => v = .non ∧ H2 a = some (exo a C none) ∧ E (.ref C) none (del H2 a)) (fun _ _ _ => False) :=
  raise0 (Q := fun cls d H' => E cls d H') (o _ s)
/-! ### numbers by places -/
def tblI (l : List Str) (g : Str → Int) : List (Key × V) := kvT (l.map fun a => (a, V.int (g a)))
theorem tblI_len (l : List Str) (g : Str → Int) : (tblI l g).length = l.length := by unfold tblI; rw [kvT_len, List.length_map]
theorem tblI_val {l : List Str} {g : Str → Int} {a : Str} (h : a ∈ l) : valV (tblI l g) (Sum.inr a) = some (.int (g a)) := by
  unfold tblI
  rw [kvT_val]
  induction l with
  | nil => cases h
  | cons b l ih =>
    rw [List.map_cons, look_cons]
    by_cases e : b = a
    · subst e
      exact if_pos rfl
    · rw [if_neg e]
      exact ih ((List.mem_cons.mp h).resolve_left fun z => e z.symm)
/-! ### feasible sizes -/
/-- sizes: a dict, its pairs told, or another value -/
def SzV (K : PySem.W.Frag) (H : Hp) (sv : V) : Option (List (Key × V)) → Prop
  | some kvs => ∃ q, sv = .ref q ∧ H q = some (.dK kvs) ∧ ∀ p ∈ kvs, IsDat K H p.2
  | none => ∃ T, Dat K H sv T ∧ T ≠ "dict"
theorem SzV.mono {K : PySem.W.Frag} {H H' : Hp} {sv : V} {o : Option (List (Key × V))} (s : Same H H') (h : SzV K H sv o) : SzV K H' sv o := by
  cases o with
  | none => exact let ⟨T, d, n⟩ := h; ⟨T, d.mono s, n⟩
  | some kvs => exact let ⟨q, e, h, a⟩ := h; ⟨q, e, s _ _ h, fun p hp => (a p hp).mono s⟩
def szOf (kvs : List (Key × V)) (a : Str) : Int := match valV kvs (Sum.inr a) with
  | some (.int i) => i
  | _ => 0
def badKey (kvs : List (Key × V)) (a : Str) : Bool := !isGe ((valV kvs (Sum.inr a)).getD .non) 0
/-- the place of the first fault, as the error tells it -/
def feas (ts : List (Str × Str)) (n : Int) : Option (List (Key × V)) → Option V
  | none => some .non
  | some kvs => if kvs.length ≠ ts.length then some .non else if (ts.map Prod.fst).all (fun a => (valV kvs (Sum.inr a)).isSome) = false then some .non else
    match (ts.map Prod.fst).find? (badKey kvs) with
    | some a => some (.str a)
    | none => ((("" : Str) :: ts.map Prod.fst).find? fun p => decide (resid ts n (szOf kvs) p < 0)).map V.str
def usersOk (v : V) (m : Int) : Bool := match v with
  | .int i => decide (1 ≤ i) && decide (i ≤ m)
  | _ => false
def feE (CS : Addr) (ts : List (Str × Str)) (n : Int) (o : Option (List (Key × V))) : Option Err := (feas ts n o).map fun v => .e1 CS "place" v
def szE (CU CS : Addr) (ts : List (Str × Str)) (uv : V) (o : Option (List (Key × V))) : Option Err := if usersOk uv (10 ^ 30) = true then feE CS ts (match uv with | .int n => n | _ => 0) o else some (.e0 CU)
/-- a def that hands back None, or raises -/
def Res (H : Hp) (Q : VK) (E : XK) : Option Err → Prop
  | none => ∀ H', Same H H' → Q .non H'
  | some e => Out H E e
theorem Res.mono {H H1 : Hp} {Q : VK} {E : XK} {o : Option Err} (s : Same H H1) (r : Res H Q E o) : Res H1 Q E o := by
  cases o with
  | none => exact fun H' s' => r H' (s.trans s')
  | some e => exact Out.mono s r
def spIsInt (K : PySem.W.Frag) : Sp := fun vs H Q _ => ∃ (v : V) (l : Int), vs = [v, .int l] ∧ IsDat K H v ∧ Q (.bl (isGe v l)) H
def spUsers (K : PySem.W.Frag) (CU : Addr) : Sp := fun vs H Q E => ∃ (v : V) (m : Int), vs = [v, .int m] ∧ IsDat K H v ∧ Res H Q E (if usersOk v m = true then none else some (.e0 CU))
def spResid (CF : Addr) : Sp := fun vs H Q _ => ∃ (x q : Addr) (n : Int) (ts : List (Str × Str)) (kvs : List (Key × V)), vs = [.ref x, .int n, .ref q] ∧ FAt CF H x ts ∧ TreeOk ts ∧ H q = some (.dK kvs) ∧ (∀ a ∈ ts.map Prod.fst, valV kvs (Sum.inr a) = some (.int (szOf kvs a))) ∧
  ∀ p H', Same H H' → H p = none → H' p = some (.dK (tblI ("" :: ts.map Prod.fst) (resid ts n (szOf kvs)))) → Q (.ref p) H'
def spFeas (K : PySem.W.Frag) (CF CS : Addr) : Sp := fun vs H Q E => ∃ (x : Addr) (n : Int) (sv : V) (ts : List (Str × Str)) (o : Option (List (Key × V))), vs = [.ref x, .int n, sv] ∧ FAt CF H x ts ∧ TreeOk ts ∧ SzV K H sv o ∧ Res H Q E (feE CS ts n o)
def spNSizes (K : PySem.W.Frag) (CF CU CS : Addr) : Sp := fun vs H Q E => ∃ (x : Addr) (uv sv : V) (ts : List (Str × Str)) (o : Option (List (Key × V))), vs = [.ref x, uv, sv] ∧ FAt CF H x ts ∧ TreeOk ts ∧ IsDat K H uv ∧ SzV K H sv o ∧ Res H Q E (szE CU CS ts uv o)
end FT


namespace FT
open PySem L2 TL ClX
theorem valV_mem {kvs : List (Key × V)} {k : Key} {v : V} (h : valV kvs k = some v) : (k, v) ∈ kvs := by
  unfold valV at h
  obtain ⟨p, hp, e⟩ := Option.map_eq_some_iff.mp h
  have m := List.mem_of_find?_eq_some hp
  have q : p.1 = k := of_decide_eq_true (List.find?_some (p := fun kv : Key × V => decide (kv.1 = k)) hp)
  obtain ⟨k', v'⟩ := p
  cases e
  cases (show k' = k from q)
  exact m
theorem feas_some (ts : List (Str × Str)) (n : Int) (kvs : List (Key × V)) : feas ts n (some kvs) = if kvs.length ≠ ts.length then some .non else if (ts.map Prod.fst).all (fun a => (valV kvs (Sum.inr a)).isSome) = false then some .non else
    match (ts.map Prod.fst).find? (badKey kvs) with
    | some a => some (.str a)
    | none => ((("" : Str) :: ts.map Prod.fst).find? fun p => decide (resid ts n (szOf kvs) p < 0)).map V.str := rfl
end FT


namespace FT
open PySem L2 TL ClX
def kvsOf (o : Option (List (Key × V))) : List (Key × V) := o.getD []
def numV (v : V) : Int := match v with
  | .int n => n
  | _ => 0
/-- what amounts raises -/
def amE (CU CS : Addr) (ts : List (Str × Str)) (uv : V) (o1 o2 : Option (List (Key × V))) : Option Err := (szE CU CS ts uv o1).or (feE CS ts (numV uv) o2)
def amt (o1 o2 : Option (List (Key × V))) (a : Str) : Int := szOf (kvsOf o2) a - szOf (kvsOf o1) a
def absI (z : Int) : Int := if z < 0 then -z else z
def spAmtOf (CF : Addr) : Sp := fun vs H Q _ => ∃ (x q1 q2 : Addr) (ts : List (Str × Str)) (k1 k2 : List (Key × V)), vs = [.ref x, .ref q1, .ref q2] ∧ FAt CF H x ts ∧ TreeOk ts ∧ H q1 = some (.dK k1) ∧ H q2 = some (.dK k2) ∧
  (∀ a ∈ ts.map Prod.fst, valV k1 (Sum.inr a) = some (.int (szOf k1 a))) ∧ (∀ a ∈ ts.map Prod.fst, valV k2 (Sum.inr a) = some (.int (szOf k2 a))) ∧
  ∀ p H', Same H H' → H p = none → H' p = some (.dK (tblI (ts.map Prod.fst) fun a => szOf k2 a - szOf k1 a)) → Q (.ref p) H'
def spAmounts (K : PySem.W.Frag) (CF CU CS : Addr) : Sp := fun vs H Q E => ∃ (x : Addr) (uv sv nv : V) (ts : List (Str × Str)) (o1 o2 : Option (List (Key × V))), vs = [.ref x, uv, sv, nv] ∧ FAt CF H x ts ∧ TreeOk ts ∧ IsDat K H uv ∧ SzV K H sv o1 ∧ SzV K H nv o2 ∧
  match amE CU CS ts uv o1 o2 with
  | none => ∀ p H', Same H H' → H p = none → H' p = some (.dK (tblI (ts.map Prod.fst) (amt o1 o2))) → Q (.ref p) H'
  | some e => Out H E e
def spLeast (K : PySem.W.Frag) (CF CU CS : Addr) : Sp := fun vs H Q E => ∃ (x : Addr) (uv sv nv : V) (ts : List (Str × Str)) (o1 o2 : Option (List (Key × V))), vs = [.ref x, uv, sv, nv] ∧ FAt CF H x ts ∧ TreeOk ts ∧ IsDat K H uv ∧ SzV K H sv o1 ∧ SzV K H nv o2 ∧
  match amE CU CS ts uv o1 o2 with
  | none => ∀ H', Same H H' → Q (.int ((ts.map Prod.fst).map fun a => absI (amt o1 o2 a)).sum) H'
  | some e => Out H E e
end FT


namespace FT
open PySem L2 TL ClX LiI
/-! ### crossings -/
def crs (g : Str → Int) (ts : List (Str × Str)) : List (Str × Str × Int) := ts.flatMap fun p => if 0 < g p.1 then [(p.2, p.1, g p.1)] else if g p.1 < 0 then [(p.1, p.2, - g p.1)] else []
def EdG (H : Hp) (rs : List Addr) (es : List (Str × Str × Int)) : Prop := Paired (fun (r : Addr) (e : Str × Str × Int) => H r = some (.tup [.str e.1, .str e.2.1, .int e.2.2])) rs es
theorem EdG.mono {H H' : Hp} (s : Same H H') : ∀ {rs : List Addr} {es : List (Str × Str × Int)}, EdG H rs es → EdG H' rs es
  | _, _, .nil => .nil
  | _, _, .cons h t => .cons (s _ _ h) (EdG.mono s t)
theorem EdG.push {H : Hp} {D : Addr} {xs : List V} {o : HO} (e : H D = some (.lst xs)) : ∀ {rs : List Addr} {es : List (Str × Str × Int)}, EdG H rs es → EdG (upd H D o) rs es
  | _, _, .nil => .nil
  | _, _, .cons h t => .cons (by rw [upd_ne (ne_of h e (by intro z; cases z))]; exact h) (EdG.push e t)
theorem EdG.snoc {H : Hp} {r : Addr} {e : Str × Str × Int} (h : H r = some (.tup [.str e.1, .str e.2.1, .int e.2.2])) : ∀ {rs : List Addr} {es : List (Str × Str × Int)}, EdG H rs es → EdG H (rs ++ [r]) (es ++ [e])
  | _, _, .nil => .cons h .nil
  | _, _, .cons q t => .cons q (EdG.snoc h t)
theorem EdG.len {H : Hp} : ∀ {rs : List Addr} {es : List (Str × Str × Int)}, EdG H rs es → rs.length = es.length
  | _, _, .nil => rfl
  | _, _, .cons _ t => congrArg (· + 1) (EdG.len t)
theorem EdG.at_ {H : Hp} {rs : List Addr} {es : List (Str × Str × Int)} (p : EdG H rs es) {i : Nat} {r : Addr} (h : rs[i]? = some r) : ∃ e, es[i]? = some e ∧ H r = some (.tup [.str e.1, .str e.2.1, .int e.2.2]) := LiI.paired_get p h
def spCross (CF : Addr) : Sp := fun vs H Q _ => ∃ (x q : Addr) (ts : List (Str × Str)) (g : Str → Int), vs = [.ref x, .ref q] ∧ FAt CF H x ts ∧ TreeOk ts ∧ H q = some (.dK (tblI (ts.map Prod.fst) g)) ∧
  ∀ p rs H', Same H H' → H p = none → H' p = some (.lst (rs.map V.ref)) → EdG H' rs (crs g ts) → Q (.ref p) H'
end FT


/-! plain: lists of users by place, how a change of sizes moves them, that the way back restores them. No program here. -/
namespace FT
open PySem L2 TL
/-! ### sums -/
/-! ### places, neighbours -/
def pls (ts : List (Str × Str)) : List Str := "" :: ts.map Prod.fst
theorem par_pl {ts : List (Str × Str)} (o : TreeOk ts) {a z : Str} (h : par ts a = some z) : Pl ts z := by
  obtain ⟨rk, r⟩ := o.up
  exact (r _ (par_mem h)).2.imp id And.left
/-- the other ends of the edges of a place -/
def adj (ts : List (Str × Str)) (p : Str) : List Str := (if p = "" then [] else [(par ts p).getD ""]) ++ kids ts p
/-! ### how many users cross an edge -/
def lv (ts : List (Str × Str)) (c : Str → Int) (p o : Str) : Nat := if par ts o = some p ∧ 0 < c o then (c o).toNat else if par ts p = some o ∧ c p < 0 then (- c p).toNat else 0
/-! ### an order of the places that all moves follow -/
def sg (z : Int) : Int := if 0 < z then 1 else if z < 0 then -1 else 0
def phi (ts : List (Str × Str)) (c : Str → Int) (p : Str) : Int := ((pathOf ts p).map fun x => sg (c x)).sum
def lvl (ts : List (Str × Str)) (c : Str → Int) (p : Str) : Nat := (phi ts c p + 12).toNat
/-! ### a change moves the lists -/
/-- groups that come to a place, in the order in which they are put behind its list -/
def ins (ts : List (Str × Str)) (G : Str → Str → List Int) (p : Str) : List Int := ((adj ts p).reverse.map fun o => G o p).flatten
/-- groups that leave a place -/
def outs (ts : List (Str × Str)) (G : Str → Str → List Int) (p : Str) : List Int := ((adj ts p).reverse.map fun o => G p o).flatten
def Moved (ts : List (Str × Str)) (c : Str → Int) (L L' : Str → List Int) : Prop := ∃ G : Str → Str → List Int, (∀ p, Pl ts p → ∀ o ∈ adj ts p, (G p o).length = lv ts c p o) ∧ ∀ p, Pl ts p → L p ++ ins ts G p = L' p ++ outs ts G p
/-- the lengths are the residents -/
def Lens (ts : List (Str × Str)) (n : Int) (sz : Str → Int) (L : Str → List Int) : Prop := ∀ p, Pl ts p → ((L p).length : Int) = resid ts n sz p
end FT


/-! plain: sizes of lists; every user at one place; a user's way through the tree. -/
namespace FT
open PySem L2 TL
/-! ### sizes and lengths -/
def under (ts : List (Str × Str)) (a : Str) : List Str := (ts.map Prod.fst).filter fun b => decide (a ∈ pathOf ts b)
def lsz (ts : List (Str × Str)) (L : Str → List Int) (a : Str) : Int := ((under ts a).map fun b => ((L b).length : Int)).sum
/-- the paths' flags rank no higher -/
theorem path_rank {ts : List (Str × Str)} (o : TreeOk ts) {rk : Str → Nat} (r : Rk ts rk) : ∀ (n : Nat) (a : Str), Pl ts a → (a ≠ "" → rk a < n) → ∀ z ∈ pathOf ts a, rk z ≤ rk a := by
  intro n
  induction n with
  | zero =>
    intro a ha h z hz
    by_cases e : a = ""
    · subst e
      rw [path_root] at hz
      cases hz
    · exact absurd (h e) (Nat.not_lt_zero _)
  | succ n ih =>
    intro a ha h z hz
    by_cases e : a = ""
    · subst e
      rw [path_root] at hz
      cases hz
    · obtain ⟨p, ep, hp, _⟩ := o.step r (ha.resolve_left e)
      rw [path_step o (ha.resolve_left e) ep] at hz
      rcases List.mem_append.mp hz with hz | hz
      · have hh := h e
        rcases hp with e0 | ⟨hp, lt⟩
        · subst e0
          rw [path_root] at hz
          cases hz
        · have := ih p (.inr hp) (fun _ => by omega) z hz
          omega
      · rw [List.mem_singleton.mp hz]
        exact Nat.le_refl _
theorem not_above {ts : List (Str × Str)} (o : TreeOk ts) {a p : Str} (h : par ts a = some p) : a ∉ pathOf ts p := fun hm => by
  obtain ⟨rk, r⟩ := o.up
  have lt := (r _ (par_mem h)).2
  rcases lt with e | ⟨hp, lt⟩
  · have e : p = "" := e
    rw [e, path_root] at hm
    cases hm
  · have lt : rk p < rk a := lt
    have := path_rank o r (rk p + 1) p (.inr hp) (fun _ => Nat.lt_succ_self _) a hm
    omega
theorem path_nd {ts : List (Str × Str)} (o : TreeOk ts) {a : Str} (h : Pl ts a) : (pathOf ts a).Nodup := by
  obtain ⟨rk, r⟩ := o.up
  have key : ∀ (n : Nat) (a : Str), Pl ts a → (a ≠ "" → rk a < n) → (pathOf ts a).Nodup := by
    intro n
    induction n with
    | zero =>
      intro a ha h
      by_cases e : a = ""
      · subst e
        rw [path_root]
        exact List.nodup_nil
      · exact absurd (h e) (Nat.not_lt_zero _)
    | succ n ih =>
      intro a ha h
      by_cases e : a = ""
      · subst e
        rw [path_root]
        exact List.nodup_nil
      · obtain ⟨p, ep, hp, _⟩ := o.step r (ha.resolve_left e)
        rw [path_step o (ha.resolve_left e) ep]
        refine List.nodup_append.mpr ⟨ih p (hp.imp id And.left) (fun z => ?_), by simp, fun x hx y hy e => ?_⟩
        · have := (hp.resolve_left z).2
          have := h e
          omega
        · rw [List.mem_singleton.mp hy] at e
          subst e
          exact not_above o ep hx
  exact key (rk a + 1) a h fun _ => Nat.lt_succ_self _
def inP (ts : List (Str × Str)) (a x : Str) : Int := if a ∈ pathOf ts x then 1 else 0
/-! ### every user at one place -/
def usr (n : Nat) : List Int := (List.range n).map fun k : Nat => (k : Int)
def Val (ts : List (Str × Str)) (n : Nat) (L : Str → List Int) : Prop := ((pls ts).flatMap L).Perm (usr n)
/-- the place of a user -/
def plOf (ts : List (Str × Str)) (L : Str → List Int) (u : Int) : Str := ((pls ts).find? fun p => decide (u ∈ L p)).getD ""
/-! ### a user's way -/
inductive Rc (ts : List (Str × Str)) (c : Str → Int) (p : Str) : Str → Prop where
  | refl : Rc ts c p p
  | step {q x : Str} : Rc ts c p q → 0 < lv ts c q x → Rc ts c p x
end FT


/-! lists of pairs of a text and a value; dict(..) of them. -/
namespace FT
open PySem L2 TL ClX
/-- pairs (a, g a) at the addresses rs -/
def PrG (g : Str → V) (H : Hp) (rs : List Addr) (l : List Str) : Prop := Paired (fun (r : Addr) (a : Str) => H r = some (.tup [.str a, g a])) rs l
theorem PrG.imp {g : Str → V} {H H' : Hp} (m : ∀ r (a : Str), H r = some (.tup [.str a, g a]) → H' r = some (.tup [.str a, g a])) : ∀ {rs : List Addr} {l : List Str}, PrG g H rs l → PrG g H' rs l
  | _, _, .nil => .nil
  | _, _, .cons h t => .cons (m _ _ h) (PrG.imp m t)
theorem PrG.mono {g : Str → V} {H H' : Hp} {rs : List Addr} {l : List Str} (s : Same H H') (p : PrG g H rs l) : PrG g H' rs l := p.imp fun r a e => s _ _ e
theorem PrG.push {g : Str → V} {H : Hp} {rs : List Addr} {l : List Str} {D : Addr} {xs : List V} {o : HO} (e : H D = some (.lst xs)) (p : PrG g H rs l) : PrG g (upd H D o) rs l := p.imp fun r a q => by
  rw [upd_ne (ne_of q e (by intro z; cases z))]
  exact q
theorem PrG.snoc {g : Str → V} {H : Hp} {r : Addr} {a : Str} (h : H r = some (.tup [.str a, g a])) : ∀ {rs : List Addr} {l : List Str}, PrG g H rs l → PrG g H (rs ++ [r]) (l ++ [a])
  | _, _, .nil => .cons h .nil
  | _, _, .cons q t => .cons q (PrG.snoc h t)
theorem PrG.len {g : Str → V} {H : Hp} : ∀ {rs : List Addr} {l : List Str}, PrG g H rs l → rs.length = l.length
  | _, _, .nil => rfl
  | _, _, .cons _ t => congrArg (· + 1) (PrG.len t)
theorem PrG.at_ {g : Str → V} {H : Hp} {rs : List Addr} {l : List Str} (p : PrG g H rs l) {i : Nat} {r : Addr} (h : rs[i]? = some r) : ∃ a, l[i]? = some a ∧ H r = some (.tup [.str a, g a]) := LiI.paired_get p h
/-- as dict(..) asks it -/
theorem PrG.kvs {K : PySem.W.Frag} {g : Str → V} {H : Hp} : ∀ {rs : List Addr} {l : List Str}, PrG g H rs l → Paired (fun (p : Addr) (kv : Key × V) => SqT K H p [kV kv.1, kv.2]) rs (kvT (l.map fun a => (a, g a)))
  | _, _, .nil => .nil
  | _, _, .cons h t => .cons (.inl (.inl h)) (PrG.kvs t)
theorem merge_app : ∀ (more : List (Str × V)) (acc : List (Str × V)), ((acc ++ more).map Prod.fst).Nodup → mergeK (kvT acc) (kvT more) = kvT (acc ++ more)
  | [], acc, _ => by rw [List.append_nil] <;> rfl
  | p :: more, acc, nd => by
    have e : acc ++ p :: more = (acc ++ [p]) ++ more := by rw [List.append_assoc] <;> rfl
    have fresh : p.1 ∉ acc.map Prod.fst := fun h => by
      rw [List.map_append] at nd
      obtain ⟨_, _, d⟩ := List.nodup_append.mp nd
      exact d _ h _ (List.mem_cons_self ..) rfl
    show mergeK (putK (kvT acc) (Sum.inr p.1) p.2) (kvT more) = _
    rw [kvT_put fresh, e]
    rw [e] at nd
    exact merge_app more _ nd
theorem merge_nd {l : List (Str × V)} (nd : (l.map Prod.fst).Nodup) : mergeK [] (kvT l) = kvT l := merge_app l [] nd
theorem map_fst (l : List Str) (g : Str → V) : (l.map fun a => (a, g a)).map Prod.fst = l := by rw [List.map_map]; exact List.map_id _
theorem put_old {t : List (Str × Str)} {f z z' : Str} (n : f ∉ t.map Prod.fst) : putK (prs (t ++ [(f, z)])) (Sum.inr f) (V.str z') = prs (t ++ [(f, z')]) := by
  have key : ∀ t : List (Str × Str), f ∉ t.map Prod.fst → ((t.map fun p => (p.1, V.str p.2)).map fun p => if p.1 = f then (p.1, V.str z') else p) = t.map fun p => (p.1, V.str p.2) := by
    intro t
    induction t with
    | nil => intro _; rfl
    | cons p t ih =>
      intro n
      rw [List.map_cons, List.mem_cons] at n
      rw [List.map_cons, List.map_cons, ih fun h => n (.inr h), if_neg (fun e => n (.inl e.symm))]
  unfold prs
  rw [kvT_putT]
  unfold putT
  rw [prs_fst, if_pos (by rw [List.map_append]; exact List.mem_append_right _ (List.mem_cons_self ..)), List.map_append, List.map_append, List.map_append, key t n]
  congr 2
  show [if f = f then (f, V.str z') else (f, V.str z)] = [(f, V.str z')]
  rw [if_pos rfl]
/-- the place of an item -/
theorem idx_at {l : List Str} {i : Nat} {a : Str} (nd : l.Nodup) (h : l[i]? = some a) : l.idxOf a = i := by
  have m : a ∈ l := List.mem_of_getElem? h
  have lt := List.idxOf_lt_length_of_mem m
  have e : l[l.idxOf a]? = some a := by rw [List.getElem?_eq_getElem lt, List.getElem_idxOf lt]
  exact (List.getElem?_inj lt nd).mp (e.trans h.symm)
/-- a tree from the order of its making -/
theorem tree_of {t : List (Str × Str)} (h1 : 1 ≤ t.length) (h2 : t.length ≤ 12) (nd : (t.map Prod.fst).Nodup) (nm : ∀ z ∈ t.map Prod.fst, NameL z) (up : ∀ (i : Nat) (p : Str × Str), t[i]? = some p → p.2 = "" ∨ p.2 ∈ (t.map Prod.fst).take i) : TreeOk t := by
  refine ⟨h1, h2, nd, nm, fun a => (t.map Prod.fst).idxOf a, fun p hp => ?_⟩
  obtain ⟨i, hi⟩ := List.mem_iff_getElem?.mp hp
  have il := (List.getElem?_eq_some_iff.mp hi).1
  have hk : (t.map Prod.fst)[i]? = some p.1 := by rw [List.getElem?_map, hi] <;> rfl
  refine ⟨by show (t.map Prod.fst).idxOf p.1 < _; rw [idx_at nd hk]; exact il, (up i p hi).imp id fun m => ⟨List.mem_of_mem_take m, ?_⟩⟩
  show (t.map Prod.fst).idxOf p.2 < (t.map Prod.fst).idxOf p.1
  rw [idx_at nd hk]
  obtain ⟨j, hj⟩ := List.mem_iff_getElem?.mp m
  have jl := (List.getElem?_eq_some_iff.mp hj).1
  rw [List.length_take] at jl
  rw [List.getElem?_take, if_pos (by omega)] at hj
  rw [idx_at nd hj]
  omega
end FT


/-! dicts from texts to any values; lists by place in the heap. -/
namespace FT
open PySem L2 TL ClX
def tblV (l : List Str) (g : Str → V) : List (Key × V) := kvT (l.map fun a => (a, g a))
theorem tblV_val {l : List Str} {g : Str → V} {a : Str} (h : a ∈ l) : valV (tblV l g) (Sum.inr a) = some (g a) := by
  unfold tblV
  rw [kvT_val]
  induction l with
  | nil => cases h
  | cons b l ih =>
    rw [List.map_cons, look_cons]
    by_cases e : b = a
    · subst e
      exact if_pos rfl
    · rw [if_neg e]
      exact ih ((List.mem_cons.mp h).resolve_left fun z => e z.symm)
/-- lists by place: the dict at q, the list of p at r p -/
def LsAt (H : Hp) (q : Addr) (l : List Str) (r : Str → Addr) (L : Str → List Int) : Prop := H q = some (.dK (tblV l fun p => .ref (r p))) ∧ ∀ p ∈ l, H (r p) = some (.lst ((L p).map V.int))
theorem LsAt.mono {H H' : Hp} {q : Addr} {l : List Str} {r : Str → Addr} {L : Str → List Int} (s : Same H H') (h : LsAt H q l r L) : LsAt H' q l r L := ⟨s _ _ h.1, fun p hp => s _ _ (h.2 p hp)⟩
theorem LsAt.congr {H : Hp} {q : Addr} {l : List Str} {r : Str → Addr} {L L' : Str → List Int} (h : LsAt H q l r L) (e : ∀ p ∈ l, L p = L' p) : LsAt H q l r L' := ⟨h.1, fun p hp => by rw [h.2 p hp, e p hp]⟩
theorem LsAt.get {H : Hp} {q : Addr} {l : List Str} {r : Str → Addr} {L : Str → List Int} (h : LsAt H q l r L) {p : Str} (hp : p ∈ l) : DGet H q (.str p) (some (.ref (r p))) := by
  have z := DGet.k (k := Sum.inr p) h.1
  rw [tblV_val hp] at z
  exact z
end FT


/-! sums -/
namespace FT
open PySem
theorem pair_lenZ {α β : Type} {F : α → β → Prop} : ∀ {xs : List α} {ys : List β}, Paired F xs ys → xs.length = ys.length
  | _, _, .nil => rfl
  | _, _, .cons _ t => congrArg (· + 1) (pair_lenZ t)
theorem filter_more {c : Str → Bool} {l : List Str} {i : Nat} {a : Str} (h : l[i]? = some a) : (l.take (i + 1)).filter c = (l.take i).filter c ++ if c a = true then [a] else [] := by
  rw [take_more h, List.filter_append, List.filter_cons, List.filter_nil]
end FT


/-! a parent read from a forest's dict -/
namespace FT
open PySem L2 TL ClX
theorem Rd.same {H H' : Hp} {a : Addr} {u : HO} (s : Same H H') (h : Rd H a u) : Rd H' a u := h.imp (fun e => s _ _ e) fun ⟨o, e⟩ => ⟨o, s _ _ e⟩
theorem dget_prs {H : Hp} {q : Addr} {ts : List (Str × Str)} {a p : Str} (h : Rd H q (.dK (prs ts))) (e : par ts a = some p) : DGet H q (.str a) (some (.str p)) := .inl ⟨prs ts, Sum.inr a, h, rfl, by rw [val_prs, e] <;> rfl⟩
end FT


/-! path_in, need_place, Forest.under, edges_at -/
namespace FT
open PySem L2 TL ClX
def spPathIn : Sp := fun vs H Q _ => ∃ (q : Addr) (ts : List (Str × Str)) (a : Str), vs = [.ref q, .str a] ∧ Rd H q (.dK (prs ts)) ∧ TreeOk ts ∧ Pl ts a ∧ ∀ p H', Same H H' → H p = none → H' p = some (.tup ((pathOf ts a).map V.str)) → Q (.ref p) H'
def spNeedPl (CF : Addr) : Sp := fun vs H Q _ => ∃ (x : Addr) (ts : List (Str × Str)) (a : Str), vs = [.ref x, .str a] ∧ FAt CF H x ts ∧ TreeOk ts ∧ Pl ts a ∧ Q .non H
def spEdgesAt (CF : Addr) : Sp := fun vs H Q _ => ∃ (x : Addr) (ts : List (Str × Str)) (a : Str), vs = [.ref x, .str a] ∧ FAt CF H x ts ∧ TreeOk ts ∧ Pl ts a ∧ ∀ p H', Same H H' → H p = none → H' p = some (.lst ((adj ts a).map V.str)) → Q (.ref p) H'
def pathLen (ts : List (Str × Str)) (σ : St) : Nat := match σ[1]? with
  | some (some (V.str a)) => (pathOf ts a).length
  | _ => 0
section
variable {P : Program} {w : World} {K : PySem.W.Frag} {mg : Str → Option Value} {base : Heap}
abbrev NPi : List Str := ["above", "place", "path"]
theorem scPi : FnScope NPi ["above", "place"] (defScope s_path_in) := ⟨rfl, rfl, rfl, by decide +kernel, rfl, by decide +kernel, by decide +kernel⟩
theorem ok_pathIn {f : Addr} {fd : FuncData} (F : Fun K "path_in" "path_in" s_path_in f fd) (T : Nm mg) : FnOk P w K mg base CX0 1 f fd ["above", "place"] spPathIn := by
  refine F.ok scPi (fun vs H Q E h => ?_) (fun cdv A outer s H vs Q E hr h => ?_)
  · obtain ⟨q, ts, a, rfl, _⟩ := h
    rfl
  · obtain ⟨q, ts, a0, rfl, hq, o, pl0, k⟩ := h
    have hu := hu_of hr
    have nd := scPi.nd
    have big : 1000 ≤ sizeLine := by decide
    have few := o.few
    refine ⟨_, pss_cons (ps_set (i := 2) nd rfl (.inl rfl) (pe_lst pa_nil))
      (pss_cons (ps_while PassesOwn.never (pt_cmpR op_ne (pv 1) pe_str (nomark _))
        (pss_cons (ps_expr (pe_bm PySem.F.plainAttrs_list PySem.F.slot_list_append PySem.F.type_list_append mt_append (pv 2) (pa_cons (pv 1) pa_nil)))
        (pss_one (ps_set (i := 1) nd rfl (.inl rfl) (pe_dget hu (pv 0) (pv 1) (fun _ _ => rfl))))))
      (pss_one (ps_ret (pe_tupleOf (by rfl) T.tup (pe_revL (pv 2)))))), ?_⟩
    refine ⟨by show 0 ≤ sizeLine; omega, fun l nl => ?_⟩
    refine while_by (fun σ H' => ∃ (a : Str) (ws : List Str), σ = [some (.ref q), some (.str a), some (.ref l)] ∧ H' l = some (.lst (ws.map V.str)) ∧ Same H H' ∧ Pl ts a ∧ pathOf ts a0 = pathOf ts a ++ ws.reverse) (fun σ _ => pathLen ts σ)
      ⟨a0, [], rfl, upd_same, same_new nl, pl0, by rw [List.reverse_nil, List.append_nil]⟩ ?_ ?_
    · rintro σ Hx ⟨a, ws, rfl, hl, sm, pl, ep⟩
      have len := congrArg List.length ep
      have le := path_len ts a0
      rw [List.length_append, List.length_reverse] at len
      refine ⟨_, rfl, rfl, _, rfl, ?_⟩
      by_cases e : a = ""
      · rw [decide_eq_true (show V.str a = V.str "" by rw [e])]
        refine iteF ?_
        rw [e, path_root, List.nil_append] at ep
        refine ⟨_, rfl, l, _, rfl, SqL.of hl, fun p1 n1 => .inl ⟨p1, _, rfl, SqL.of upd_same, fun p2 n2 => ?_⟩⟩
        refine k p2 _ ((sm.trans (same_new n1)).trans (same_new n2)) ((sm.trans (same_new n1)).free n2) ?_
        rw [upd_same, ep, List.map_reverse]
      · rw [decide_eq_false (show ¬ V.str a = V.str "" from fun z => e (V.str.inj z))]
        show if true = true then _ else _
        rw [if_pos rfl]
        have fl := pl.resolve_left e
        obtain ⟨pa, hp⟩ := par_some o.nd fl
        have st := path_step o fl hp
        refine ⟨_, rfl, .inl ⟨rfl, _, SqL.of hl⟩, _, rfl, l, _, _, rfl, rfl, hl, by rw [List.length_map]; omega, ?_⟩
        refine ⟨_, rfl, _, rfl, q, V.str pa, rfl, dget_prs ?_ hp, ?_⟩
        · have ql : q ≠ l := by
            intro z
            rcases hq with hq | ⟨oo, hq⟩ <;> (rw [z, nl] at hq; cases hq)
          have hq' := Rd.same sm hq
          rcases hq' with h | ⟨oo, h⟩
          · exact .inl (by rw [upd_ne ql]; exact h)
          · exact .inr ⟨oo, by rw [upd_ne ql]; exact h⟩
        · refine ⟨⟨pa, ws ++ [a], rfl, by rw [upd_same, List.map_append] <;> rfl, sm.put nl, par_pl o hp, ?_⟩, ?_⟩
          · rw [ep, st, List.reverse_append, List.append_assoc] <;> rfl
          · show (pathOf ts pa).length < (pathOf ts a).length
            rw [st, List.length_append]
            exact Nat.lt_succ_self _
    · exact fun σ H Q Q' hm ⟨v, e, e2, b, eb, z⟩ => ⟨v, e, e2, b, eb, hm _ _ z⟩
abbrev NNp : List Str := ["forest", "place"]
end
end FT


/-! t[::-1] of a tuple -/
namespace L2
open PySem PySem.Spec PyProof.Rows HT
theorem adjust_rev (n : Nat) : Builtin.Slice.sliceAdjust none none (-1) (n : Int) = ((n : Int) - 1, -1) := by
  unfold Builtin.Slice.sliceAdjust
  first | rfl | simp
theorem places_rev (n : Nat) : Builtin.Slice.slicePlaces ((n : Int) - 1) (-1) (-1) = n := by
  unfold Builtin.Slice.slicePlaces
  have h1 : ¬ ((-1 : Int) > 0) := by decide
  simp only [h1, if_false]
  split
  · rw [show (- -1 : Int) = 1 by decide, Int.ediv_one]
    omega
  · omega
theorem pick_rev (xs : Array Value) : ((List.range xs.size).filterMap fun (m : Nat) => xs[(((xs.size : Int) - 1) + (m : Int) * (-1)).toNat]?).toArray = xs.toList.reverse.toArray := by
  have e : ((List.range xs.size).filterMap fun (m : Nat) => xs[(((xs.size : Int) - 1) + (m : Int) * (-1)).toNat]?) = ((List.range xs.size).map fun k => xs.size - 1 - k).filterMap (xs[·]?) := by
    rw [List.filterMap_map]
    refine congrArg (fun f => List.filterMap f (List.range xs.size)) ?_ |>.trans rfl
    funext m
    have : (((xs.size : Int) - 1) + (m : Int) * (-1)).toNat = xs.size - 1 - m := by omega
    rw [this] <;> rfl
  rw [e, PySem.W.krv_range, List.filterMap_reverse, PySem.W.krv_all]
section
variable {prog : Program} {w : World} {A : Around} {E : Value → Shared → Prop} {s : Shared}
theorem applied_rev {sl : Addr} {vs : Value} {n : Nat} {Q : Int × Int × Nat → Shared → Prop} (hs : s.heap.IsSliceOf sl .none .none vs) (ps : IsPart vs (some (-1))) (h : Q ((n : Int) - 1, -1, n) s) :
    wpAny (model prog w) A (Builtin.Slice.sliceApplied (.ref sl) (pure (n : Int))) Q E s := by
  obtain ⟨os, hos, hcs, hds⟩ := id hs
  unfold Builtin.Slice.sliceApplied Builtin.Slice.sliceFields
  refine wpAny_bind (wpAny_bind (wpAny_field hos hds (x := .none) rfl (wpAny_bind (wpAny_field hos hds (x := .none) rfl (wpAny_bind (wpAny_field hos hds (x := vs) rfl (wpAny_pure ?_)))))))
  refine wpAny_bind (slicePart_ ps ?_)
  show wpAny _ _ (if ((-1 : Int) == 0) = true then _ else _) _ _ s
  rw [if_neg (by decide)]
  refine wpAny_bind (slicePart_ .none (wpAny_bind (slicePart_ .none (wpAny_bind (wpAny_pure ?_)))))
  show wpAny _ _ (match Builtin.Slice.sliceAdjust none none (-1) (n : Int) with | (lo, hi) => pure (lo, (-1 : Int), Builtin.Slice.slicePlaces lo hi (-1))) _ _ s
  rw [adjust_rev n]
  show wpAny _ _ (pure ((n : Int) - 1, (-1 : Int), Builtin.Slice.slicePlaces ((n : Int) - 1) (-1) (-1))) _ _ s
  rw [places_rev]
  exact wpAny_pure h
theorem getItem_tuple_rev {t sl : Addr} {items : Array Value} {vs : Value} {Q : Value → Shared → Prop} (ht : IsTup s.heap t items) (hs : s.heap.IsSliceOf sl .none .none vs) (ps : IsPart vs (some (-1)))
    (h : Q (.ref s.heap.objs.size) { s with heap := s.heap.push { cls := .type "tuple", data := .seq items.toList.reverse.toArray } }) (hsz : items.size ≤ sizeLine) : wpAny (model prog w) A (getItem (.ref t) (.ref sl)) Q E s := by
  have htake : sizeOk (.seq items.toList.reverse.toArray) := by
    show items.toList.reverse.toArray.size ≤ sizeLine
    rw [List.size_toArray, List.length_reverse, Array.length_toList]
    exact hsz
  obtain ⟨os, hos, hcs, hds⟩ := id hs
  have hTs : s.TypeIs (.ref sl) "slice" := ⟨os, hos, hcs⟩
  unfold getItem
  try with_reducible refine wpAny_holding ?_
  first | refine wpAny_bind (wpAny_pure ?_) | skip
  refine wpAny_bind (wpAny_sequenceKey ht.typeIs (by decide) ?_)
  refine wpAny_bind (wpAny_callSpecial?_slot (name := Str.ofString "__getitem__") ht.typeIs PyProof.Rows.slot_tuple_getitem
    (wpAny_call_entry PyProof.Rows.slot_tuple_getitem ht.typeIs entry_tuple_getitem ?_ (args_tuple_getitem _ _)))
  show wpAny _ _ (Builtin.Tuple.tupleItemsOf (.ref t) >>= _) _ _ s
  refine wpAny_bind (tupleItemsOf_ ht ?_)
  refine wpAny_bind (wpAny_typeOf hTs ?_)
  rw [if_pos (by decide)]
  refine wpAny_bind (applied_rev hs ps ?_)
  have hno : ¬ ((((items.size : Int) - 1) == 0 && (-1 : Int) == 1 && items.size == items.size) = true) := by
    intro q
    rw [Bool.and_eq_true, Bool.and_eq_true] at q
    have q1 : (-1 : Int) = 1 := eq_of_beq q.1.2
    omega
  show wpAny _ _ (if (((items.size : Int) - 1) == 0 && (-1 : Int) == 1 && items.size == items.size) = true then _ else _) _ _ s
  rw [if_neg hno, pick_rev]
  first
    | exact wpAny_bind (m := Builtin.Tuple.tupleExact _) (wpAny_newObj_type (wpAny_pure ⟨_, rfl, wpAny_pure h⟩) htake)
    | exact wpAny_bind (m := Builtin.Tuple.tupleExact _) (wpAny_newObj_type (wpAny_bind (wpAny_pure (wpAny_pure ⟨_, rfl, wpAny_pure h⟩))) htake)
    | exact wpAny_bind (wpAny_bind (m := Builtin.Tuple.tupleExact _) (wpAny_newObj_type (wpAny_pure (wpAny_pure ⟨_, rfl, wpAny_pure h⟩)) htake))
    | exact wpAny_bind (wpAny_bind (m := Builtin.Tuple.tupleExact _) (wpAny_newObj_type (wpAny_pure ⟨_, rfl, wpAny_pure h⟩) htake))
end
section
variable {X : Cx}
def tRevT (K : PySem.W.Frag) (te : TE) : TE := fun σ H Q => te σ H fun x H1 => ∃ a xs, x = .ref a ∧ SqT K H1 a xs ∧ ∀ p, H1 p = none → Q (.ref p) (upd H1 p (.tup xs.reverse))
theorem pe_revT {e : Expr} {te : TE} {k : Nat} {p1 p2 p3 pos : Pos} (he : PE X e te) : PE X (.Subscript e (.Slice none none (some (.UnaryOp .USub (.Constant (.int 1) k p1) p2)) p3) pos) (tRevT X.K te) := by
  refine ⟨fun pins s σ H Q I h => ?_⟩
  refine Subscript_ (thn (he.run pins s σ H _ I h) fun v s1 ⟨x, H1, I1, r1, q1⟩ => ?_)
  obtain ⟨a, xs, ex, hx, q⟩ := q1
  subst ex
  cases r1
  have hst : PO X (some (.UnaryOp .USub (.Constant (.int 1) k p1) p2)) (tPart (tUn (rU fun i => .int (-i)) (tC (.int 1)))) := po_some (pe_un un_neg pe_int)
  refine wpAny_Slice (thn (po_none.run pins s1 σ H1 (fun o H2 => o = none ∧ H2 = H1) I1 ⟨rfl, rfl⟩) fun vl s2 ⟨l, H2, I2, pl, el, e2⟩ => ?_)
  subst el e2
  refine thn (po_none.run pins s2 σ H2 (fun o H3 => o = none ∧ H3 = H2) I2 ⟨rfl, rfl⟩) fun vu s3 ⟨u, H3, I3, pu, eu, e3⟩ => ?_
  subst eu e3
  refine thn (hst.run pins s3 σ H3 (fun o H4 => o = some (-1) ∧ H4 = H3) I3 ⟨1, rfl, -1, rfl, rfl, rfl⟩) fun vs s4 ⟨o, H4, I4, ps, eo, e4⟩ => ?_
  subst eo e4
  have I5 : Inv X pins σ H4 { s4 with heap := s4.heap.push { cls := .type "slice", data := .fields #[vl, vu, vs] } } := I4.kept (t' := s4.toks) fun b ob q => Heap.get?_push_of_some _ q
  obtain ⟨its, r, ht, hz⟩ := I5.tuple hx
  have hlen := r.length
  show wpAny (model X.prog X.w) X.A (subscriptTail e (.Slice none none (some (.UnaryOp .USub (.Constant (.int 1) k p1) p2)) p3) (.ref a) (.ref s4.heap.objs.size)) (EP X pins σ Q) X.xe { s4 with heap := s4.heap.push { cls := .type "slice", data := .fields #[vl, vu, vs] } }
  refine tail_any (ops := [.ref a, .ref s4.heap.objs.size]) ht.typeIs (PyProof.Rows.slot_tuple_getitem.lookup) ?_ (by with_unfolding_all rfl)
  cases pl
  cases pu
  refine getItem_tuple_rev ht (Heap.IsSliceOf.new _ _ _ vs) ps ?_ (by rw [List.size_toArray]; omega)
  refine ⟨.ref _, _, I5.laid (t' := s4.toks) (o := .tup xs.reverse) (fun b ob q => Heap.get?_push_of_some _ q) (Nat.le_refl _) ?_, rfl, q _ (I5.hok.fresh (Nat.le_refl _))⟩
  exact ⟨by rw [List.length_reverse]; exact hz, _, r.reverse, IsTup.new _ _⟩
end
end L2


/-! paired lists -/
namespace FT
open PySem L2 TL ClX LiI
theorem pair_impW {α β : Type} {F G : α → β → Prop} (m : ∀ x y, F x y → G x y) : ∀ {xs : List α} {ys : List β}, Paired F xs ys → Paired G xs ys
  | _, _, .nil => .nil
  | _, _, .cons h t => .cons (m _ _ h) (pair_impW m t)
theorem pair_appW {α β : Type} {F : α → β → Prop} : ∀ {xs xs' : List α} {ys ys' : List β}, Paired F xs ys → Paired F xs' ys' → Paired F (xs ++ xs') (ys ++ ys')
  | _, _, _, _, .nil, q => q
  | _, _, _, _, .cons h t, q => .cons h (pair_appW t q)
end FT


/-! user_changes: the toggles of one user -/
namespace FT
open PySem L2 TL ClX LiI
abbrev Tg := Int × Str × Bool
def RowT (H : Hp) (r : Addr) (z : Tg) : Prop := H r = some (.tup [.int z.1, .str z.2.1, .bl z.2.2])
theorem RowT.same {H H' : Hp} {rs : List Addr} {zs : List Tg} (s : Same H H') (h : Paired (RowT H) rs zs) : Paired (RowT H') rs zs := pair_impW (fun _ _ e => s _ _ e) h
def selT (u : Int) (b : Bool) (bs ks : List Str) : List Tg := (ks.filter fun a => decide (a ∉ bs)).map fun a => (u, a, b)
def userT (u : Int) (ps gs : List Str) : List Tg := selT u false gs ps.reverse ++ selT u true ps gs
def spUserCh : Sp := fun vs H Q _ => ∃ (u : Int) (p1 p2 : Addr) (ps gs : List Str), vs = [.int u, .ref p1, .ref p2] ∧ H p1 = some (.tup (ps.map V.str)) ∧ H p2 = some (.tup (gs.map V.str)) ∧ ps.length ≤ 100 ∧ gs.length ≤ 100 ∧
  ∀ (p : Addr) (rs : List Addr) (H' : Hp), Same H H' → H p = none → H' p = some (.lst (rs.map V.ref)) → Paired (RowT H') rs (userT u ps gs) → (∀ r ∈ rs, H r = none) → Q (.ref p) H'
theorem selT_len {u : Int} {b : Bool} {bs ks : List Str} : (selT u b bs ks).length ≤ ks.length := by
  unfold selT
  rw [List.length_map]
  exact List.length_filter_le _ _
theorem selT_more {u : Int} {b : Bool} {bs ks : List Str} {i : Nat} {a : Str} (h : ks[i]? = some a) : selT u b bs (ks.take (i + 1)) = selT u b bs (ks.take i) ++ if a ∉ bs then [(u, a, b)] else [] := by
  unfold selT
  rw [take_more h, List.filter_append, List.map_append, List.filter_cons, List.filter_nil]
  by_cases e : a ∉ bs
  · rw [if_pos e, decide_eq_true e, if_pos rfl] <;> rfl
  · rw [if_neg e, decide_eq_false e, if_neg (by decide)] <;> rfl
/-- what the comprehension has made so far -/
def SelAt (H0 : Hp) (D : Addr) (zs : List Tg) (H' : Hp) : Prop := Same H0 H' ∧ ∃ rs : List Addr, H' D = some (.lst (rs.map V.ref)) ∧ Paired (RowT H') rs zs ∧ ∀ r ∈ rs, H0 r = none
theorem SelAt.nil {H0 : Hp} {D : Addr} (n : H0 D = none) : SelAt H0 D [] (upd H0 D (.lst [])) := ⟨same_new n, [], upd_same, .nil, fun _ h => by cases h⟩
theorem SelAt.more {H0 H' : Hp} {D tp : Addr} {zs : List Tg} {z : Tg} (n : H0 D = none) (h : SelAt H0 D zs H') (nt : H' tp = none) (few : zs.length ≤ 1000) :
    ∃ acc, (upd H' tp (.tup [.int z.1, .str z.2.1, .bl z.2.2])) D = some (.lst acc) ∧ acc.length < sizeLine ∧ SelAt H0 D (zs ++ [z]) (upd (upd H' tp (.tup [.int z.1, .str z.2.1, .bl z.2.2])) D (.lst (acc ++ [.ref tp]))) := by
  have big : 2000 ≤ sizeLine := by decide
  obtain ⟨s, rs, hD, pr, fr⟩ := h
  have st := same_new (o := .tup [.int z.1, .str z.2.1, .bl z.2.2]) nt
  have lr := pair_lenZ pr
  have off : ∀ {r : Addr} {u : HO}, (∀ l, u ≠ .lst l) → H' r = some u → r ≠ D := fun nl e q => by
    rw [q, hD] at e
    exact nl _ (Option.some.inj e).symm
  refine ⟨rs.map V.ref, st _ _ hD, by rw [List.length_map]; omega, (s.trans st).put n, rs ++ [tp], by rw [upd_same, List.map_append] <;> rfl, pair_appW (pair_impW (fun r y e => ?_) pr) (.cons ?_ .nil), fun r hr => ?_⟩
  · show upd _ D _ r = _
    rw [upd_ne (off (fun _ z => by cases z) e)]
    exact st _ _ e
  · show upd _ D _ tp = _
    rw [upd_ne (ne_of_none hD nt).symm]
    exact upd_same
  · rcases List.mem_append.mp hr with h | h
    · exact fr r h
    · rw [List.mem_singleton.mp h]
      exact s.free nt
section
variable {P : Program} {w : World} {K : PySem.W.Frag} {mg : Str → Option Value} {base : Heap}
abbrev NUc : List Str := ["user", "path", "goal", "lost", "name"]
theorem scUc : FnScope NUc ["user", "path", "goal"] (defScope s_user_changes) := ⟨rfl, rfl, rfl, by decide +kernel, rfl, by decide +kernel, by decide +kernel⟩
theorem ok_userCh {f : Addr} {fd : FuncData} (F : Fun K "user_changes" "user_changes" s_user_changes f fd) : FnOk P w K mg base CX0 1 f fd ["user", "path", "goal"] spUserCh := by
  refine F.ok scUc (fun vs H Q E h => ?_) (fun cdv A outer s H vs Q E hr h => ?_)
  · obtain ⟨u, p1, p2, ps, gs, rfl, _⟩ := h
    rfl
  · obtain ⟨u, p1, p2, ps, gs, rfl, h1, h2, l1, l2, k⟩ := h
    have nd := scUc.nd
    have big : 2000 ≤ sizeLine := by decide
    refine ⟨_, pss_cons (ps_setLc (i := 3) (own := [("name", 4)]) (g := gName 4) (tt := tTest (tOp (rIn K true) (tVar 4) (tVar 2))) (te := tTup (tCons (tVar 0) (tCons (tVar 4) (tCons (tC (.bl false)) tNil)))) rfl nd rfl rfl (sw_true rfl rfl rfl (by decide +kernel)) (pi_tup (pe_revT (pv 1)))
          (blkOk_by (N := NUc) (sc := defScope s_user_changes) (by decide +kernel)) (fun _ _ _ _ _ => pg_name (i := 4) nd rfl (Or.inl rfl)) (fun _ _ _ _ _ => pts_one (pt_cmpR op_notIn_seq (pv 4) (pv 2) rfl)) (fun _ _ _ _ _ => pe_tup (pa_cons (pv 0) (pa_cons (pv 4) (pa_cons pe_bl pa_nil)))))
      (pss_one (ps_ret (pe_op op_cat (pv 3) (pe_lc (own := [("name", 4)]) (g := gName 4) (tt := tTest (tOp (rIn K true) (tVar 4) (tVar 1))) (te := tTup (tCons (tVar 0) (tCons (tVar 4) (tCons (tC (.bl true)) tNil)))) rfl nd (pi_tup (pv 2))
          (blkOk_by (N := NUc) (sc := defScope s_user_changes) (by decide +kernel)) (fun _ _ _ _ _ => pg_name (i := 4) nd rfl (Or.inl rfl)) (fun _ _ _ _ _ => pts_one (pt_cmpR op_notIn_seq (pv 4) (pv 1) rfl)) (fun _ _ _ _ _ => pe_tup (pa_cons (pv 0) (pa_cons (pv 4) (pa_cons pe_bl pa_nil)))))))), ?_⟩
    refine ⟨_, rfl, p1, _, rfl, .inl (.inl h1), fun pr npr => ⟨pr, rfl, ⟨_, .inl (.inl upd_same)⟩, fun D nD => ?_⟩⟩
    rw [← List.map_reverse] at nD ⊢
    have s0 := same_new (o := .tup (ps.reverse.map V.str)) npr
    obtain ⟨H0, e0⟩ : ∃ X, X = upd H pr (.tup (ps.reverse.map V.str)) := ⟨_, rfl⟩
    have hpr : H0 pr = some (.tup (ps.reverse.map V.str)) := by rw [e0]; exact upd_same
    rw [← e0] at s0 nD ⊢
    clear e0
    refine lc_it walk_tup (fun i H' => SelAt H0 D (selT u false gs (ps.reverse.take i)) H') (SelAt.nil nD) (fun i H' _ z => .inl (.inl (z.1 _ _ hpr))) ?_ ?_
    · intro i y Hz Ha hi q1 ⟨eb, ex⟩
      subst eb
      obtain ⟨a, ha, rfl⟩ := map_of ex
      refine ⟨rfl, ?_⟩
      refine ⟨_, rfl, _, rfl, p2, _, rfl, .inr (.inl (.inl (q1.1 _ _ (s0 _ _ h2)))), rfl, flat_strs _, _, rfl, ?_⟩
      rw [show (if true = true then !inV (V.str a) (gs.map V.str) else inV (V.str a) (gs.map V.str)) = decide (a ∉ gs) from (congrArg (!·) (inV_strs a _)).trans (by simp)]
      have more := selT_more (u := u) (b := false) (bs := gs) ha
      refine ite2 (fun yes => ?_) (fun no => ?_)
      · have yes : a ∉ gs := of_decide_eq_true yes
        rw [if_pos yes] at more
        refine ⟨_, rfl, _, rfl, by show 3 ≤ sizeLine; omega, fun tp ntp => ?_⟩
        rw [more]
        exact q1.more (z := (u, a, false)) nD ntp (by have := selT_len (u := u) (b := false) (bs := gs) (ks := ps.reverse.take i); rw [List.length_take, List.length_reverse] at this; omega)
      · have no : ¬ a ∉ gs := fun z => no (decide_eq_true z)
        rw [if_neg no, List.append_nil] at more
        rw [more]
        exact q1
    intro H1 q1
    rw [List.length_map, List.take_length] at q1
    obtain ⟨s1, rs, hD, pr1, fr1⟩ := q1
    refine ⟨_, rfl, _, rfl, p2, rfl, ⟨_, .inl (.inl (s1 _ _ (s0 _ _ h2)))⟩, fun D2 nD2 => ?_⟩
    refine lc_it walk_tup (fun i H' => SelAt H1 D2 (selT u true ps (gs.take i)) H') (SelAt.nil nD2) (fun i H' _ z => .inl (.inl (z.1 _ _ (s1 _ _ (s0 _ _ h2))))) ?_ ?_
    · intro i y Hz Ha hi q1 ⟨eb, ex⟩
      subst eb
      obtain ⟨a, ha, rfl⟩ := map_of ex
      refine ⟨rfl, ?_⟩
      refine ⟨_, rfl, _, rfl, p1, _, rfl, .inr (.inl (.inl (q1.1 _ _ (s1 _ _ (s0 _ _ h1))))), rfl, flat_strs _, _, rfl, ?_⟩
      rw [show (if true = true then !inV (V.str a) (ps.map V.str) else inV (V.str a) (ps.map V.str)) = decide (a ∉ ps) from (congrArg (!·) (inV_strs a _)).trans (by simp)]
      have more := selT_more (u := u) (b := true) (bs := ps) ha
      refine ite2 (fun yes => ?_) (fun no => ?_)
      · have yes : a ∉ ps := of_decide_eq_true yes
        rw [if_pos yes] at more
        refine ⟨_, rfl, _, rfl, by show 3 ≤ sizeLine; omega, fun tp ntp => ?_⟩
        rw [more]
        exact q1.more (z := (u, a, true)) nD2 ntp (by have := selT_len (u := u) (b := true) (bs := ps) (ks := gs.take i); rw [List.length_take] at this; omega)
      · have no : ¬ a ∉ ps := fun z => no (decide_eq_true z)
        rw [if_neg no, List.append_nil] at more
        rw [more]
        exact q1
    intro H2 q2
    rw [List.length_map, List.take_length] at q2
    obtain ⟨s2, rs2, hD2, pr2, fr2⟩ := q2
    have k1 := selT_len (u := u) (b := false) (bs := gs) (ks := ps.reverse)
    have k2 := selT_len (u := u) (b := true) (bs := ps) (ks := gs)
    rw [List.length_reverse] at k1
    have lr1 := pair_lenZ pr1
    have lr2 := pair_lenZ pr2
    refine ⟨D, D2, _, _, rfl, rfl, s2 _ _ hD, hD2, by rw [List.length_map, List.length_map]; omega, fun p np => ?_⟩
    have s3 := same_new (o := .lst (rs.map V.ref ++ rs2.map V.ref)) np
    have s02 := (s0.trans s1).trans s2
    exact k p (rs ++ rs2) _ (s02.trans s3) (s02.free np) (by rw [upd_same, List.map_append]) (pair_appW (RowT.same (s2.trans s3) pr1) (RowT.same s3 pr2)) fun r hr => (List.mem_append.mp hr).elim (fun h => s0.free (fr1 r h)) fun h => (s0.trans s1).free (fr2 r h)
end
end FT


/-! methods and properties, as a whole -/
namespace FT
open PySem L2 TL ClX
/-- a method of a class, as a whole -/
structure Mt (P : Program) (w : World) (K : PySem.W.Frag) (mg : Str → Option Value) (base : Heap) (CX : CXT) (k : Nat) (C : Addr) (m : Str) (ps : List Str) (sp : Sp) (f : Addr) (fd : FuncData) : Prop where
  mt : Meth K C m f
  fn : FnOk P w K mg base CX k f fd ps sp
  bn : Binds K fd ps []
/-- a property, at any level -/
structure PrN (P : Program) (w : World) (K : PySem.W.Frag) (mg : Str → Option Value) (base : Heap) (k : Nat) (C : Addr) (x : Str) (sp : Sp) (p g : Addr) (fd : FuncData) : Prop where
  pr : PropOf K C x p g
  fn : FnOk P w K mg base CX0 k g fd ["self"] sp
  bn : Binds K fd ["self"] []
end FT


/-! Assignment: made of valid places; its places -/
namespace FT
open PySem L2 TL ClX
/-- the class Assignment -/
structure Ac (K : PySem.W.Frag) (mg : Str → Option Value) (CA : Addr) (mc : Value) : Prop where
  gA : mg "Assignment" = some (.ref CA)
  rd : CRead K CA mc
  most : ∃ u, CVal K CA mc "MOST" (.int 60) u
  cl : Cls K CA
  nF : NoAttr K CA "own_forest"
  nP : NoAttr K CA "own_places"
/-- an assignment at y: its forest, its places -/
def AAt (CA : Addr) (H : Hp) (y x : Addr) (zs : List Str) : Prop := ∃ dy p, H y = some (.ins CA dy [("own_forest", .ref x), ("own_places", .ref p)]) ∧ H p = some (.lst (zs.map V.str))
theorem AAt.mono {CA y x : Addr} {H H' : Hp} {zs : List Str} (s : Same H H') (h : AAt CA H y x zs) : AAt CA H' y x zs := let ⟨dy, p, e1, e2⟩ := h; ⟨dy, p, s _ _ e1, s _ _ e2⟩
theorem put2a {u v : V} : putF "own_places" v [(("own_forest" : Str), u)] = [(("own_forest" : Str), u), (("own_places" : Str), v)] := by
  unfold putF
  rw [if_neg (by decide +kernel)] <;> rfl
def spAInit (CF CA : Addr) : Sp := fun vs H Q _ => ∃ (y x l dy : Addr) (ts : List (Str × Str)) (zs : List Str), vs = [.ref y, .ref x, .ref l] ∧ H y = some (.ins CA dy []) ∧ FAt CF H x ts ∧ TreeOk ts ∧ H l = some (.lst (zs.map V.str)) ∧ 1 ≤ zs.length ∧ zs.length ≤ 60 ∧ (∀ z ∈ zs, Pl ts z) ∧
  ∀ H', AAt CA H' y x zs → (∀ b o, b ≠ y → H b = some o → H' b = some o) → Q .non H'
def spAPlaces (CA : Addr) : Sp := fun vs H Q _ => ∃ (y x : Addr) (zs : List Str), vs = [.ref y] ∧ AAt CA H y x zs ∧ ∀ p, H p = none → Q (.ref p) (upd H p (.lst (zs.map V.str)))
section
variable {P : Program} {w : World} {K : PySem.W.Frag} {mg : Str → Option Value} {base : Heap}
theorem scAInit : FnScope ["self", "forest", "places", "user", "place"] ["self", "forest", "places"] (defScope s_Assignment___init__) := ⟨rfl, rfl, rfl, by decide +kernel, rfl, by decide +kernel, by decide +kernel⟩
theorem ok_ainit {f CF CA : Addr} {mc mcA : Value} {fd : FuncData} (F : Fun K "__init__" "Assignment.__init__" s_Assignment___init__ f fd) (T : Nm mg) (O : FoC K CF) (Z : Fc K mg CF mc) (B : Ac K mg CA mcA) : FnOk P w K mg base CX0 1 f fd ["self", "forest", "places"] (spAInit CF CA) := by
  obtain ⟨um, cm⟩ := B.most
  obtain ⟨ur, cr⟩ := Z.root
  refine F.ok scAInit (fun vs H Q E h => ?_) (fun cdv A outer s H vs Q E hr h => ?_)
  · obtain ⟨y, x, l, dy, ts, zs, rfl, _⟩ := h
    rfl
  · obtain ⟨y, x, l, dy, ts, zs, rfl, hy, fa, o, hl, one, few, mem, k⟩ := h
    have hu := hu_of hr
    refine ⟨_, pss_cons (ps_if (PW.pt (pw_or (pt_not (pt_val (pe_callB call_isiT (by rfl) T.isi (by decide +kernel) (pa_cons (pv 2) (pa_cons (pe_tup (pa_cons (pe_bltn (v := .ty "list") (u := .type "list") (by rfl) T.lst (by decide +kernel) rfl) (pa_cons (pe_bltn (v := .ty "tuple") (u := .type "tuple") (by rfl) T.tup (by decide +kernel) rfl) pa_nil))) pa_nil)))))
        (pw_or1 (pt_not (pt_chain op_le op_le pe_int (pe_callB call_len_seq (by rfl) T.len PySem.boot_len (pa_cons (pv 2) pa_nil)) (pe_cval (pe_glob (v := .ref CA) (by rfl) B.gA rfl))))))) pss_never pss_nil)
      (pss_cons (ps_for PassesOwn.never rfl (pi_enum rfl T.enu (pa_cons (pv 2) pa_nil)) (pg_tup rfl (pgs_cons (pg_name (i := 3) scAInit.nd rfl (.inl rfl)) (pgs_cons (pg_name (i := 4) scAInit.nd rfl (.inl rfl)) pgs_nil)))
        (pss_one (ps_if (PW.pt (pw_or (pt_not (pt_val (pe_callB call_isi (by rfl) T.isi (by decide +kernel) (pa_cons (pv 4) (pa_cons (pe_bltn (v := .ty "str") (u := .type "str") (by rfl) T.str (by decide +kernel) rfl) pa_nil)))))
          (pw_or1 (PW.pt (pw_and (pt_cmpR op_ne (pv 4) (pe_cval (pe_glob (v := .ref CF) (by rfl) Z.gF rfl)) (nomark _)) (pw_and1 (pt_cmp (pc_dnotin hu (pv 4) (pe_fld (pv 1) rfl))))))))) pss_never pss_nil)))
      (pss_cons (ps_fld (pv 0) (pv 1) rfl)
      (pss_one (ps_fld (pv 0) (pe_callTy call_list_of (by rfl) T.lst (by decide +kernel) (pa_cons (pv 2) pa_nil)) rfl)))), ?_⟩
    have big : 1000 ≤ sizeLine := by decide
    obtain ⟨dx, dq, hx, hd⟩ := fa
    refine ⟨_, rfl, by show 2 ≤ sizeLine; omega, fun tp ntp => ?_⟩
    have s1 := same_new (o := .tup [.ty "list", .ty "tuple"]) ntp
    refine ⟨.ref l, tp, [.ty "list", .ty "tuple"], _, [.type "list", .type "tuple"], true, rfl, upd_same, .cons (.ty _) (.cons (.ty _) .nil), .base (.lst (s1 _ _ hl)), kitAny_cons (b := true) (kit_ty (by decide +kernel)) (fun z => nomatch z) (fun _ => rfl), true, rfl, ?_⟩
    refine iteF ?_
    obtain ⟨H1, e1⟩ : ∃ X, X = upd H tp (.tup [.ty "list", .ty "tuple"]) := ⟨_, rfl⟩
    rw [← e1] at s1 ⊢
    have hl1 := s1 _ _ hl
    refine ⟨_, rfl, l, _, rfl, .inl (SqL.of hl1), _, _, rfl, rfl, _, rfl, ?_⟩
    have ll : (zs.map V.str).length = zs.length := List.length_map ..
    rw [if_pos (decide_eq_true (by omega))]
    refine ⟨CA, mcA, _, um, rfl, B.rd, cm, _, _, rfl, rfl, _, rfl, ?_⟩
    rw [decide_eq_true (show ((zs.map V.str).length : Int) ≤ 60 by omega)]
    refine iteF ?_
    refine ⟨_, rfl, l, _, rfl, SqL.of hl1, ?_⟩
    refine for_it walk_enum (fun j σ' H' => (∃ u3 u4, σ' = [some (.ref y), some (.ref x), some (.ref l), u3, u4]) ∧ Same H1 H') ⟨⟨_, _, rfl⟩, fun _ _ e => e⟩ (fun j σ' H' _ z => SqL.of (z.2 _ _ hl1)) ?_ ?_
    · intro j T' σ' Ha Hb hj ⟨⟨u3, u4, e⟩, sa⟩ ⟨Tp, i, z, eT, nT, eH, ey, ez⟩
      subst e
      subst eT
      subst eH
      cases ey
      obtain ⟨a, ha, rfl⟩ := map_of (show (zs.map V.str)[j]? = some z from ez)
      have ma := mem a (List.mem_of_getElem? ha)
      have sT := same_new (o := .tup [.int (j : Int), .str a]) nT
      have hx2 := sT _ _ (sa _ _ (s1 _ _ hx))
      have hd2 := sT _ _ (sa _ _ (s1 _ _ hd))
      refine ⟨Tp, _, rfl, .inl (.inl upd_same), rfl, ?_⟩
      refine ⟨_, _, rfl, _, _, rfl, rfl, ?_⟩
      refine ⟨_, rfl, .str a, _, _, _, true, rfl, .ty _, .base (.str a), kit_ty (by decide +kernel), true, rfl, ?_⟩
      refine iteF ?_
      refine ⟨_, rfl, CF, mc, _, ur, rfl, Z.rd, cr, rfl, _, rfl, ?_⟩
      by_cases e0 : a = ""
      · rw [decide_eq_true (show V.str a = V.str "" by rw [e0])]
        refine iteF ?_
        exact iteF ⟨⟨_, _, rfl⟩, sa.trans sT⟩
      · rw [decide_eq_false (show ¬ V.str a = V.str "" from fun z => e0 (V.str.inj z))]
        show if true = true then _ else _
        rw [if_pos rfl]
        obtain ⟨pa, hp⟩ := par_some o.nd (ma.resolve_left e0)
        refine ⟨_, rfl, _, rfl, x, CF, dx, _, .ref dq, rfl, hx2, O.cl, O.nA, rfl, dq, _, rfl, dget_prs (.inl hd2) hp, _, rfl, ?_⟩
        exact iteF ⟨⟨_, _, rfl⟩, sa.trans sT⟩
    · intro σ' H2 ⟨⟨u3, u4, e⟩, sa⟩
      subst e
      have s2 : Same H H2 := s1.trans sa
      have hy2 := s2 _ _ hy
      have hl2 := s2 _ _ hl
      have yl : l ≠ y := ne_of hl2 hy2 (by intro z; cases z)
      refine ⟨_, rfl, _, rfl, y, CA, dy, [], rfl, hy2, B.cl, B.nF, by show 0 < 1000; decide, ?_⟩
      refine ⟨_, rfl, l, _, rfl, .inl (SqL.of (by rw [upd_ne yl]; exact hl2)), fun p np => ?_⟩
      have yp : y ≠ p := ne_of_none upd_same np
      refine ⟨_, rfl, y, CA, dy, [("own_forest", .ref x)], rfl, by rw [upd_ne yp, upd_same] <;> rfl, B.cl, B.nP, by show 1 < 1000; decide, ?_⟩
      rw [put2a]
      refine k _ ⟨dy, p, upd_same, by rw [upd_ne yp.symm, upd_same]⟩ fun b o by_ e => ?_
      have np2 : H2 p = none := by
        rw [upd_ne yp.symm] at np
        exact np
      rw [upd_ne by_, upd_ne (ne_of_none (s2 _ _ e) np2), upd_ne by_]
      exact s2 _ _ e
theorem scAPlaces : FnScope ["self"] ["self"] (defScope s_Assignment_places) := ⟨rfl, rfl, rfl, by decide +kernel, rfl, by decide +kernel, by decide +kernel⟩
theorem ok_aplaces {f CA : Addr} {mcA : Value} {fd : FuncData} (F : Fun K "places" "Assignment.places" s_Assignment_places f fd) (T : Nm mg) (B : Ac K mg CA mcA) : FnOk P w K mg base CX0 1 f fd ["self"] (spAPlaces CA) := by
  refine F.ok scAPlaces (fun vs H Q E h => ?_) (fun cdv A outer s H vs Q E hr h => ?_)
  · obtain ⟨y, x, zs, rfl, _⟩ := h
    rfl
  · obtain ⟨y, x, zs, rfl, ⟨dy, p, hy, hp⟩, k⟩ := h
    refine ⟨_, pss_one (ps_ret (pe_callTy call_list_of (by rfl) T.lst (by decide +kernel) (pa_cons (pe_fld (pv 0) rfl) pa_nil))), ?_⟩
    exact ⟨_, rfl, y, CA, dy, _, .ref p, rfl, hy, B.cl, B.nP, rfl, p, _, rfl, .inl (SqL.of hp), fun q nq => k q nq⟩
end
end FT


/-! Assignment: forest, total, sizes, users_of, at -/
namespace FT
open PySem L2 TL ClX LiI
/-- the numbers below n with a mark -/
def selU (n : Nat) (c : Nat → Bool) : List Int := ((List.range n).filter c).map fun i : Nat => (i : Int)
def atC (zs : List Str) (p : Str) (i : Nat) : Bool := decide (zs[i]? = some p)
def hasC (ts : List (Str × Str)) (zs : List Str) (a : Str) (i : Nat) : Bool := match zs[i]? with
  | some z => decide (a ∈ pathOf ts z)
  | none => false
/-- the users at a place; those that have a flag; how many -/
def atU (zs : List Str) (p : Str) : List Int := selU zs.length (atC zs p)
def hasU (ts : List (Str × Str)) (zs : List Str) (a : Str) : List Int := selU zs.length (hasC ts zs a)
def szZ (ts : List (Str × Str)) (zs : List Str) (a : Str) : Int := ((zs.filter fun z => decide (a ∈ pathOf ts z)).length : Int)
def spAForest (CA : Addr) : Sp := fun vs H Q _ => ∃ (y x : Addr) (zs : List Str), vs = [.ref y] ∧ AAt CA H y x zs ∧ Q (.ref x) H
def spATotal (CA : Addr) : Sp := fun vs H Q _ => ∃ (y x : Addr) (zs : List Str), vs = [.ref y] ∧ AAt CA H y x zs ∧ Q (.int (zs.length : Int)) H
def spSizesOf (CF : Addr) : Sp := fun vs H Q _ => ∃ (x l : Addr) (ts : List (Str × Str)) (zs : List Str), vs = [.ref x, .ref l] ∧ FAt CF H x ts ∧ TreeOk ts ∧ H l = some (.lst (zs.map V.str)) ∧ (∀ z ∈ zs, Pl ts z) ∧
  ∀ (p : Addr) (H' : Hp), Same H H' → H p = none → H' p = some (.dK (tblI (ts.map Prod.fst) (szZ ts zs))) → Q (.ref p) H'
def spASizes (CF CA : Addr) : Sp := fun vs H Q _ => ∃ (y x : Addr) (ts : List (Str × Str)) (zs : List Str), vs = [.ref y] ∧ AAt CA H y x zs ∧ FAt CF H x ts ∧ TreeOk ts ∧ (∀ z ∈ zs, Pl ts z) ∧
  ∀ (p : Addr) (H' : Hp), Same H H' → H p = none → H' p = some (.dK (tblI (ts.map Prod.fst) (szZ ts zs))) → Q (.ref p) H'
def spAAt (CF CA : Addr) : Sp := fun vs H Q _ => ∃ (y x : Addr) (ts : List (Str × Str)) (zs : List Str) (a : Str), vs = [.ref y, .str a] ∧ AAt CA H y x zs ∧ FAt CF H x ts ∧ TreeOk ts ∧ zs.length ≤ 1000 ∧ Pl ts a ∧
  ∀ (p : Addr) (H' : Hp), Same H H' → H p = none → H' p = some (.lst ((atU zs a).map V.int)) → Q (.ref p) H'
def spAUsers (CF CA : Addr) : Sp := fun vs H Q _ => ∃ (y x : Addr) (ts : List (Str × Str)) (zs : List Str) (a : Str), vs = [.ref y, .str a] ∧ AAt CA H y x zs ∧ FAt CF H x ts ∧ TreeOk ts ∧ (∀ z ∈ zs, Pl ts z) ∧ zs.length ≤ 1000 ∧ a ∈ ts.map Prod.fst ∧
  ∀ (p : Addr) (H' : Hp), Same H H' → H p = none → H' p = some (.lst ((hasU ts zs a).map V.int)) → Q (.ref p) H'
def spNeedFl (CF : Addr) : Sp := fun vs H Q _ => ∃ (x : Addr) (ts : List (Str × Str)) (a : Str), vs = [.ref x, .str a] ∧ FAt CF H x ts ∧ TreeOk ts ∧ a ∈ ts.map Prod.fst ∧ Q .non H
section
variable {P : Program} {w : World} {K : PySem.W.Frag} {mg : Str → Option Value} {base : Heap}
theorem scAFo : FnScope ["self"] ["self"] (defScope s_Assignment_forest) := ⟨rfl, rfl, rfl, by decide +kernel, rfl, by decide +kernel, by decide +kernel⟩
theorem ok_aforest {f CA : Addr} {mcA : Value} {fd : FuncData} (F : Fun K "forest" "Assignment.forest" s_Assignment_forest f fd) (B : Ac K mg CA mcA) : FnOk P w K mg base CX0 1 f fd ["self"] (spAForest CA) := by
  refine F.ok scAFo (fun vs H Q E h => ?_) (fun cdv A outer s H vs Q E hr h => ?_)
  · obtain ⟨y, x, zs, rfl, _⟩ := h
    rfl
  · obtain ⟨y, x, zs, rfl, ⟨dy, p, hy, hp⟩, k⟩ := h
    exact ⟨_, pss_one (ps_ret (pe_fld (pv 0) rfl)), _, rfl, y, CA, dy, _, .ref x, rfl, hy, B.cl, B.nF, rfl, k⟩
theorem scATo : FnScope ["self"] ["self"] (defScope s_Assignment_total) := ⟨rfl, rfl, rfl, by decide +kernel, rfl, by decide +kernel, by decide +kernel⟩
theorem ok_atotal {f CA : Addr} {mcA : Value} {fd : FuncData} (F : Fun K "total" "Assignment.total" s_Assignment_total f fd) (T : Nm mg) (B : Ac K mg CA mcA) : FnOk P w K mg base CX0 1 f fd ["self"] (spATotal CA) := by
  refine F.ok scATo (fun vs H Q E h => ?_) (fun cdv A outer s H vs Q E hr h => ?_)
  · obtain ⟨y, x, zs, rfl, _⟩ := h
    rfl
  · obtain ⟨y, x, zs, rfl, ⟨dy, p, hy, hp⟩, k⟩ := h
    refine ⟨_, pss_one (ps_ret (pe_callB call_len_seq (by rfl) T.len PySem.boot_len (pa_cons (pe_fld (pv 0) rfl) pa_nil))), ?_⟩
    refine ⟨_, rfl, y, CA, dy, _, .ref p, rfl, hy, B.cl, B.nP, rfl, p, _, rfl, .inl (SqL.of hp), ?_⟩
    rw [List.length_map]
    exact k
abbrev NSo : List Str := ["forest", "places", "name", "found", "place"]
end
end FT


/-! own __eq__; Forest.__eq__; (need_match: FtEqM) -/
namespace FT
open PySem L2 TL ClX LiI
def strKey (e : DictEntry) : Bool := match e.key with
  | .str _ _ => true
  | _ => false
/-- a class of the text with its own __eq__ and no __ne__ -/
structure EqF (K : PySem.W.Frag) (C f : Addr) : Prop where
  at_ : ∃ nm q N bs sn sub ab col dd k0 k1 k2 k3 k5 newId, K.lookup C = some (excClassObj nm q C N bs [.type "object"] true sn sub ab col dd k0 k1 k2 k3 k5 newId) ∧
    ∃ (oc : Value) (od : Option Addr) (es : Array DictEntry) (ep : Nat) (sl : Array (Option Value)), K.lookup N = some ⟨oc, od, .dict es ep, sl⟩ ∧ es.toList.all strKey = true ∧ nsFind es "__eq__" = some (.ref f) ∧ nsFind es "__ne__" = none
  ty : ∃ o : Obj, K.lookup f = some o ∧ o.cls = .type "function"
theorem EqF.own {K : PySem.W.Frag} {C f : Addr} (e : EqF K C f) {h : Heap} (X : K.In h) {a : Addr} {o : Obj} (ho : h.get? a = some o) (hc : o.cls = .ref C) : h.OwnEqNoNe a C f "object" [.type "object"] := by
  obtain ⟨nm, q, N, bs, sn, sub, ab, col, dd, k0, k1, k2, k3, k5, newId, hC, oc, od, es, ep, sl, hN, hk, h1, h2⟩ := e.at_
  obtain ⟨of, hf, tf⟩ := e.ty
  have keys : StrKeys es := fun x hx => by
    have := List.all_eq_true.mp hk x (Array.mem_toList_iff.mpr hx)
    unfold strKey at this
    cases ek : x.key with
    | str n t => exact ⟨n, t, rfl⟩
    | _ => rw [ek] at this; cases this
  exact ⟨o, of, nm, q, N, bs, true, sn, sub, ab, col, dd, k0, k1, k2, k3, k5, newId, nsFind es, _, ho, hc, X _ _ hC, ⟨_, es, ep, X _ _ hN, rfl, keys, fun _ => rfl⟩, h1, X _ _ hf, tf, PySem.F.cmp_object.mro, PySem.F.cmp_object.eq.lookup, h2⟩
/-- x != y, two instances that are equal by their own __eq__ -/
def rNeG (D : Eqv) : R2 := fun x y H Q => D x y H ∧ ∀ H', Ext H H' → Q (.bl false) H'
/-- what isinstance asks of an own class -/
structure IsF (K : PySem.W.Frag) (C : Addr) : Prop where
  ha : PySem.W.findIn K (.ref C) "__class__" = some (some (.builtin "object.__class__"))
  hn : PySem.W.specialIn K (.builtin "object.__class__") "__get__" = some (some (.builtin "getset_descriptor.__get__"))
  ht : PySem.W.takesIn K (.builtin "object.__class__") = some true
  hm : PySem.W.mroIn K C (.type "object") = some true
theorem kit_self {K : PySem.W.Frag} {C : Addr} : PySem.W.kitOne K (.ref C) (.ref C) = some true := if_pos (beq_self_eq_true _)
def RFo (CF : Addr) : Addr → Addr → Hp → Prop := fun a b H => ∃ ts, FAt CF H a ts ∧ FAt CF H b ts ∧ TreeOk ts
theorem prs_all {ts : List (Str × Str)} (nd : (ts.map Prod.fst).Nodup) : ∀ p ∈ prs ts, valV (prs ts) p.1 = some p.2 ∧ flatB p.2 = true := fun p hp => by
  unfold prs kvT at hp
  rw [List.map_map] at hp
  obtain ⟨⟨a, r⟩, hm, rfl⟩ := List.mem_map.mp hp
  refine ⟨?_, rfl⟩
  show valV (prs ts) (Sum.inr a) = some (V.str r)
  rw [val_prs, par_of nd hm] <;> rfl
section
variable {P : Program} {w : World} {K : PySem.W.Frag} {mg : Str → Option Value} {base : Heap}
theorem scFEq : FnScope ["self", "other"] ["self", "other"] (defScope s_Forest___eq__) := ⟨rfl, rfl, rfl, by decide +kernel, rfl, by decide +kernel, by decide +kernel⟩
end
end FT


/-! two dicts of flat values compared, equal or not -/
namespace L2
open PySem PySem.Spec PyProof.Rows
def rowEq (ls : List (Key × V)) (p : Key × V) : Bool := match valV ls p.1 with
  | some u => eqV p.2 u
  | none => false
def eqDK (ks ls : List (Key × V)) : Bool := ks.length == ls.length && ks.all (rowEq ls)
theorem valV_mem {ls : List (Key × V)} {k : Key} {u : V} (h : valV ls k = some u) : ∃ p ∈ ls, p.2 = u := by
  induction ls with
  | nil => cases h
  | cons p ls ih =>
    by_cases e : p.1 = k
    · rw [valV_pos e] at h
      exact ⟨p, List.mem_cons_self .., Option.some.inj h⟩
    · rw [valV_neg e] at h
      obtain ⟨q, hq, eq⟩ := ih h
      exact ⟨q, List.mem_cons_of_mem _ hq, eq⟩
theorem hits_any {A : Around} {s : Shared} {ls : List (Key × V)} {vb : List (Key × Value)} (rb : KV ls vb) (fl : ∀ p ∈ ls, flatV p.2 = true) {ks : List (Key × V)} {va : List (Key × Value)} (ra : KV ks va) : (∀ p ∈ ks, flatV p.2 = true) → PySem.W.KeqHits A s vb va (ks.all (rowEq ls)) := by
  unfold KV at ra
  induction ra with
  | nil => intro _; exact .nil
  | @cons p q ps qs h t ih =>
    intro fk
    obtain ⟨h1, h2⟩ := h
    have ih := ih fun p' hm => fk p' (List.mem_cons_of_mem _ hm)
    obtain ⟨k, v⟩ := q
    have h1' : p.1 = k := h1
    have rr := rb.val p.1
    rw [List.all_cons]
    cases e : valV ls p.1 with
    | none =>
      rw [e] at rr
      have z := rr.none_of
      rw [h1'] at z
      rw [show rowEq ls p = false by unfold rowEq; rw [e]]
      exact .miss z
    | some u =>
      rw [e] at rr
      obtain ⟨y, hy, ry⟩ := rr.some_of
      rw [h1'] at hy
      obtain ⟨p', hp', e'⟩ := valV_mem e
      have fu : flatV u = true := by rw [← e']; exact fl p' hp'
      rw [show rowEq ls p = eqV p.2 u by unfold rowEq; rw [e]]
      exact .hit hy (eqAt_V h2 ry (fk p (List.mem_cons_self ..)) fu) ih
section
variable {X : Cx}
def rEqDC : R2 := fun x y H Q => ∃ a b ks ls, x = .ref a ∧ y = .ref b ∧ H a = some (.dK ks) ∧ H b = some (.dK ls) ∧ (∀ p ∈ ks, flatV p.2 = true) ∧ (∀ p ∈ ls, flatV p.2 = true) ∧ Q (.bl (eqDK ks ls)) H
def rNeDC : R2 := fun x y H Q => ∃ a b ks ls, x = .ref a ∧ y = .ref b ∧ H a = some (.dK ks) ∧ H b = some (.dK ls) ∧ (∀ p ∈ ks, flatV p.2 = true) ∧ (∀ p ∈ ls, flatV p.2 = true) ∧ Q (.bl (!eqDK ks ls)) H
theorem op_eq_dictC (hu : X.A.units < cLine) : OpR X (compareOp .Eq) rEqDC := by
  intro pins s σ H x y v u Q I rx ry h
  obtain ⟨a, b, ks, ls, rfl, rfl, ea, eb, fk, fl, q⟩ := h
  obtain rfl : v = Value.ref a := rx
  obtain rfl : u = Value.ref b := ry
  obtain ⟨_, ya, va, ra, da⟩ := (show ObjOk X.prog X.w H s.heap a (.dK ks) from I.hok a _ ea)
  obtain ⟨_, yb, vb, rb, db⟩ := (show ObjOk X.prog X.w H s.heap b (.dK ls) from I.hok b _ eb)
  have e : eqDK ks ls = (va.length == vb.length && ks.all (rowEq ls)) := by unfold eqDK; rw [ra.length, rb.length]
  exact PySem.W.keq_eq (knd := mixKind X.prog X.w) (r := ks.all (rowEq ls)) ya yb da db hu (fun _ => hits_any rb fl ra fk) (fin_bl I q e)
theorem op_ne_dictC (hu : X.A.units < cLine) : OpR X (compareOp .NotEq) rNeDC := by
  intro pins s σ H x y v u Q I rx ry h
  obtain ⟨a, b, ks, ls, rfl, rfl, ea, eb, fk, fl, q⟩ := h
  obtain rfl : v = Value.ref a := rx
  obtain rfl : u = Value.ref b := ry
  obtain ⟨_, ya, va, ra, da⟩ := (show ObjOk X.prog X.w H s.heap a (.dK ks) from I.hok a _ ea)
  obtain ⟨_, yb, vb, rb, db⟩ := (show ObjOk X.prog X.w H s.heap b (.dK ls) from I.hok b _ eb)
  have e : (!eqDK ks ls) = !(va.length == vb.length && ks.all (rowEq ls)) := by unfold eqDK; rw [ra.length, rb.length]
  exact PySem.W.keq_ne (knd := mixKind X.prog X.w) (r := ks.all (rowEq ls)) ya yb da db hu (fun _ => hits_any rb fl ra fk) (fin_bl I q e)
end
end L2


/-! own __eq__ with either answer; Forest.__eq__ -/
namespace FT
open PySem L2 TL ClX LiI
/-- what an own == promises, equal or not -/
def spEqB (R : Addr → Addr → Bool → Hp → Prop) : Sp := fun vs H Q _ => ∃ a b v, vs = [.ref a, .ref b] ∧ R a b v H ∧ ∀ H', Ext H H' → Q (.bl v) H'
def rNeB (C : Addr) (R : Addr → Addr → Bool → Hp → Prop) : R2 := fun x y H Q => ∃ a b dx dy fs gs v, x = .ref a ∧ y = .ref b ∧ H a = some (.ins C dx fs) ∧ H b = some (.ins C dy gs) ∧ R a b v H ∧ ∀ H', Ext H H' → Q (.bl (!v)) H'
theorem op_neB {X : Cx} {CX : CXT} {C f : Addr} {fd : FuncData} {ps : List Str} {R : Addr → Addr → Bool → Hp → Prop} {E : XK} {n : Nat} (F : FnOk X.prog X.w X.K X.mg X.base CX n f fd ps (spEqB R)) (ef : EqF X.K C f) (hb : Binds X.K fd ps []) (hx : Passes CX X E) (hr : Room (n + 1) X.A) (hu : X.A.units + 1 < cLine) :
    OpR X (compareOp .NotEq) (rNeB C R) := by
  intro pins s σ H x y v u Q I rx ry hq
  obtain ⟨a, b, dx, dy, fs, gs, v0, rfl, rfl, ha, hb', rel, q⟩ := hq
  cases rx
  cases ry
  obtain ⟨mA, J, _⟩ := ins_get I.hok ha
  obtain ⟨mB, J', _⟩ := ins_get I.hok hb'
  obtain ⟨od, J, _⟩ := J.look
  obtain ⟨od', J', _⟩ := J'.look
  obtain ⟨j1, j2, _⟩ := J
  obtain ⟨j3, j4, _⟩ := J'
  have want : spEqB R [.ref a, .ref b] H (fun v H' => v = .bl v0 ∧ Ext H H') E := ⟨a, b, v0, rfl, rel, fun H' e => ⟨rfl, e⟩⟩
  have len := F.len _ _ _ _ want
  have rv : Vals [V.ref a, V.ref b] [Value.ref a, Value.ref b] := .cons rfl (.cons rfl .nil)
  have bind : BindsTo s fd ⟨[.ref a, .ref b], []⟩ (ps.zip [.ref a, .ref b]) := by
    have z := hb s [.ref a, .ref b] I.kIn (by simpa using len)
    simpa using z
  have run : wpAny (model X.prog X.w) X.A.in1 (call (.ref f) [.ref a, .ref b]) (fun v s' => ∃ b, v = .bool b ∧ EP X pins σ Q (.bool (!b)) s') X.xe s := by
    refine wpAny_call (codeAny_mono (F.run X.A.in1 X.stack s H ⟨[.ref a, .ref b], []⟩ [.ref a, .ref b] [.ref a, .ref b] _ E hr.in1 I.env0.in1 bind rv want) fun r s' z => ?_)
    match r, z with
    | .error er, z => exact hx pins σ H s er s' I z
    | .ok (.ret u), z =>
      obtain ⟨t, H', I', rz, ez, ex⟩ := I.after z
      subst ez
      cases rz
      exact ⟨v0, rfl, .bl (!v0), H', I', rfl, q H' ex⟩
    | .ok .next, z => exact z.elim
    | .ok .brk, z => exact z.elim
    | .ok .cont, z => exact z.elim
  have own := ef.own I.kIn j1 j2
  obtain ⟨hp, gn, dr, tk, os⟩ := s
  exact compareOp_ne_ownEq PySem.F.cmp_object own j3 j4 hu run
def RFoB (CF : Addr) : Addr → Addr → Bool → Hp → Prop := fun a b v H => ∃ ts us, FAt CF H a ts ∧ FAt CF H b us ∧ v = eqDK (prs ts) (prs us)
theorem prs_flat (ts : List (Str × Str)) : ∀ p ∈ prs ts, flatV p.2 = true := fun p hp => by
  unfold prs kvT at hp
  rw [List.map_map] at hp
  obtain ⟨q, _, rfl⟩ := List.mem_map.mp hp
  rfl
section
variable {P : Program} {w : World} {K : PySem.W.Frag} {mg : Str → Option Value} {base : Heap}
theorem ok_feqB {f CF : Addr} {mc : Value} {fd : FuncData} (F : Fun K "__eq__" "Forest.__eq__" s_Forest___eq__ f fd) (T : Nm mg) (O : FoC K CF) (Z : Fc K mg CF mc) (S : IsF K CF) : FnOk P w K mg base CX0 1 f fd ["self", "other"] (spEqB (RFoB CF)) := by
  refine F.ok scFEq (fun vs H Q E h => ?_) (fun cdv A outer s H vs Q E hr h => ?_)
  · obtain ⟨a, b, v, rfl, _⟩ := h
    rfl
  · obtain ⟨a, b, v, rfl, ⟨ts, us, ⟨da, qa, ha, hda⟩, ⟨db, qb, hb, hdb⟩, rfl⟩, k⟩ := h
    have hu := hu_of hr
    refine ⟨_, pss_one (ps_ret (pe_and (pe_callB call_isi (by rfl) T.isi (by decide +kernel) (pa_cons (pv 1) (pa_cons (pe_glob (v := .ref CF) (by rfl) Z.gF rfl) pa_nil))) (pe_one (pe_cmpR (op_eq_dictC (Nat.lt_of_succ_lt hu)) (pe_fld (pv 0) rfl) (pe_fld (pv 1) rfl) (nomark _))))), ?_⟩
    refine ⟨_, rfl, .ref b, _, .ref CF, _, true, rfl, .own _, .base (.ins hb O.cl S.ha S.hn S.ht S.hm), kit_self, true, rfl, ?_⟩
    show if true = true then _ else _
    rw [if_pos rfl]
    exact ⟨_, rfl, a, CF, da, _, .ref qa, rfl, ha, O.cl, O.nA, rfl, _, rfl, b, CF, db, _, .ref qb, rfl, hb, O.cl, O.nA, rfl, qa, qb, _, _, rfl, rfl, hda, hdb, prs_flat _, prs_flat _, k _ fun _ _ e => e⟩
end
end FT


/-! need_match -/
namespace FT
open PySem L2 TL ClX LiI
def spMatch (CF CA : Addr) : Sp := fun vs H Q _ => ∃ (y1 y2 x : Addr) (ts : List (Str × Str)) (zs1 zs2 : List Str), vs = [.ref y1, .ref y2] ∧ AAt CA H y1 x zs1 ∧ AAt CA H y2 x zs2 ∧ FAt CF H x ts ∧ TreeOk ts ∧ zs1.length = zs2.length ∧ ∀ H', Same H H' → Q .non H'
section
variable {P : Program} {w : World} {K : PySem.W.Frag} {mg : Str → Option Value} {base : Heap}
theorem scMa : FnScope ["one", "other"] ["one", "other"] (defScope s_need_match) := ⟨rfl, rfl, rfl, by decide +kernel, rfl, by decide +kernel, by decide +kernel⟩
end
end FT


/-! need_match with its error -/
namespace FT
open PySem L2 TL ClX LiI
/-- the same parents, as many users -/
def matB (ts us : List (Str × Str)) (zs1 zs2 : List Str) : Bool := eqDK (prs ts) (prs us) && decide (zs1.length = zs2.length)
def spMatchE (CF CA CM : Addr) : Sp := fun vs H Q E => ∃ (y1 y2 x1 x2 : Addr) (ts us : List (Str × Str)) (zs1 zs2 : List Str), vs = [.ref y1, .ref y2] ∧ AAt CA H y1 x1 zs1 ∧ AAt CA H y2 x2 zs2 ∧ FAt CF H x1 ts ∧ FAt CF H x2 us ∧
  if matB ts us zs1 zs2 = true then ∀ H', Same H H' → Q .non H' else Out H E (.e0 CM)
section
variable {P : Program} {w : World} {K : PySem.W.Frag} {mg : Str → Option Value} {base : Heap}
theorem ok_matchE {f fE CF CA CM IM pF gF pT gT : Addr} {mcA : Value} {fd fdE fdM fd1 fd2 : FuncData} (F : Fun K "need_match" "need_match" s_need_match f fd) (B : Ac K mg CA mcA) (PF : PrN P w K mg base 1 CA "forest" (spAForest CA) pF gF fd1) (PT : PrN P w K mg base 1 CA "total" (spATotal CA) pT gT fd2)
    (EQ : FnOk P w K mg base CX0 1 fE fdE ["self", "other"] (spEqB (RFoB CF))) (ef : EqF K CF fE) (bE : Binds K fdE ["self", "other"] []) (U : Er0 P w K mg base "Mismatch" CM IM fdM) : FnOk P w K mg base (L2.CX P w) 3 f fd ["one", "other"] (spMatchE CF CA CM) := by
  refine F.okX scMa (fun vs H Q E h => ?_) (fun cdv A outer s H vs Q E hr h => ?_)
  · obtain ⟨y1, y2, x1, x2, ts, us, zs1, zs2, rfl, _⟩ := h
    rfl
  · obtain ⟨y1, y2, x1, x2, ts, us, zs1, zs2, rfl, h1, h2, fa, fb, k⟩ := h
    have hu := hu_of hr
    refine ⟨_, pss_one (ps_if (PW.pt (pw_or (pt_cmpR (op_neB (E := E0) EQ ef bE pass0 hr hu) (pe_prop (pv 0) B.cl PF.pr PF.fn hr PF.bn .nil pass0 (by rfl)) (pe_prop (pv 1) B.cl PF.pr PF.fn hr PF.bn .nil pass0 (by rfl)) (nomark _))
        (pw_or1 (pt_cmpR op_ne (pe_prop (pv 0) B.cl PT.pr PT.fn hr PT.bn .nil pass0 (by rfl)) (pe_prop (pv 1) B.cl PT.pr PT.fn hr PT.bn .nil pass0 (by rfl)) (nomark _))))) (pss_one (ps_err0 U rfl (takes_of rfl rfl rfl rfl) hr rfl)) pss_nil), ?_⟩
    obtain ⟨d1, p1, a1, b1⟩ := id h1
    obtain ⟨d2, p2, a2, b2⟩ := id h2
    obtain ⟨dx, dq, hx, hd⟩ := id fa
    obtain ⟨dz, dr, hz, he⟩ := id fb
    refine ⟨_, rfl, y1, d1, _, rfl, a1, y1, x1, zs1, rfl, h1, _, rfl, y2, d2, _, rfl, a2, y2, x2, zs2, rfl, h2, x1, x2, dx, dz, _, _, eqDK (prs ts) (prs us), rfl, rfl, hx, hz, ⟨ts, us, fa, fb, rfl⟩, fun H' s' => ⟨_, rfl, ?_⟩⟩
    have r' : Same H H' := fun b u e => s' b u e
    unfold matB at k
    cases e : eqDK (prs ts) (prs us) with
    | false =>
      rw [e, Bool.false_and, if_neg (by decide)] at k
      exact iteT (iteT (out0 k r'))
    | true =>
      rw [e] at k
      refine iteF ?_
      refine ⟨_, rfl, y1, d1, _, rfl, r' _ _ a1, y1, x1, zs1, rfl, h1.mono r', _, rfl, y2, d2, _, rfl, r' _ _ a2, y2, x2, zs2, rfl, h2.mono r', rfl, _, rfl, ?_⟩
      by_cases el : zs1.length = zs2.length
      · rw [if_pos (by rw [decide_eq_true el] <;> rfl)] at k
        rw [decide_eq_true (show V.int (zs1.length : Int) = V.int (zs2.length : Int) by rw [el])]
        exact iteF (k H' r')
      · rw [if_neg (by rw [decide_eq_false el]; decide)] at k
        rw [decide_eq_false (show ¬ V.int (zs1.length : Int) = V.int (zs2.length : Int) from fun z => el (by have := V.int.inj z; omega))]
        exact iteT (out0 k r')
end
theorem eqDK_self {ts : List (Str × Str)} (nd : (ts.map Prod.fst).Nodup) : eqDK (prs ts) (prs ts) = true := by
  unfold eqDK
  rw [Bool.and_eq_true]
  refine ⟨by simp, List.all_eq_true.mpr fun p hp => ?_⟩
  obtain ⟨e, f⟩ := prs_all nd p hp
  unfold rowEq
  rw [e]
  unfold prs kvT at hp
  rw [List.map_map] at hp
  obtain ⟨q, _, rfl⟩ := List.mem_map.mp hp
  show (eqV (V.str q.2) (V.str q.2)) = true
  simp [eqV]
theorem matB_self {ts : List (Str × Str)} {zs1 zs2 : List Str} (o : TreeOk ts) (el : zs1.length = zs2.length) : matB ts ts zs1 zs2 = true := by
  unfold matB
  rw [eqDK_self o.nd, decide_eq_true el] <;> rfl
end FT


/-! what runs while generators sleep leaves them as they are -/
namespace Slp
open PySem
open Sem (wp)
def deadK : Resume → Sem PySem.Fin := fun _ => .unsupported "asleep"
def dead : GenState → GenState
  | .suspended _ l c p fs cl => .suspended deadK l c p fs cl
  | x => x
def sw (T : Nat → Option GenState) (G : Array GenState) : Array GenState := G.mapIdx fun i x => (T i).getD x
def swS (T : Nat → Option GenState) (s : Shared) : Shared := { s with gens := sw T s.gens }
structure Iv (T : Nat → Option GenState) (G : Array GenState) : Prop where
  fro : ∀ i x, T i = some x → (∃ k l c p fs cl, x = .suspended k l c p fs cl) ∧ G[i]? = some (dead x)
  pla : ∀ i k l c p fs cl, T i = none → G[i]? = some (.suspended k l c p fs cl) → splitAtGen fs = none
theorem sw_size (T : Nat → Option GenState) (G : Array GenState) : (sw T G).size = G.size := by
  unfold sw
  rw [Array.size_mapIdx]
theorem sw_get (T : Nat → Option GenState) (G : Array GenState) (i : Nat) : (sw T G)[i]? = G[i]?.map fun x => (T i).getD x := by
  unfold sw
  rw [Array.getElem?_mapIdx]
section
variable {T : Nat → Option GenState} {G : Array GenState}
theorem sw_push {x : GenState} (h : T G.size = none) : sw T (G.push x) = (sw T G).push x := by
  refine Array.ext_getElem? fun i => ?_
  rw [sw_get, Array.getElem?_push, Array.getElem?_push, sw_size, sw_get]
  by_cases e : i = G.size
  · subst e
    rw [if_pos rfl, if_pos rfl, Option.map_some, h] <;> rfl
  · rw [if_neg e, if_neg e]
theorem sw_set {i : Nat} {x : GenState} (h : T i = none) : sw T (G.setIfInBounds i x) = (sw T G).setIfInBounds i x := by
  refine Array.ext_getElem? fun j => ?_
  rw [sw_get, Array.getElem?_setIfInBounds, Array.getElem?_setIfInBounds, sw_size, sw_get]
  by_cases e : i = j
  · subst e
    by_cases l : i < G.size
    · rw [if_pos rfl, if_pos rfl, if_pos l, Option.map_some, h] <;> rfl
    · rw [if_pos rfl, if_pos rfl, if_neg l] <;> rfl
  · rw [if_neg e, if_neg e]
theorem Iv.noT (v : Iv T G) : T G.size = none := by
  cases e : T G.size with
  | none => rfl
  | some x =>
    have := (v.fro _ x e).2
    rw [Array.getElem?_eq_none (Nat.le_refl _)] at this
    cases this
theorem Iv.free (v : Iv T G) {i : Nat} {y : GenState} (h : G[i]? = some y) (n : ∀ k l c p fs cl, y ≠ .suspended k l c p fs cl) : T i = none := by
  cases e : T i with
  | none => rfl
  | some x =>
    obtain ⟨⟨k, l, c, p, fs, cl, rfl⟩, q⟩ := v.fro _ x e
    rw [h] at q
    exact absurd (Option.some.inj q) (n _ _ _ _ _ _)
theorem Iv.push (v : Iv T G) {x : GenState} (n : ∀ k l c p fs cl, x = .suspended k l c p fs cl → splitAtGen fs = none) : Iv T (G.push x) := by
  refine ⟨fun i y e => ?_, fun i k l c p fs cl e h => ?_⟩
  · obtain ⟨a, b⟩ := v.fro i y e
    have li := (Array.getElem?_eq_some_iff.mp b).1
    refine ⟨a, ?_⟩
    rw [Array.getElem?_push, if_neg (by omega)]
    exact b
  · rw [Array.getElem?_push] at h
    by_cases q : i = G.size
    · rw [if_pos q] at h
      exact n k l c p fs cl (Option.some.inj h)
    · rw [if_neg q] at h
      exact v.pla i k l c p fs cl e h
theorem Iv.set (v : Iv T G) {j : Nat} {x : GenState} (hj : T j = none) (n : ∀ k l c p fs cl, x = .suspended k l c p fs cl → splitAtGen fs = none) : Iv T (G.setIfInBounds j x) := by
  refine ⟨fun i y e => ?_, fun i k l c p fs cl e h => ?_⟩
  · obtain ⟨a, b⟩ := v.fro i y e
    refine ⟨a, ?_⟩
    rw [Array.getElem?_setIfInBounds, if_neg fun w => by rw [w, e] at hj; cases hj]
    exact b
  · rw [Array.getElem?_setIfInBounds] at h
    by_cases q : j = i
    · rw [if_pos q] at h
      by_cases w : j < G.size
      · rw [if_pos w] at h
        exact n k l c p fs cl (Option.some.inj h)
      · rw [if_neg w] at h
        cases h
    · rw [if_neg q] at h
      exact v.pla i k l c p fs cl e h
theorem sw_at (v : Iv T G) {i : Nat} {y : GenState} (h : G[i]? = some y) : ∃ y', (sw T G)[i]? = some y' ∧ y'.seen = y.seen := by
  cases e : T i with
  | none => exact ⟨y, by rw [sw_get, h, e] <;> rfl, rfl⟩
  | some x =>
    obtain ⟨⟨k, l, c, p, fs, cl, rfl⟩, q⟩ := v.fro i x e
    rw [h] at q
    cases q
    exact ⟨.suspended k l c p fs cl, by rw [sw_get, h, e] <;> rfl, rfl⟩
theorem sw_free {i : Nat} {y : GenState} (h : G[i]? = some y) (e : T i = none) : (sw T G)[i]? = some y := by
  rw [sw_get, h, e] <;> rfl
end
theorem plain_cons {F : Frame} {fs : List Frame} (h : splitAtGen (F :: fs) = none) : splitAtGen fs = none ∧ ∀ g k l c p, F ≠ .gen g k l c p := by
  cases F with
  | ret k hd gd l c p kp =>
    refine ⟨?_, fun _ _ _ _ _ e => by cases e⟩
    have h : (splitAtGen fs).map _ = none := h
    exact Option.map_eq_none_iff.mp h
  | gen g k l c p => cases h
theorem plain_app : ∀ {a b : List Frame}, splitAtGen a = none → splitAtGen b = none → splitAtGen (a ++ b) = none
  | [], _, _, h => h
  | F :: a, b, ha, hb => by
    obtain ⟨h1, h2⟩ := plain_cons ha
    cases F with
    | ret k hd gd l c p kp =>
      show (splitAtGen (a ++ b)).map _ = none
      rw [plain_app h1 hb] <;> rfl
    | gen g k l c p => exact absurd rfl (h2 g k l c p)
theorem runs_dead {M : Model} {Γ : Ctx} {p : Pos} {t : Sem PySem.Fin} {fs : List Frame} {s s' : Shared} {e : End} (h : Runs M Γ p t fs s e s') : ∀ w, t ≠ .unsupported w := by
  induction h <;> intro w q <;> first | (cases q; done) | (rename_i ih _; exact ih w q) | (rename_i ih; exact ih w q) | skip
  all_goals first | (cases q) | (simp_all)
def plainEnd : End → Prop
  | .susp _ _ _ _ _ _ fs => splitAtGen fs = none
  | .ret _ => True
theorem end_gen {e : End} (h : plainEnd e) : ∀ k l c p fs cl, e.genState = .suspended k l c p fs cl → splitAtGen fs = none := by
  intro k l c p fs cl q
  cases e with
  | ret r => cases q
  | susp v g l0 k0 c0 p0 fs0 =>
    cases q
    exact h
theorem swS_set {T : Nat → Option GenState} {s : Shared} {g : Nat} {x : GenState} (h : T g = none) : swS T (s.setGen g x) = (swS T s).setGen g x := by
  unfold swS Shared.setGen
  rw [sw_set h]
theorem no_susp {x : GenState} (h : ∀ k l c p fs cl, x ≠ .suspended k l c p fs cl) : ∀ k l c p fs cl, x = .suspended k l c p fs cl → splitAtGen fs = none := fun k l c p fs cl e => absurd e (h k l c p fs cl)
theorem swS_new {T : Nat → Option GenState} {s : Shared} {c : Code} (v : Iv T s.gens) : swS T { s with gens := s.gens.push (.fresh c) } = { swS T s with gens := (swS T s).gens.push (.fresh c) } := by
  unfold swS
  rw [sw_push v.noT]
theorem swS_size {T : Nat → Option GenState} {s : Shared} : (swS T s).gens.size = s.gens.size := sw_size T s.gens
theorem runs_swap {M : Model} {T : Nat → Option GenState} {Γ : Ctx} {p : Pos} {t : Sem PySem.Fin} {fs : List Frame} {s s' : Shared} {e : End} (h : Runs M Γ p t fs s e s') : splitAtGen fs = none → Iv T s.gens → Iv T s'.gens ∧ plainEnd e ∧ Runs M Γ p t fs (swS T s) e (swS T s') := by
  induction h with
  | done => exact fun _ v => ⟨v, trivial, .done⟩
  | raise => exact fun _ v => ⟨v, trivial, .raise⟩
  | again q _ ih => exact fun hf v => let ⟨a, b, c⟩ := ih hf v; ⟨a, b, .again q c⟩
  | rule _ ih => exact fun hf v => let ⟨a, b, c⟩ := ih hf v; ⟨a, b, .rule c⟩
  | «at» _ ih => exact fun hf v => let ⟨a, b, c⟩ := ih hf v; ⟨a, b, .at c⟩
  | load q _ ih => exact fun hf v => let ⟨a, b, c⟩ := ih hf v; ⟨a, b, .load q c⟩
  | update q _ ih => exact fun hf v => let ⟨a, b, c⟩ := ih hf v; ⟨a, b, .update q c⟩
  | loadIfAlive _ ih => exact fun hf v => let ⟨a, b, c⟩ := ih hf v; ⟨a, b, .loadIfAlive c⟩
  | point _ ih => exact fun hf v => let ⟨a, b, c⟩ := ih hf v; ⟨a, b, .point c⟩
  | alloc _ ih => exact fun hf v => let ⟨a, b, c⟩ := ih hf v; ⟨a, b, .alloc c⟩
  | fresh _ ih => exact fun hf v => let ⟨a, b, c⟩ := ih hf v; ⟨a, b, .fresh c⟩
  | ask _ ih => exact fun hf v => let ⟨a, b, c⟩ := ih hf v; ⟨a, b, .ask c⟩
  | choose q _ ih => exact fun hf v => let ⟨a, b, c⟩ := ih hf v; ⟨a, b, .choose q c⟩
  | os _ ih => exact fun hf v => let ⟨a, b, c⟩ := ih hf v; ⟨a, b, .os c⟩
  | handled _ ih => exact fun hf v => let ⟨a, b, c⟩ := ih hf v; ⟨a, b, .handled c⟩
  | genState q _ ih =>
    intro hf v
    obtain ⟨a, b, c⟩ := ih hf v
    obtain ⟨y, hy, sy⟩ := sw_at v q
    exact ⟨a, b, .genState hy (by rw [sy]; exact c)⟩
  | stack _ ih => exact fun hf v => let ⟨a, b, c⟩ := ih hf v; ⟨a, b, .stack c⟩
  | thread _ ih => exact fun hf v => let ⟨a, b, c⟩ := ih hf v; ⟨a, b, .thread c⟩
  | newGen _ ih =>
    intro hf v
    obtain ⟨a, b, d⟩ := ih hf (v.push (x := .fresh _) (no_susp fun _ _ _ _ _ _ q => by cases q))
    refine ⟨a, b, .newGen ?_⟩
    rw [swS_new v] at d
    rw [swS_size]
    exact d
  | call _ _ ih1 ih2 =>
    intro hf v
    obtain ⟨a1, _, c1⟩ := ih1 rfl v
    obtain ⟨a2, b2, c2⟩ := ih2 hf a1
    exact ⟨a2, b2, .call c1 c2⟩
  | callSusp _ ih =>
    intro hf v
    obtain ⟨a, b, c⟩ := ih rfl v
    exact ⟨a, plain_app b rfl, .callSusp c⟩
  | yield => exact fun hf v => ⟨v, rfl, .yield⟩
  | resumeFresh q _ qt _ ih1 ih2 =>
    intro hf v
    have n := v.free q fun _ _ _ _ _ _ w => by cases w
    obtain ⟨a1, b1, c1⟩ := ih1 rfl (v.set n (no_susp fun _ _ _ _ _ _ w => by cases w))
    obtain ⟨a2, b2, c2⟩ := ih2 hf (a1.set n (end_gen b1))
    rw [swS_set n] at c1 c2
    exact ⟨a2, b2, .resumeFresh (sw_free q n) c1 qt c2⟩
  | @resumeSuspended Γ p g r l k s k0 l0 c0 p0 fs0 cl e1 s1 e s' q r1 qt r2 ih1 ih2 =>
    intro hf v
    cases et : T g with
    | some x =>
      obtain ⟨⟨k1, l1, c1, p1, fs1, cl1, rfl⟩, w⟩ := v.fro g x et
      rw [q] at w
      cases w
      exact absurd rfl (runs_dead r1 "asleep")
    | none =>
      obtain ⟨a1, b1, c1⟩ := ih1 (v.pla g _ _ _ _ _ _ et q) (v.set et (no_susp fun _ _ _ _ _ _ w => by cases w))
      obtain ⟨a2, b2, c2⟩ := ih2 hf (a1.set et (end_gen b1))
      rw [swS_set et] at c1 c2
      exact ⟨a2, b2, .resumeSuspended (sw_free q et) c1 qt c2⟩
  | resumeJustStarted q nv _ ih =>
    intro hf v
    obtain ⟨a, b, c⟩ := ih hf v
    exact ⟨a, b, .resumeJustStarted (sw_free q (v.free q fun _ _ _ _ _ _ w => by cases w)) nv c⟩
  | resumeThrowFresh q _ ih =>
    intro hf v
    have n := v.free q fun _ _ _ _ _ _ w => by cases w
    obtain ⟨a, b, c⟩ := ih hf (v.set n (no_susp fun _ _ _ _ _ _ w => by cases w))
    rw [swS_set n] at c
    exact ⟨a, b, .resumeThrowFresh (sw_free q n) c⟩
  | resumeRunning q _ ih =>
    intro hf v
    obtain ⟨a, b, c⟩ := ih hf v
    exact ⟨a, b, .resumeRunning (sw_free q (v.free q fun _ _ _ _ _ _ w => by cases w)) c⟩
  | resumeFinished q _ ih =>
    intro hf v
    obtain ⟨a, b, c⟩ := ih hf v
    exact ⟨a, b, .resumeFinished (sw_free q (v.free q fun _ _ _ _ _ _ w => by cases w)) c⟩
  | segRet _ _ ih1 ih2 =>
    intro hf v
    obtain ⟨a1, _, c1⟩ := ih1 rfl v
    obtain ⟨a2, b2, c2⟩ := ih2 (plain_cons hf).1 a1
    exact ⟨a2, b2, .segRet c1 c2⟩
  | segGen => exact fun hf => by cases hf
  | segSuspOut q _ ih =>
    intro hf v
    obtain ⟨a, b, c⟩ := ih rfl v
    exact ⟨a, plain_app b q, .segSuspOut q c⟩
  | segSuspGen q => exact fun hf => by rw [q] at hf; cases hf
theorem wakes_swap {M : Model} {T : Nat → Option GenState} {Γ : Ctx} {p : Pos} {g : Nat} {r : Resume} {s s' : Shared} {res : GenResult} (h : Wakes M Γ p g r s res s') (v : Iv T s.gens) : Iv T s'.gens ∧ Wakes M Γ p g r (swS T s) res (swS T s') := by
  unfold Wakes at h
  cases q : s.gens[g]? with
  | none =>
    rw [q] at h
    exact h.elim
  | some x =>
    rw [q] at h
    cases x with
    | fresh c =>
      have n := v.free q fun _ _ _ _ _ _ w => by cases w
      have qs : (swS T s).gens[g]? = some (.fresh c) := sw_free q n
      cases r with
      | send u =>
        cases u with
        | none =>
          obtain ⟨e1, s1, hr, qt, rfl, rfl⟩ := h
          obtain ⟨a, b, d⟩ := runs_swap hr rfl (v.set n (no_susp fun _ _ _ _ _ _ w => by cases w))
          rw [swS_set n] at d
          refine ⟨a.set n (end_gen b), ?_⟩
          unfold Wakes
          rw [qs]
          exact ⟨e1, _, d, qt, rfl, swS_set n⟩
        | _ =>
          obtain ⟨rfl, rfl⟩ := h
          refine ⟨v, ?_⟩
          unfold Wakes
          rw [qs]
          exact ⟨rfl, rfl⟩
      | throw x =>
        obtain ⟨rfl, rfl⟩ := h
        refine ⟨v.set n (no_susp fun _ _ _ _ _ _ w => by cases w), ?_⟩
        unfold Wakes
        rw [qs]
        exact ⟨rfl, swS_set n⟩
    | suspended k0 l0 c0 p0 fs0 cl =>
      obtain ⟨e1, s1, hr, qt, rfl, rfl⟩ := h
      cases et : T g with
      | some x =>
        obtain ⟨⟨k1, l1, c1, p1, fs1, cl1, rfl⟩, w⟩ := v.fro g x et
        rw [q] at w
        cases w
        exact absurd rfl (runs_dead hr "asleep")
      | none =>
        obtain ⟨a, b, d⟩ := runs_swap hr (v.pla g _ _ _ _ _ _ et q) (v.set et (no_susp fun _ _ _ _ _ _ w => by cases w))
        rw [swS_set et] at d
        refine ⟨a.set et (end_gen b), ?_⟩
        unfold Wakes
        rw [show (swS T s).gens[g]? = some (.suspended k0 l0 c0 p0 fs0 cl) from sw_free q et]
        exact ⟨e1, _, d, qt, rfl, swS_set et⟩
    | running =>
      obtain ⟨rfl, rfl⟩ := h
      refine ⟨v, ?_⟩
      unfold Wakes
      rw [show (swS T _).gens[g]? = some .running from sw_free q (v.free q fun _ _ _ _ _ _ w => by cases w)]
      exact ⟨rfl, rfl⟩
    | finished =>
      obtain ⟨rfl, rfl⟩ := h
      refine ⟨v, ?_⟩
      unfold Wakes
      rw [show (swS T _).gens[g]? = some .finished from sw_free q (v.free q fun _ _ _ _ _ _ w => by cases w)]
      exact ⟨rfl, rfl⟩
theorem wp_swap {α : Type} (M : Model) (T : Nat → Option GenState) (Γ : Ctx) (t : Sem α) : ∀ (Q : α → Pos → Shared → Prop) (E : Value → Pos → Shared → Prop) (p : Pos) (s : Shared), Iv T s.gens → wp M Γ t Q E p s →
    wp M Γ t (fun a p' s' => ∃ sh, Iv T sh.gens ∧ s' = swS T sh ∧ Q a p' sh) (fun e p' s' => ∃ sh, Iv T sh.gens ∧ s' = swS T sh ∧ E e p' sh) p (swS T s) := by
  induction t with
  | pure a => intro Q E p s v h; exact ⟨s, v, rfl, h⟩
  | raise e => intro Q E p s v h; exact ⟨s, v, rfl, h⟩
  | unsupported _ => intro Q E p s _ h; exact h
  | finish _ => intro Q E p s _ h; exact h
  | rule _ k ih => intro Q E p s v h; exact ih () Q E p s v h
  | «at» p' k ih => intro Q E p s v h; exact ih () Q E p' s v h
  | load a _ k ih => intro Q E p s v h; obtain ⟨o, ho, h⟩ := h; exact ⟨o, ho, ih o Q E p s v h⟩
  | update a _ f k ih => intro Q E p s v h; exact ⟨h.1, ih () Q E p { s with heap := s.heap.update a f } v h.2⟩
  | loadIfAlive a k ih => intro Q E p s v h; exact ih _ Q E p s v h
  | point _ k ih => intro Q E p s v h; exact ih () Q E p s v h
  | register _ _ => intro Q E p s _ h; exact h
  | alloc o k ih => intro Q E p s v h; exact ih _ Q E p { s with heap := s.heap.push o } v h
  | fresh k ih => intro Q E p s v h; exact ih _ Q E p { s with toks := s.toks + 1 } v h
  | ask k ih => intro Q E p s v h; exact ih _ Q E p s v h
  | choose src m k ih => intro Q E p s v h; exact ⟨h.1, ih _ Q E p { s with drawn := s.drawn.bump src } v h.2⟩
  | os q _ k ih => intro Q E p s v h; exact ih _ Q E p { s with os := (Os.step s.os q).1 } v h
  | call c hd _ _ k ih =>
    intro Q E p s v h
    obtain ⟨r, s', hr, h⟩ := h
    obtain ⟨a, _, d⟩ := runs_swap hr rfl v
    exact ⟨r, _, d, ih r Q E p s' a h⟩
  | handled own k ih => intro Q E p s v h; exact ih _ Q E p s v h
  | genState g k ih =>
    intro Q E p s v h
    obtain ⟨st, hs, h⟩ := h
    obtain ⟨y, hy, sy⟩ := sw_at v hs
    refine ⟨y, hy, ?_⟩
    rw [sy]
    exact ih _ Q E p s v h
  | newGen c k ih =>
    intro Q E p s v h
    have z := ih _ Q E p { s with gens := s.gens.push (.fresh c) } (v.push (x := .fresh c) (no_susp fun _ _ _ _ _ _ q => by cases q)) h
    rw [swS_new v] at z
    show wp M Γ (k (swS T s).gens.size) _ _ p _
    rw [swS_size]
    exact z
  | resume g r _ k ih =>
    intro Q E p s v h
    obtain ⟨res, s', hw, h⟩ := h
    obtain ⟨a, d⟩ := wakes_swap hw v
    exact ⟨res, _, d, ih res Q E p s' a h⟩
  | yield _ _ _ _ => intro Q E p s _ h; exact h
  | stack k ih => intro Q E p s v h; exact ih _ Q E p s v h
  | fork _ _ => intro Q E p s _ h; exact h
  | thread k ih => intro Q E p s v h; exact ih _ Q E p s v h
  | await _ _ _ _ _ => intro Q E p s _ h; exact h
/-- all generators that sleep, put out of reach -/
def hid (s : Shared) : Shared := { s with gens := s.gens.map dead }
def tab (G : Array GenState) (i : Nat) : Option GenState := match G[i]? with
  | some (.suspended k l c p fs cl) => some (.suspended k l c p fs cl)
  | _ => none
theorem tab_iv (G : Array GenState) : Iv (tab G) (G.map dead) := by
  refine ⟨fun i x e => ?_, fun i k l c p fs cl e h => ?_⟩
  · unfold tab at e
    cases q : G[i]? with
    | none => rw [q] at e; cases e
    | some y =>
      rw [q] at e
      cases y with
      | suspended k l c p fs cl =>
        cases e
        exact ⟨⟨_, _, _, _, _, _, rfl⟩, by rw [Array.getElem?_map, q] <;> rfl⟩
      | _ => cases e
  · unfold tab at e
    rw [Array.getElem?_map] at h
    cases q : G[i]? with
    | none => rw [q] at h; cases h
    | some y =>
      rw [q] at e h
      cases y with
      | suspended k l c p fs cl => cases e
      | _ => cases h
theorem tab_sw (G : Array GenState) : sw (tab G) (G.map dead) = G := by
  refine Array.ext_getElem? fun i => ?_
  rw [sw_get, Array.getElem?_map]
  unfold tab
  cases q : G[i]? with
  | none => rfl
  | some y => cases y <;> rfl
theorem hid_sw (s : Shared) : swS (tab s.gens) (hid s) = s := by
  unfold swS hid
  rw [tab_sw]
/-- what is shown while all that sleep is out of reach holds, and they sleep on -/
theorem asleep {α : Type} {M : Model} {A : Around} {s : Shared} {t : Sem α} {Q : α → Shared → Prop} {E : Value → Shared → Prop} (h : wpAny M A t Q E (hid s)) :
    wpAny M A t (fun a s' => ∃ sh, Iv (tab s.gens) sh.gens ∧ s' = swS (tab s.gens) sh ∧ Q a sh) (fun e s' => ∃ sh, Iv (tab s.gens) sh.gens ∧ s' = swS (tab s.gens) sh ∧ E e sh) s := by
  intro Γ p hΓ
  have z := wp_swap M (tab s.gens) Γ t _ _ p (hid s) (tab_iv s.gens) (h Γ p hΓ)
  rw [hid_sw] at z
  exact z
end Slp


/-! one segment of a generator's run, up to where it hands out a value or ends -/
namespace Sg
open PySem PyProof.Rows GenW L2
open Sem (wp)
def SegG (M : Model) (A : Around) (Φ : End → Shared → Prop) (c : Code) (t : Sem PySem.Fin) (fs : List Frame) (s : Shared) : Prop :=
  ∀ (Γ : PySem.Ctx) (p : Pos), Γ.code = c → Γ.Woken A → ∃ e s', Runs M Γ p t fs s e s' ∧ Φ e s'
section
variable {M : Model} {A : Around} {Φ : End → Shared → Prop} {c : Code} {fs : List Frame} {s : Shared}
theorem sg_wrap {α : Type} {m : Sem α} {K : α → Sem PySem.Fin} {H : Value → Sem PySem.Fin} {gd : Bool → Bool} {lv : List Value → List Value}
    (h : wpAny M (A.over c fs) m (fun a s' => SegG M A Φ c (K a) fs s') (fun x s' => SegG M A Φ c (H x) fs s') s) : SegG M A Φ c (m.wrap K H gd lv) fs s := by
  rintro Γ p rfl hΓ
  exact runs_wrap_of_wp K H gd lv m (h (Γ.over fs) p (hΓ.over fs)) (fun a p' s' h' => h' Γ p' rfl hΓ) (fun x p' s' h' => h' Γ p' rfl hΓ)
theorem sg_bind {α : Type} {m : Sem α} {K : α → Sem PySem.Fin} (h : wpAny M (A.over c fs) m (fun a s' => SegG M A Φ c (K a) fs s') (fun x s' => SegG M A Φ c (.raise x) fs s') s) :
    SegG M A Φ c (m >>= K) fs s := by
  rw [Sem.bind_eq_wrap']; exact sg_wrap h
theorem sg_bindw {α β : Type} {m : Sem α} {K : α → Sem β} {K' : β → Sem PySem.Fin} {H' : Value → Sem PySem.Fin} {gd : Bool → Bool} {lv : List Value → List Value}
    (h : wpAny M (A.over c fs) m (fun a s' => SegG M A Φ c ((K a).wrap K' H' gd lv) fs s') (fun x s' => SegG M A Φ c (H' x) fs s') s) : SegG M A Φ c ((m >>= K).wrap K' H' gd lv) fs s := by
  rw [Sem.bind_eq_wrap', Sem.wrap_wrap]; exact sg_wrap h
theorem sg_at {p' : Pos} {k : Unit → Sem PySem.Fin} (h : SegG M A Φ c (k ()) fs s) : SegG M A Φ c (.at p' k) fs s :=
  sg_wrap (m := standAt p') (K := k) (H := .raise) (gd := id) (lv := id) (wpAny_standAt h)
theorem sg_point {l : List Value} {k : Unit → Sem PySem.Fin} (h : SegG M A Φ c (k ()) fs s) : SegG M A Φ c (.point l k) fs s :=
  sg_wrap (m := point) (K := k) (H := .raise) (gd := id) (lv := fun _ => l) (wpAny_point h)
theorem sg_call {c' : Code} {h : Option Value} {g : Bool} {l : List Value} {k : Result → Sem PySem.Fin} (hc : ∀ p, SegG M A Φ c' (M.den c') (.ret k h g l c p [] :: fs) s) :
    SegG M A Φ c (.call c' h g l k) fs s := by
  rintro Γ p rfl hΓ
  obtain ⟨e, s', hr, he⟩ := hc p (Γ.goto c') p rfl (hΓ.goto c')
  exact ⟨e, s', runs_call_seg hr, he⟩
theorem sg_leaf {k : Result → Sem PySem.Fin} {h : Option Value} {g : Bool} {l kp : List Value} {c₁ : Code} {p₁ : Pos} (r : Result) (hk : SegG M A Φ c₁ (k r) fs s) : SegG M A Φ c (leafOf r) (.ret k h g l c₁ p₁ kp :: fs) s := by
  rintro Γ p rfl hΓ
  obtain ⟨e, s', hr, he⟩ := hk (Γ.goto c₁) p₁ rfl (hΓ.goto c₁)
  exact ⟨e, s', Runs.pop r hr, he⟩
theorem sg_again {c' : Code} (hq : c'.quiet = true) (hc : SegG M A Φ c' (M.den c') fs s) : SegG M A Φ c (.pure (.again c')) fs s := by
  rintro Γ p rfl hΓ
  obtain ⟨e, s', hr, he⟩ := hc (Γ.goto c') p rfl (hΓ.goto c')
  exact ⟨e, s', Runs.head (c₁ := c') (fun _ _ x => .again hq x) hr, he⟩
theorem sg_end (r : Result) (h : Φ (.ret r) s) : SegG M A Φ c (leafOf r) [] s := by
  rintro Γ p rfl _
  exact ⟨.ret r, s, Runs.leaf r, h⟩
theorem sg_yield {v : Value} {g : Bool} {l : List Value} {k : Resume → Sem PySem.Fin} (hfs : splitAtGen fs = none) (hg : g = false) (hfg : fs.any Frame.guarded = false)
    (h : ∀ g' l' p', (End.susp v g' l' k c p' fs).quiet = true → Φ (.susp v g' l' k c p' fs) s) : SegG M A Φ c (.yield v g l k) fs s := by
  rintro Γ p rfl _
  exact ⟨_, s, Runs.yield' fs hfs, h _ _ _ (by simp [End.quiet, hg, hfg])⟩
theorem sg_mono {Φ' : End → Shared → Prop} {t : Sem PySem.Fin} (h : SegG M A Φ c t fs s) (i : ∀ e s, Φ e s → Φ' e s) : SegG M A Φ' c t fs s := by
  intro Γ p hc hΓ
  obtain ⟨e, s', hr, he⟩ := h Γ p hc hΓ
  exact ⟨e, s', hr, i _ _ he⟩
end
def GoesG (M : Model) (A : Around) (Φ : End → Shared → Prop) (gs : GenState) (r : Resume) (s : Shared) : Prop :=
  match gs with
  | .fresh c => r = .send .none ∧ SegG M A Φ c (M.den c) [] s
  | .suspended k _ c _ fs _ => SegG M A Φ c (k r) fs s
  | _ => False
section
variable {M : Model}
theorem wpAny_resumeG {A : Around} {Φ : End → Shared → Prop} {E : Value → Shared → Prop} {s : Shared} {g : Nat} {gs : GenState}
    {r : Resume} {l : List Value} {α : Type} {k : GenResult → Sem α} {Q : α → Shared → Prop} (hg : s.gens[g]? = some gs)
    (hgo : GoesG M A Φ gs r (s.setGen g .running)) (hq : ∀ e s, Φ e s → e.quiet = true)
    (hR : ∀ e s₁, Φ e s₁ → wpAny M A (k e.result) Q E (s₁.setGen g e.genState)) :
    wpAny M A (.resume g r l k) Q E s := by
  intro Γ p hΓ
  rw [Sem.wp_resume]
  have hB : ∀ c, (Γ.wake c p).Woken A := fun c => hΓ.wake c p
  cases gs with
  | fresh c =>
    obtain ⟨rfl, hs⟩ := hgo
    obtain ⟨e₁, s₁, hr, he⟩ := hs (Γ.wake c p) p rfl (hB c)
    exact ⟨_, _, by unfold Wakes; rw [hg]; exact ⟨e₁, s₁, hr, hq e₁ s₁ he, rfl, rfl⟩, hR e₁ s₁ he Γ p hΓ⟩
  | suspended k₀ l₀ c₀ p₀ fs₀ cl =>
    obtain ⟨e₁, s₁, hr, he⟩ := hgo (Γ.wake c₀ p) p₀ rfl (hB c₀)
    exact ⟨_, _, by unfold Wakes; rw [hg]; exact ⟨e₁, s₁, hr, hq e₁ s₁ he, rfl, rfl⟩, hR e₁ s₁ he Γ p hΓ⟩
  | running => exact hgo.elim
  | finished => exact hgo.elim
end
/-- how a segment may end: for good, by an exception, or with a value handed out -/
def PhiOf (F : Shared → Prop) (Er : Value → Shared → Prop) (Yd : Value → GenState → Shared → Prop) (e : End) (s : Shared) : Prop :=
  e.quiet = true ∧ match e with
  | .ret r => ((r = .ok (.ret .none) ∨ r = .ok .next) ∧ F s) ∨ ∃ x, r = .error x ∧ Er x s
  | .susp v g l k c p fs => Yd v (End.susp v g l k c p fs).genState s
section
variable {P : Program} {w : World} {A : Around} {E : Value → Shared → Prop} {s : Shared}
theorem next_segG {a : Addr} {g : Nat} {gs : GenState} {F : Shared → Prop} {Er : Value → Shared → Prop} {Yd : Value → GenState → Shared → Prop} {Q : Option Value → Shared → Prop} (hh : A.handled = none)
    (hl : s.heap.NoLimit) (hroom : A.depth < recursionLimit) (hg : s.heap.IsGen a g) (hgs : s.gens[g]? = some gs)
    (hgo : GoesG (model P w) A.in1 (PhiOf F Er Yd) gs (.send .none) (s.setGen g .running))
    (hY : ∀ v s₁ gs', gs'.bare = true → Yd v gs' s₁ → Q (some v) (s₁.setGen g gs'))
    (hP : ∀ s₁, F s₁ → ∀ h', (∀ b o, s₁.heap.get? b = some o → h'.get? b = some o) → Q none { s₁.setGen g .finished with heap := h' })
    (hE : ∀ e s₁, Er e s₁ → s₁.heap.IsGen a g ∧ NotStop (model P w) e s₁.heap ∧ E e (s₁.setGen g .finished)) :
    wpAny (model P w) A (pyNext (.ref a)) Q E s := by
  unfold pyNext
  refine wpAny_bind (wpAny_attempt (wpAny_callSpecial?_slot (name := Str.ofString "__next__") hg.typeIs slot_gen_next
    (wpAny_call_entry slot_gen_next hg.typeIs entry_gen_next ?_ (args_gen_next _))))
  show wpAny _ A.in1 (Builtin.Generator.genWake (.ref a) (.send .none)) _ _ s
  unfold Builtin.Generator.genWake
  refine wpAny_bind (wpAny_holding (wpAny_genNumber hg (wpAny_bind (wpAny_genState hgs ?_))))
  cases gs with
  | running => exact hgo.elim
  | finished => exact hgo.elim
  | _ =>
    refine wpAny_bind (wpAny_roomToWake hl hroom ?_)
    show wpAny _ A.in1 (.resume g (.send .none) [] _) _ _ s
    refine wpAny_resumeG hgs hgo (fun _ _ h => h.1) (fun e s₁ he => ?_)
    obtain ⟨hq, he⟩ := he
    cases e with
    | ret x =>
      rcases he with ⟨hr, hp⟩ | ⟨e, rfl, he⟩
      · have hres : End.result (.ret x) = .returned .none := by
          rcases hr with hr | hr <;> rw [hr] <;> rfl
        first | rw [hres] | simp only [hres]
        show wpAny _ A.in1 (newExc (.type "StopIteration") [] >>= _) _ _ _
        refine wpAny_bind ?_
        simp only [newExc, newTuple]
        refine wpAny_bind (wpAny_newObj_type ?_ (by size_fits))
        refine wpAny_bind (m := firstArgMember _ _) (wpAny_of_eq (a := Value.none) (by first | rfl | (simp only [firstArgMember]; rfl)) ?_)
        refine wpAny_newObj_type ?_ (by size_fits)
        simp only [raiseNew]
        refine wpAny_bind (wpAny_bind (wpAny_handled ?_))
        first | rw [show A.in1.handled = none from hh] | rw [hh]
        refine wpAny_throw ?_
        refine wpAny_bind (wpAny_isInstance (T := "StopIteration") (b := true) ⟨_, Heap.get?_push_size _ rfl, rfl⟩ isSubtype_stop ?_)
        exact wpAny_pure (hP s₁ hp _ fun b o hb => Heap.get?_push_of_some _ (Heap.get?_push_of_some _ hb))
      · obtain ⟨hg1, hns, hq⟩ := hE e s₁ he
        obtain ⟨o, nm, qn, ho, hc, hd, hsl⟩ := hg1
        show wpAny _ A.in1 (Builtin.Generator.genLeft (.ref a) e) _ _ _
        unfold Builtin.Generator.genLeft Builtin.Generator.madeByALambda
        refine wpAny_bind (wpAny_bind (wpAny_load (o := o) ho (wpAny_pure ?_)))
        refine wpAny_bind (hns _ _ _ _ rfl ?_)
        rw [Bool.and_false, if_neg Bool.false_ne_true]
        unfold Builtin.Generator.genEscaped
        first
          | refine wpAny_bind (hns _ _ _ _ rfl ?_)
          | refine wpAny_bind (wpAny_pure (wpAny_bind (hns _ _ _ _ rfl ?_)))
        rw [if_pos (show (!false) = true from rfl)]
        first
          | refine wpAny_throw ?_
          | refine wpAny_bind (wpAny_throw ?_)
        refine wpAny_bind (hns _ _ _ _ rfl ?_)
        rw [if_neg Bool.false_ne_true]
        exact wpAny_throw hq
    | susp v g' l k c p fs => exact wpAny_pure ⟨v, rfl, wpAny_pure (hY v s₁ _ (End.bare_of_quiet hq) he)⟩
end
end Sg


/-! a generator's body between two wakings: its context is anchored anew at each -/
namespace Sg
open PySem PyProof.Rows GenW L2
/-- what a generator promises: at its i-th waking on a heap it hands out a value, or it ends, or it raises -/
structure It2 where
  wk : Nat → Hp → Hp → Prop
  yld : Nat → Hp → V → Hp → Prop
  fin : Nat → Hp → Hp → Prop
  ex : Nat → Hp → XK
structure Gz where
  P : Program
  w : World
  K : PySem.W.Frag
  mg : Str → Option Value
  base : Heap
  N : List Str
  qual : Str
  scope : Scope
  n : Nat
  f : Addr
  cd : Value
  A : Around
  outer : List Env
  os : OsState
  ag : Addr
  g : Nat
  go : Obj
  pa : List Addr
  J : It2
structure An where
  i : Nat
  s : Shared
  H : Hp
  pn : List (Addr × Obj)
/-- what it raises: what is pinned is not tracked -/
def Gz.Ex (Z : Gz) (a : An) : XK := fun cls d H' => Z.J.ex a.i a.H cls d H' ∧ ∀ p ∈ (Z.ag, Z.go) :: a.pn, H' p.1 = none
abbrev Gz.env (Z : Gz) : Env := envOfC Z.qual Z.scope Z.n Z.f Z.cd
def Gz.cx (Z : Gz) (a : An) : Cx where
  prog := Z.P
  w := Z.w
  K := Z.K
  mg := Z.mg
  base := Z.base
  A := Z.A.deeper Z.env
  N := Z.N
  s_0 := a.s
  H_0 := a.H
  env := Z.env
  outer := Z.outer
  stack := Z.env :: Z.outer
  ex := []
  calm := true
  fn := fun _ => true
  pn := (Z.ag, Z.go) :: a.pn
  xe := fun e s' => wpAny (model Z.P Z.w) (Z.A.deeper Z.env) (leaving Z.env e)
      (fun _ s'' => CX Z.P Z.w Z.outer a.H a.s (Z.Ex a) e s'' ∧ ∀ p ∈ (Z.ag, Z.go) :: a.pn, s''.heap.get? p.1 = some p.2) (fun _ _ => False) s'
structure Gz.Ok (Z : Gz) : Prop where
  frames : Z.A.frames = some Z.outer
  hd : Z.A.handled = none
  mod : Mod Z.K Z.mg Z.base
  bsz : Z.base.objs.size ≤ Z.n
  frl : ∀ b ∈ frs Z.outer, b < Z.n
  kind : Z.scope.kind = .function
  cells : Z.env.cells = []
  loc : ∀ x k, Z.scope.names.lookup x = some k → k ≠ .cell ∧ k ≠ .free
  agn : Z.n < Z.ag
  npa : Z.n ∉ Z.pa
  apa : Z.ag ∉ Z.pa
  gen : Z.go.cls = .type "generator" ∧ (∃ nm qn, Z.go.data = .fields #[.int Z.g 0, nm, qn]) ∧ Z.go.slots = #[]
theorem Gz.Ok.isGen {Z : Gz} (ok : Z.Ok) {h : Heap} (e : h.get? Z.ag = some Z.go) : h.IsGen Z.ag Z.g := by
  obtain ⟨h1, ⟨nm, qn, h2⟩, h3⟩ := ok.gen
  exact ⟨Z.go, nm, qn, e, h1, h2, h3⟩
theorem Gz.Ok.notCell {Z : Gz} (ok : Z.Ok) : ∀ v, Z.go.data ≠ .cell v := by
  obtain ⟨h1, ⟨nm, qn, h2⟩, h3⟩ := ok.gen
  intro v q
  rw [h2] at q
  cases q
/-- the heap's first n objects -/
def cutH (n : Nat) (h : Heap) : Heap := { h with objs := h.objs.extract 0 n }
theorem cutH_size {n : Nat} {h : Heap} (hn : n ≤ h.objs.size) : (cutH n h).objs.size = n := by
  show (h.objs.extract 0 n).size = n
  simp only [Array.size_extract, Nat.sub_zero]
  exact Nat.min_eq_left hn
theorem cutH_get {n : Nat} {h : Heap} {b : Addr} (hb : b < n) : (cutH n h).get? b = h.get? b := by
  unfold Heap.get? cutH
  have e : (h.objs.extract 0 n)[b]? = h.objs[b]? := by
    rw [Array.getElem?_extract]
    by_cases q : b < h.objs.size
    · rw [if_pos (by rw [Nat.sub_zero]; exact Nat.lt_min.mpr ⟨hb, q⟩), Nat.zero_add]
    · rw [if_neg (fun z => q (Nat.lt_of_lt_of_le z (by rw [Nat.sub_zero]; exact Nat.min_le_right _ _))), Array.getElem?_eq_none (Nat.le_of_not_lt q)]
  simp only [e]
theorem cutH_of {n : Nat} {h : Heap} {b : Addr} {o : Obj} (hn : n ≤ h.objs.size) (e : (cutH n h).get? b = some o) : b < n ∧ h.get? b = some o := by
  have l := Heap.lt_size e
  rw [cutH_size hn] at l
  exact ⟨l, by rw [← cutH_get l]; exact e⟩
def cutS (n : Nat) (s : Shared) : Shared := { s with heap := cutH n s.heap }
/-- how a segment leaves things, against its anchor -/
structure Ret (Z : Gz) (a : An) (H : Hp) (s : Shared) : Prop where
  os : s.os = Z.os
  bare : AllBare s.gens
  un : Un (frs Z.outer) [] a.H H a.s.heap s.heap
  hok : HOk Z.P Z.w H s.heap
  pin : ∀ p ∈ (Z.ag, Z.go) :: a.pn, s.heap.get? p.1 = some p.2 ∧ H p.1 = none
  base : ∀ b o, Z.base.get? b = some o → s.heap.get? b = some o ∧ H b = none
structure AnOk (Z : Gz) (a : An) : Prop where
  sz : a.s.heap.objs.size = Z.n
  os : a.s.os = Z.os
  pa : a.pn.map (·.1) = Z.pa
theorem ret_of {Z : Gz} {a : An} (oa : AnOk Z a) {ip : List (Addr × Obj)} {σ : L2.St} {H : Hp} {s : Shared} (I : Inv (Z.cx a) ip σ H s) : Ret Z a H s :=
  ⟨I.os.trans oa.os, I.bare, I.base, I.hok, fun p hp => let z := I.pin p (List.mem_append_left _ hp); ⟨z.1, z.2.1⟩, fun b o e => I.bs b o e⟩
/-- what the consumer gives when it wakes the generator; ks: what must be as it was -/
structure Woke (Z : Gz) (ks : List (Addr × Obj)) (H : Hp) (pc : List (Addr × Obj)) (s : Shared) : Prop where
  os : s.os = Z.os
  bare : AllBare s.gens
  bs : ∀ b o, Z.base.get? b = some o → s.heap.get? b = some o ∧ H b = none
  funs : s.heap.FunFrames Z.base Z.outer
  frf : ∀ b ∈ frs Z.outer, H b = none
  hok : HOk Z.P Z.w H s.heap
  ks : ∀ p ∈ ks, s.heap.get? p.1 = some p.2 ∧ H p.1 = none
  pa : pc.map (·.1) = Z.pa
  pc : ∀ p ∈ pc, s.heap.get? p.1 = some p.2 ∧ H p.1 = none ∧ p.1 ∉ frs Z.outer ∧ ∀ v, p.2.data ≠ .cell v
/-- what sleeps -/
structure KsOk (Z : Gz) (ks : List (Addr × Obj)) (H : Hp) (s : Shared) : Prop where
  at_ : ∀ p ∈ ks, s.heap.get? p.1 = some p.2 ∧ H p.1 = none ∧ Z.n ≤ p.1 ∧ p.1 ∉ Z.pa ∧ ∀ v, p.2.data ≠ .cell v
  ag : (Z.ag, Z.go) ∈ ks
def PhiW (Z : Gz) (Sl : Nat → GenState → List (Addr × Obj) → Hp → Prop) (a : An) : End → Shared → Prop :=
  PhiOf (fun s => ∃ H, Ret Z a H s ∧ Z.J.fin a.i a.H H)
    (fun e s => CX Z.P Z.w Z.outer a.H a.s (Z.Ex a) e s ∧ ∀ p ∈ (Z.ag, Z.go) :: a.pn, s.heap.get? p.1 = some p.2)
    (fun v gs s => (∃ k l c p fs cl, gs = .suspended k l c p fs cl) ∧ ∃ x H ks, RelV x v ∧ Ret Z a H s ∧ Z.J.yld a.i a.H x H ∧ KsOk Z ks H s ∧ Sl (a.i + 1) gs ks H)
def Gz.Slp (Z : Gz) : Nat → Nat → GenState → List (Addr × Obj) → Hp → Prop
  | 0 => fun _ _ _ _ => True
  | n + 1 => fun i gs ks Hs => ∀ (s : Shared) (H : Hp) (pc : List (Addr × Obj)), Woke Z ks H pc s → Z.J.wk i Hs H → GoesG (model Z.P Z.w) Z.A (PhiW Z (Z.Slp n) ⟨i, cutS Z.n s, H, pc⟩) gs (.send .none) s
def Gz.Phi (Z : Gz) (n : Nat) (a : An) : End → Shared → Prop := PhiW Z (Z.Slp n) a
/-- awake again: the body's invariant stands, anchored anew -/
theorem woken0 {Z : Gz} (ok : Z.Ok) {ip : List (Addr × Obj)} {σ : L2.St} {H' : Hp} {s s' : Shared} {lo : Obj} {pc : List (Addr × Obj)} {i : Nat}
    (Il : ∃ m, s.heap.Ns Z.n m ∧ ∀ (i : Nat) (x : Str) (v : V), Z.N[i]? = some x → σ[i]? = some (some v) → Vis Z.env.scope x → ∃ u, RelV v u ∧ Look Z.env s.heap m x u) (In : σ.length = Z.N.length) (hlo : s.heap.get? Z.n = some lo)
    (hip : ∀ p ∈ ip, p.1 ∉ Z.pa ∧ Z.n < p.1 ∧ ∀ v, p.2.data ≠ .cell v) (W : Woke Z ((Z.n, lo) :: (Z.ag, Z.go) :: ip) H' pc s') : Inv (Z.cx ⟨i, cutS Z.n s', H', pc⟩) ip σ H' s' := by
  have hL := W.ks (Z.n, lo) List.mem_cons_self
  have hsz : Z.n ≤ s'.heap.objs.size := Nat.le_of_lt (Heap.lt_size hL.1)
  have csz : (cutS Z.n s').heap.objs.size = Z.n := cutH_size hsz
  have nofr : ∀ b, Z.n ≤ b → b ∉ frs Z.outer := fun b hb hm => absurd (Nat.lt_of_lt_of_le (ok.frl b hm) hb) (Nat.lt_irrefl _)
  have noc : ∀ (x : Str) (c : Addr), Z.env.cells.lookup x ≠ some c := fun x c e => by rw [ok.cells] at e; cases e
  have cfr : ∀ l : List Env, (∀ b ∈ frs l, b < Z.n) → s'.heap.FunFrames Z.base l → (cutS Z.n s').heap.FunFrames Z.base l := by
    intro l
    induction l with
    | nil => intro _ _; trivial
    | cons env r ih =>
      intro hs hl
      obtain ⟨hk, ⟨L, o, hf, hn, ho, hd⟩, hr⟩ := hl
      have hLl : L < Z.n := hs L (by unfold frs; rw [List.filterMap_cons, hf]; exact List.mem_cons_self)
      exact ⟨hk, ⟨L, o, hf, hn, by show (cutH Z.n s'.heap).get? L = _; rw [cutH_get hLl]; exact ho, hd⟩, ih (fun b hb => hs b (by unfold frs; rw [List.filterMap_cons, hf]; exact List.mem_cons_of_mem _ hb)) hr⟩
  refine ⟨⟨ok.mod, ok.kind, rfl, rfl, Nat.le_of_eq csz, fun x y c h1 _ => absurd h1 (noc x c), fun x hx => ?_, fun x c _ h => absurd h (noc x c), fun _ => ok.hd, Around.frames_deeper ok.frames, .inr ⟨rfl, rfl⟩, fun b hb => absurd (show b ∈ ([] : List Addr) from hb) (by simp),
      fun b o e => ⟨?_, (W.bs b o e).2⟩, Nat.le_trans ok.bsz (Nat.le_of_eq csz.symm), fun b o _ hb => absurd (show b ∈ ([] : List Addr) from hb) (by simp), fun b hb => absurd (show b ∈ ([] : List Addr) from hb) (by simp), cfr _ ok.frl W.funs, W.frf⟩,
    rfl, W.bare, ?_, ?_, fun x c h => absurd h (noc x c), hL.2, fun x c h => absurd h (noc x c), fun p hp => ?_, W.hok, In⟩
  · have hx : Z.scope.names.lookup x = some .cell ∨ Z.scope.names.lookup x = some .free := hx
    rcases hx with hx | hx
    · exact absurd rfl (ok.loc x _ hx).1
    · exact absurd rfl (ok.loc x _ hx).2
  · have l : b < Z.n := Nat.lt_of_lt_of_le (Heap.lt_size e) ok.bsz
    show (cutH Z.n s'.heap).get? b = _
    rw [cutH_get l]
    exact (W.bs b o e).1
  · show Un (frs Z.outer) [] H' H' (cutH Z.n s'.heap) s'.heap
    exact Un.kept fun b u q => (cutH_of hsz q).2
  · obtain ⟨m, hn, hl⟩ := Il
    have hn : s.heap.Ns Z.n m := hn
    have hn' : s'.heap.Ns Z.n m := by
      obtain ⟨o, es, ep, ho, r⟩ := hn
      rw [hlo] at ho
      cases ho
      exact ⟨lo, es, ep, hL.1, r⟩
    refine ⟨m, hn', fun j x v h1 h2 h3 => ?_⟩
    obtain ⟨u, ru, q⟩ := hl j x v h1 h2 h3
    refine ⟨u, ru, ?_⟩
    rcases q with ⟨k, e⟩ | ⟨_, c, e, _⟩
    · exact .inl ⟨k, e⟩
    · exact absurd e (noc x c)
  · have hp : p ∈ ((Z.ag, Z.go) :: pc) ++ ip := hp
    rcases List.mem_append.mp hp with hp | hp
    · rcases List.mem_cons.mp hp with rfl | hp
      · have q := W.ks (Z.ag, Z.go) (List.mem_cons_of_mem _ List.mem_cons_self)
        exact ⟨q.1, q.2, Nat.ne_of_gt ok.agn, nofr _ (Nat.le_of_lt ok.agn), ok.notCell⟩
      · obtain ⟨h1, h2, h3, h4⟩ := W.pc p hp
        refine ⟨h1, h2, fun e => ?_, h3, h4⟩
        have e : p.1 = Z.n := e
        exact ok.npa (by rw [← e, ← W.pa]; exact List.mem_map.mpr ⟨p, hp, rfl⟩)
    · have q := W.ks p (List.mem_cons_of_mem _ (List.mem_cons_of_mem _ hp))
      have h2 := (hip p hp).2.1
      exact ⟨q.1, q.2, Nat.ne_of_gt h2, nofr _ (Nat.le_of_lt h2), (hip p hp).2.2⟩
theorem woken {Z : Gz} (ok : Z.Ok) {a : An} {ip : List (Addr × Obj)} {σ : L2.St} {H H' : Hp} {s s' : Shared} {lo : Obj} {pc : List (Addr × Obj)} {i : Nat} (I : Inv (Z.cx a) ip σ H s) (hlo : s.heap.get? Z.n = some lo)
    (hip : ∀ p ∈ ip, p.1 ∉ Z.pa ∧ Z.n < p.1) (W : Woke Z ((Z.n, lo) :: (Z.ag, Z.go) :: ip) H' pc s') : Inv (Z.cx ⟨i, cutS Z.n s', H', pc⟩) ip σ H' s' :=
  woken0 ok I.loc I.len hlo (fun p hp => ⟨(hip p hp).1, (hip p hp).2, (I.pin p (List.mem_append_right _ hp)).2.2.2.2⟩) W
theorem anOk_cut {Z : Gz} {ks : List (Addr × Obj)} {H' : Hp} {s' : Shared} {lo : Obj} {pc : List (Addr × Obj)} {i : Nat} (W : Woke Z ((Z.n, lo) :: ks) H' pc s') : AnOk Z ⟨i, cutS Z.n s', H', pc⟩ :=
  ⟨cutH_size (Nat.le_of_lt (Heap.lt_size (W.ks (Z.n, lo) List.mem_cons_self).1)), W.os, W.pa⟩
/-- what is wanted behind a statement of a generator -/
structure GE where
  nx : An → L2.St → Hp → Prop
  rt : An → V → Hp → Prop
  bk : An → L2.St → Hp → Prop := fun _ _ _ => False
  ct : An → L2.St → Hp → Prop := fun _ _ _ => False
abbrev TG2 := GE → An → L2.St → Hp → Prop
def GE.at (D : GE) (a : An) : Ends := { nx := D.nx a, rt := D.rt a, bk := D.bk a, ct := D.ct a }
structure GC2 (Z : Gz) (ip : List (Addr × Obj)) (c : Code) (fs : List Frame) (gd : Bool → Bool) : Prop where
  ok : Z.Ok
  ip : ∀ p ∈ ip, p.1 ∉ Z.pa ∧ Z.n < p.1
  over : Z.A.over c fs = Z.A.deeper Z.env
  split : splitAtGen fs = none
  guard : fs.any Frame.guarded = false
  gd : gd false = false
structure GK2 (Z : Gz) (ip : List (Addr × Obj)) (c : Code) (fs : List Frame) (Kc : Flow → Sem PySem.Fin) (Jc : Value → Sem PySem.Fin) (D : GE) : Prop where
  ok : ∀ (n : Nat) (a : An) (s : Shared) (f : Flow), AnOk Z a → SP (Z.cx a) ip (D.at a) f s → SegG (model Z.P Z.w) Z.A (Z.Phi n a) c (Kc f) fs s
  exc : ∀ (n : Nat) (a : An) (e : Value) (s : Shared), AnOk Z a → (Z.cx a).xe e s → SegG (model Z.P Z.w) Z.A (Z.Phi n a) c (Jc e) fs s
structure GS2 (Z : Gz) (st : Stmt) (t : TG2) : Prop where
  run : ∀ (n : Nat) (ip : List (Addr × Obj)) (c : Code) (fs : List Frame) (Kc : Flow → Sem PySem.Fin) (Jc : Value → Sem PySem.Fin) (gd : Bool → Bool) (lv : List Value → List Value) (a : An) (s : Shared) (σ : L2.St) (H : Hp) (D : GE),
    GC2 Z ip c fs gd → GK2 Z ip c fs Kc Jc D → AnOk Z a → Inv (Z.cx a) ip σ H s → t D a σ H → SegG (model Z.P Z.w) Z.A (Z.Phi n a) c ((exec st Z.env).wrap Kc Jc gd lv) fs s
structure GSs2 (Z : Gz) (st : List Stmt) (t : TG2) : Prop where
  run : ∀ (n : Nat) (ip : List (Addr × Obj)) (c : Code) (fs : List Frame) (Kc : Flow → Sem PySem.Fin) (Jc : Value → Sem PySem.Fin) (gd : Bool → Bool) (lv : List Value → List Value) (a : An) (s : Shared) (σ : L2.St) (H : Hp) (D : GE),
    GC2 Z ip c fs gd → GK2 Z ip c fs Kc Jc D → AnOk Z a → Inv (Z.cx a) ip σ H s → t D a σ H → SegG (model Z.P Z.w) Z.A (Z.Phi n a) c ((execs st Z.env).wrap Kc Jc gd lv) fs s
section
variable {Z : Gz} {st : Stmt} {rest : List Stmt} {pos yp : Pos}
def tPl (t : An → TS) : TG2 := fun D a σ H => t a (D.at a) σ H
theorem g2_ps {t : An → TS} (h : ∀ a, PS (Z.cx a) st (t a)) : GS2 Z st (tPl t) := by
  refine ⟨fun n ip c fs Kc Jc gd lv a s σ H D g k oa I ht => ?_⟩
  refine sg_wrap ?_
  rw [g.over]
  exact wpAny_mono ((h a).run _ s σ H (D.at a) I ht) (fun f s' hs => k.ok n a s' f oa hs) fun x s' hx => k.exc n a x s' oa hx
def t2Nil : TG2 := fun D a σ H => D.nx a σ H
theorem g2s_nil : GSs2 Z [] t2Nil :=
  ⟨fun n ip c fs Kc Jc gd lv a s σ H D g k oa I ht => k.ok n a s .next oa ⟨σ, H, I, ht⟩⟩
def t2Then (t u : TG2) : TG2 := fun D a σ H => t { D with nx := fun a' σ' H' => u D a' σ' H' } a σ H
theorem g2s_cons {t u : TG2} (h1 : GS2 Z st t) (h2 : GSs2 Z rest u) : GSs2 Z (st :: rest) (t2Then t u) := by
  refine ⟨fun n ip c fs Kc Jc gd lv a s σ H D g k oa I ht => ?_⟩
  rw [execs_cons_wrap]
  refine h1.run n ip c fs _ Jc gd lv a s σ H { D with nx := fun a' σ' H' => u D a' σ' H' } g ⟨fun n' a' s' f oa' hs => ?_, k.exc⟩ oa I ht
  cases f with
  | next =>
    obtain ⟨σ', H', I', q⟩ := hs
    exact h2.run n' ip c fs Kc Jc gd lv a' s' σ' H' D g k oa' I' q
  | brk => exact k.ok n' a' s' .brk oa' hs
  | cont => exact k.ok n' a' s' .cont oa' hs
  | ret u => exact k.ok n' a' s' (.ret u) oa' hs
/-! ### yield -/
def t2Y (J : It2) (te : An → TE) : TG2 := fun D a σ H => te a σ H fun x H1 => J.yld a.i a.H x H1 ∧ ∀ s' H' pc, J.wk (a.i + 1) H1 H' → D.nx ⟨a.i + 1, s', H', pc⟩ σ H'
/-- the locals' own object -/
theorem loc_obj {a : An} {ip : List (Addr × Obj)} {σ : L2.St} {H : Hp} {s : Shared} (I : Inv (Z.cx a) ip σ H s) : ∃ lo, s.heap.get? Z.n = some lo ∧ ∀ v, lo.data ≠ .cell v := by
  obtain ⟨m, ⟨o, es, ep, ho, hd, _⟩, _⟩ := I.loc
  exact ⟨o, ho, fun v q => by rw [hd] at q; cases q⟩
/-- it goes to sleep, and may be woken -/
theorem g2_sleep {a : An} {ip : List (Addr × Obj)} {c : Code} {fs : List Frame} {gd : Bool → Bool} {n : Nat} {s : Shared} {σ : L2.St} {H : Hp} {x : V} {v : Value} {k : Resume → Sem PySem.Fin} {g' : Bool} {l' : List Value} {p' : Pos}
    (g : GC2 Z ip c fs gd) (oa : AnOk Z a) (I : Inv (Z.cx a) ip σ H s) (rv : RelV x v) (hy : Z.J.yld a.i a.H x H) (hq : (End.susp v g' l' k c p' fs).quiet = true)
    (hk : ∀ (n' : Nat) (a' : An) (s' : Shared), AnOk Z a' → a'.i = a.i + 1 → Z.J.wk (a.i + 1) H a'.H → Inv (Z.cx a') ip σ a'.H s' → SegG (model Z.P Z.w) Z.A (Z.Phi n' a') c (k (.send .none)) fs s') :
    Z.Phi n a (.susp v g' l' k c p' fs) s := by
  obtain ⟨lo, hlo, hlc⟩ := loc_obj I
  refine ⟨hq, ⟨_, _, _, _, _, _, rfl⟩, x, H, (Z.n, lo) :: (Z.ag, Z.go) :: ip, rv, ret_of oa I, hy, ⟨fun p hp => ?_, List.mem_cons_of_mem _ List.mem_cons_self⟩, ?_⟩
  · rcases List.mem_cons.mp hp with rfl | hp
    · exact ⟨hlo, I.free, Nat.le_refl _, g.ok.npa, hlc⟩
    · rcases List.mem_cons.mp hp with rfl | hp
      · have q := I.pin (Z.ag, Z.go) (List.mem_append_left _ List.mem_cons_self)
        exact ⟨q.1, q.2.1, Nat.le_of_lt g.ok.agn, g.ok.apa, g.ok.notCell⟩
      · have q := I.pin p (List.mem_append_right _ hp)
        exact ⟨q.1, q.2.1, Nat.le_of_lt (g.ip p hp).2, (g.ip p hp).1, q.2.2.2.2⟩
  · cases n with
    | zero => trivial
    | succ n =>
      intro s' H' pc W hw
      exact hk n ⟨a.i + 1, cutS Z.n s', H', pc⟩ s' (anOk_cut W) rfl hw (woken g.ok I hlo g.ip W)
/-! ### if -/
def t2If (tc : An → TT) (t u : TG2) : TG2 := fun D a σ H => tc a σ H fun b H1 => if b = true then t D a σ H1 else u D a σ H1
end
end Sg


/-! a for in a generator's body -/
namespace Sg
open PySem PyProof.Rows GenW L2
section
variable {M : Model} {A : Around} {Φ : End → Shared → Prop} {c : Code} {fs : List Frame} {s : Shared} {env : Env}
theorem sg_runOwn {c' : Code} {Kc : Flow → Sem PySem.Fin} {Jc : Value → Sem PySem.Fin} {gd : Bool → Bool} {lv : List Value → List Value}
    (h : ∀ p, SegG M A Φ c' (M.den c') (.ret (fun r => ((match r with | .ok f => (.pure f : Sem Flow) | .error e => .raise e).onRaise (cameBack env)).wrap Kc Jc gd lv) none (gd false) (lv []) c p [] :: fs) s) :
    SegG M A Φ c ((runOwn c' env).wrap Kc Jc gd lv) fs s :=
  sg_call h
theorem sg_For {target iter : Expr} {body : List Stmt} {pos : Pos} {Kc : Flow → Sem PySem.Fin} {Jc : Value → Sem PySem.Fin} {gd : Bool → Bool} {lv : List Value → List Value}
    (h : wpAny M (A.over c fs) (eval iter env) (fun x s₁ => wpAny M (A.over c fs) (pyIter x) (fun it s₂ =>
      ∀ p, SegG M A Φ (.forLoop target it body [] env) (M.den (.forLoop target it body [] env)) (.ret (fun r => ((match r with | .ok f => (.pure f : Sem Flow) | .error e => .raise e).onRaise (cameBack env)).wrap Kc Jc gd lv) none (gd false) (lv []) c p [] :: fs) s₂)
      (fun x s' => SegG M A Φ c (Jc x) fs s') s₁) (fun x s' => SegG M A Φ c (Jc x) fs s') s)
    (hs : ∀ x, foldedSetIterable iter env x = pure x := by intro _; rfl) : SegG M A Φ c ((exec (.For target iter body [] pos) env).wrap Kc Jc gd lv) fs s := by
  rw [arm_exec_For]
  refine sg_bindw (wpAny_standAt ?_)
  refine sg_bindw (wpAny_mono h (fun x s₁ h₁ => ?_) fun _ _ q => q)
  refine sg_bindw (wpAny_of_eq (hs x) ?_)
  refine sg_bindw (wpAny_standAt ?_)
  refine sg_bindw (wpAny_holding (wpAny_mono h₁ (fun it s₂ h₂ => ?_) fun _ _ q => q))
  exact sg_runOwn h₂
end
section
variable {prog : Program} {w : World} {A : Around} {Φ : End → Shared → Prop} {fs : List Frame} {s : Shared} {env : Env}
/-- an exception is noted, and leaves the loop's code -/
def noted (env : Env) (x : Value) : Sem PySem.Fin := (do noteFrame x env; theTreesLotGoes x : Sem Unit).wrap (fun _ => .raise x) .raise id id
theorem sg_forLoop {target : Expr} {it : Value} {body : List Stmt}
    (h : wpAny (model prog w) (A.over (.forLoop target it body [] env) fs) (pyNext it) (fun r s₁ => match r with
        | none => SegG (model prog w) A Φ (.forLoop target it body [] env) (.pure (.again (.block [] env))) fs s₁
        | some v => wpAny (model prog w) (A.over (.forLoop target it body [] env) fs) (letOwnedTupleGo target it v) (fun _ s₂ =>
            wpAny (model prog w) (A.over (.forLoop target it body [] env) fs) (assign target env v) (fun _ s₃ =>
              SegG (model prog w) A Φ (.forLoop target it body [] env) ((execs body env).wrap (fun f => match f with
                | .next | .cont => .pure (.again (.forLoop target it body [] env))
                | .brk => .pure (.done .next)
                | .ret v => .pure (.done (.ret v))) (noted env) id id) fs s₃) (fun x s' => SegG (model prog w) A Φ (.forLoop target it body [] env) (noted env x) fs s') s₂)
            (fun x s' => SegG (model prog w) A Φ (.forLoop target it body [] env) (noted env x) fs s') s₁)
      (fun x s' => SegG (model prog w) A Φ (.forLoop target it body [] env) (noted env x) fs s') s) :
    SegG (model prog w) A Φ (.forLoop target it body [] env) ((model prog w).den (.forLoop target it body [] env)) fs s := by
  have hJ : (fun e => ((do noteFrame e env; theTreesLotGoes e : Sem Unit)).bind fun _ => (.raise e : Sem PySem.Fin)) = noted env := funext fun e => Sem.bind_eq_wrap _ _
  show SegG _ A Φ _ ((forTurn target it body [] env).onRaise (fun x => do noteFrame x env; theTreesLotGoes x)) fs s
  rw [Sem.onRaise_eq_wrap, hJ]
  unfold forTurn
  refine sg_bindw (wpAny_standAt ?_)
  refine sg_bindw (wpAny_onRaise (wpAny_mono h (fun r s₁ h₁ => ?_) fun _ _ q => wpAny_standAt q))
  cases r with
  | none => exact h₁
  | some v =>
    refine sg_bindw (wpAny_mono h₁ (fun _ s₂ h₂ => ?_) fun _ _ q => q)
    refine sg_bindw (wpAny_mono h₂ (fun _ s₃ h₃ => ?_) fun _ _ q => q)
    show SegG _ A Φ _ (Sem.wrap _ _ _ _ (execs body env >>= _)) fs s₃
    rw [Sem.bind_eq_wrap', Sem.wrap_wrap]
    exact (congrArg (fun t => SegG (model prog w) A Φ (.forLoop target it body [] env) t fs s₃) (Sem.wrap_congr (execs body env) id id (fun f => by cases f <;> rfl) (fun e => rfl))).mpr h₃
theorem sg_block {k : Result → Sem PySem.Fin} {h : Option Value} {g : Bool} {l kp : List Value} {c c₁ : Code} {p₁ : Pos} (hk : SegG (model prog w) A Φ c₁ (k (.ok .next)) fs s) : SegG (model prog w) A Φ c (.pure (.again (.block [] env))) (.ret k h g l c₁ p₁ kp :: fs) s :=
  sg_again rfl (sg_leaf (.ok .next) hk)
end
section
variable {Z : Gz}
theorem gz_owns {a : An} : PassesOwn (model Z.P Z.w) (Z.A.deeper Z.env) Z.env (Z.cx a).xe :=
  passes_of (X := Z.cx a) (K := fun e s'' => CX Z.P Z.w Z.outer a.H a.s (Z.Ex a) e s'' ∧ ∀ p ∈ (Z.ag, Z.go) :: a.pn, s''.heap.get? p.1 = some p.2) (E₁ := fun _ _ => False) rfl
theorem gc2_loop {ip ip' : List (Addr × Obj)} {c c' : Code} {fs : List Frame} {gd : Bool → Bool} {k : Result → Sem PySem.Fin} {l kp : List Value} {p : Pos} (g : GC2 Z ip c fs gd) (hw : c'.weight = 0) (hu : c'.cUnits = 0) (hi : ∀ p ∈ ip', p.1 ∉ Z.pa ∧ Z.n < p.1) :
    GC2 Z ip' c' (.ret k none (gd false) l c p kp :: fs) id where
  ok := g.ok
  ip := hi
  over := (over_loop hw hu).trans g.over
  split := by
    show (splitAtGen fs).map _ = none
    rw [g.split]; rfl
  guard := by
    show (gd false || fs.any Frame.guarded) = false
    rw [g.gd, g.guard]; rfl
  gd := rfl
theorem sg_cameBack {ip : List (Addr × Obj)} {c : Code} {fs : List Frame} {Kc : Flow → Sem PySem.Fin} {Jc : Value → Sem PySem.Fin} {gd : Bool → Bool} {lv : List Value → List Value} {D : GE} {n : Nat} {a : An} {s : Shared} {e : Value}
    (g : GC2 Z ip c fs gd) (k : GK2 Z ip c fs Kc Jc D) (oa : AnOk Z a) (h : cameBackBy (model Z.P Z.w) (Z.A.deeper Z.env) Z.env (Z.cx a).xe e s) :
    SegG (model Z.P Z.w) Z.A (Z.Phi n a) c (((Sem.raise e : Sem Flow).onRaise (cameBack Z.env)).wrap Kc Jc gd lv) fs s := by
  show SegG _ _ _ _ (((cameBack Z.env e).bind fun _ => (Sem.raise e : Sem Flow)).wrap Kc Jc gd lv) _ _
  rw [Sem.bind_eq_wrap, Sem.wrap_wrap]
  refine sg_wrap ?_
  rw [g.over]
  exact wpAny_mono h (fun _ s' hx => k.exc n a e s' oa hx) fun x s' hx => k.exc n a x s' oa hx
def t2For (wi : An → TI) (g : An → TG) (tb : TG2) : TG2 := fun D a σ H => wi a σ H fun J H1 => ∃ W : Nat → Nat → An → L2.St → Hp → Prop, (∃ m, W 0 m a σ H1) ∧ ∀ i m a σ H, W i m a σ H →
  (J.stop i H ∧ D.nx a σ H) ∨ (J.go i H ∧ ∃ N : An → L2.St → Hp → Prop, (∀ a' σ' H', N a' σ' H' → ∃ m', m' < m ∧ W (i + 1) m' a' σ' H') ∧
    ∀ x H', J.yld i H x H' → g a x σ H' fun σ2 H2 => tb { D with nx := N, ct := N, bk := D.nx } a σ2 H2)
theorem g2_for {tg iter : Expr} {body : List Stmt} {pos : Pos} {wi : An → TI} {gt : An → TG} {tb : TG2} (hi : ∀ a, PI (Z.cx a) tg iter (wi a)) (hg : ∀ a, PG (Z.cx a) tg (gt a)) (hb : GSs2 Z body tb)
    (hs : ∀ x, foldedSetIterable iter Z.env x = pure x := by intro _; rfl) : GS2 Z (.For tg iter body [] pos) (t2For wi gt tb) := by
  refine ⟨fun n ip c fs Kc Jc gd lv a s σ H D g k oa I ht => ?_⟩
  refine sg_For ?_ hs
  rw [g.over]
  refine wpAny_mono ((hi a).run _ s σ H _ I ht) (fun v s1 h1 => ?_) fun x s' hx => k.exc n a x s' oa hx
  refine wpAny_mono h1 (fun itv s2 h2 => ?_) fun x s' hx => k.exc n a x s' oa hx
  obtain ⟨it, fp, tn, J, H2, e, I2, T, st2, f2, W, ⟨m0, w0⟩, turn⟩ := h2
  subst e
  intro p
  have T : Turn Z.P Z.w Z.K tg J fp it tn := T
  have noc : ∀ (x : Str) (c : Addr), Z.env.cells.lookup x ≠ some c := fun x c e => by rw [g.ok.cells] at e; cases e
  have fb : ∀ b ∈ fp, b ∉ Z.pa ∧ Z.n < b ∧ Z.ag ≠ b ∧ b ∉ frs Z.outer ∧ ∀ p ∈ ip, p.1 ≠ b := fun b hb => by
    obtain ⟨_, h2, h3, h4, _, h6⟩ := f2 b hb
    have h2 : b ≠ Z.n := h2
    refine ⟨fun z => ?_, ?_, h6 (Z.ag, Z.go) (List.mem_append_left _ List.mem_cons_self), h3, fun p hp => h6 p (List.mem_append_right _ hp)⟩
    · rw [← oa.pa] at z
      obtain ⟨p, hp, e⟩ := List.mem_map.mp z
      exact h6 p (List.mem_append_left _ (List.mem_cons_of_mem _ hp)) e
    · rcases h4 with z | z
      · exact absurd (show b ∈ ([] : List Addr) from z) (by simp)
      · have z : a.s.heap.objs.size ≤ b := z
        rw [oa.sz] at z
        exact Nat.lt_of_le_of_ne z h2.symm
  have stat : ∀ {a' : An}, AnOk Z a' → ∀ {H' : Hp}, (∀ b ∈ fp, H' b = none) → ∀ b ∈ fp, FpOk (Z.cx a') ip H' b := fun {a'} oa' {H'} hn b hb => by
    obtain ⟨h1, h2, h3, h4, h5⟩ := fb b hb
    refine ⟨hn b hb, Nat.ne_of_gt h2, h4, .inr (by show a'.s.heap.objs.size ≤ b; rw [oa'.sz]; exact Nat.le_of_lt h2), fun x c e => absurd e (noc x c), fun p hp => ?_⟩
    have hp : p ∈ ((Z.ag, Z.go) :: a'.pn) ++ ip := hp
    rcases List.mem_append.mp hp with hp | hp
    · rcases List.mem_cons.mp hp with rfl | hp
      · exact h3
      · exact fun e => h1 (by rw [← e, ← oa'.pa]; exact List.mem_map.mpr ⟨p, hp, rfl⟩)
    · exact h5 p hp
  have gl := fun (kk : Result → Sem PySem.Fin) => gc2_loop (ip' := ip) (k := kk) (c' := .forLoop tg (.ref it) body [] Z.env) (l := lv []) (kp := []) (p := p) g rfl rfl g.ip
  have loop : ∀ (m n i : Nat) (a : An) (s : Shared) (σ : L2.St) (H : Hp), AnOk Z a → Inv (Z.cx a) ip σ H s → tn i s.heap → (∀ b ∈ fp, H b = none) → W i m a σ H →
      SegG (model Z.P Z.w) Z.A (Z.Phi n a) (.forLoop tg (.ref it) body [] Z.env) ((model Z.P Z.w).den (.forLoop tg (.ref it) body [] Z.env))
        (.ret (fun r => ((match r with | .ok f => (.pure f : Sem Flow) | .error e => .raise e).onRaise (cameBack Z.env)).wrap Kc Jc gd lv) none (gd false) (lv []) c p [] :: fs) s := by
    intro m
    induction m using Nat.strongRecOn with
    | ind m ih =>
      intro n i a s σ H oa I st fr w
      have ee : ∀ (n : Nat) (a : An) (x : Value) (s' : Shared), AnOk Z a → (Z.cx a).xe x s' → SegG (model Z.P Z.w) Z.A (Z.Phi n a) (.forLoop tg (.ref it) body [] Z.env) (noted Z.env x)
          (.ret (fun r => ((match r with | .ok f => (.pure f : Sem Flow) | .error e => .raise e).onRaise (cameBack Z.env)).wrap Kc Jc gd lv) none (gd false) (lv []) c p [] :: fs) s' := fun n a x s' oa hx => by
        refine sg_wrap ?_
        rw [(gl _).over]
        refine wpAny_bind (wpAny_mono (gz_owns x s' hx) (fun _ s'' hcb => wpAny_theTreesLotGoes ?_) fun y s'' hcb => ?_)
        · exact sg_leaf (.error x) (sg_cameBack g k oa hcb)
        · exact sg_leaf (.error y) (sg_cameBack g k oa hcb)
      refine sg_forLoop ?_
      rw [(gl _).over]
      rcases turn i m a σ H w with ⟨stop, qn⟩ | ⟨go, N, hN, step⟩
      · refine wpAny_mono (T.done (Z.cx a) rfl rfl rfl rfl i ip s σ H (Z.cx a).xe I (stat oa fr) st stop) (fun r s4 ⟨hr, I4⟩ => ?_) fun x s' hx => ee n a x s' oa hx
        subst hr
        exact sg_block (k.ok n a s4 .next oa ⟨σ, H, I4, qn⟩)
      · refine wpAny_mono (T.item (Z.cx a) rfl rfl rfl rfl i ip s σ H (Z.cx a).xe I (stat oa fr) st go) (fun r s4 ⟨u, hr, h4⟩ => ?_) fun x s' hx => ee n a x s' oa hx
        subst hr
        refine wpAny_mono h4 (fun _ s5 ⟨x, H5, I5, r5, y5, st5, fr5⟩ => ?_) fun x s' hx => ee n a x s' oa hx
        have I5' := I5.pinned (stat oa fr5) (T.obj _ _ st5)
        refine wpAny_mono ((hg a).run _ s5 σ H5 x u _ I5' r5 (step x H5 y5)) (fun _ s6 ⟨σ6, H6, I6, q6⟩ => ?_) fun x s' hx => ee n a x s' oa hx
        have g6 := fun (kk : Result → Sem PySem.Fin) => gc2_loop (ip' := ip ++ pinsAt fp s5.heap) (k := kk) (c' := .forLoop tg (.ref it) body [] Z.env) (l := lv []) (kp := []) (p := p) g rfl rfl (fun q hq => by
          rcases List.mem_append.mp hq with hq | hq
          · exact g.ip q hq
          · have z := fb q.1 (of_pinsAt hq).1
            exact ⟨z.1, z.2.1⟩)
        have again : ∀ {n' : Nat} {a7 : An} {s7 : Shared} {σ7 : L2.St} {H7 : Hp}, AnOk Z a7 → Inv (Z.cx a7) (ip ++ pinsAt fp s5.heap) σ7 H7 s7 → N a7 σ7 H7 →
            SegG (model Z.P Z.w) Z.A (Z.Phi n' a7) (.forLoop tg (.ref it) body [] Z.env) (.pure (.again (.forLoop tg (.ref it) body [] Z.env)))
              (.ret (fun r => ((match r with | .ok f => (.pure f : Sem Flow) | .error e => .raise e).onRaise (cameBack Z.env)).wrap Kc Jc gd lv) none (gd false) (lv []) c p [] :: fs) s7 := fun {n' a7 s7 σ7 H7} oa7 I7 n7 => by
          obtain ⟨m', hm, w7⟩ := hN a7 σ7 H7 n7
          refine sg_again rfl (ih m' hm n' (i + 1) a7 s7 σ7 H7 oa7 I7.unpinned (T.keep _ _ _ st5 fun b hb o e => (I7.pin (b, o) (List.mem_append_right _ (List.mem_append_right _ (mem_pinsAt hb e)))).1) (fun b hb => ?_) w7)
          obtain ⟨o, e, d⟩ := T.obj _ _ st5 b hb
          exact (I7.pin (b, o) (List.mem_append_right _ (List.mem_append_right _ (mem_pinsAt hb e)))).2.1
        refine hb.run n (ip ++ pinsAt fp s5.heap) _ _ _ _ id id a s6 σ6 H6 { D with nx := N, ct := N, bk := D.nx } (g6 _) ⟨fun n' a7 s7 f oa7 q7 => ?_, fun n' a7 x s7 oa7 hx => ee n' a7 x s7 oa7 hx⟩ oa I6 q6
        cases f with
        | next => obtain ⟨σ7, H7, I7, n7⟩ := q7; exact again oa7 I7 n7
        | cont => obtain ⟨σ7, H7, I7, n7⟩ := q7; exact again oa7 I7 n7
        | brk => obtain ⟨σ7, H7, I7, q7⟩ := q7; exact sg_leaf (.ok .next) (k.ok n' a7 s7 .next oa7 ⟨σ7, H7, I7.unpinned, q7⟩)
        | ret v => obtain ⟨x7, σ7, H7, I7, r7, q7⟩ := q7; exact sg_leaf (.ok (.ret v)) (k.ok n' a7 s7 (.ret v) oa7 ⟨x7, σ7, H7, I7.unpinned, r7, q7⟩)
  exact loop m0 n 0 a s2 σ H2 oa I2 st2 (fun b hb => (f2 b hb).1) w0
end
end Sg


/-! a generator def's promise, by its body -/
namespace Sg
open PySem PyProof.Rows GenW L2
abbrev SpG2 := List V → Hp → (It2 → Prop) → Prop
def mkZ (P : Program) (w : World) (K : PySem.W.Frag) (mg : Str → Option Value) (base : Heap) (N : List Str) (qual : Str) (scope : Scope) (f : Addr) (cd : Value) (n : Nat) (A : Around) (outer : List Env) (os : OsState) (ag : Addr) (g : Nat) (go : Obj) (pa : List Addr) (J : It2) : Gz :=
  ⟨P, w, K, mg, base, N, qual, scope, n, f, cd, A, outer, os, ag, g, go, pa, J⟩
/-- what a call of a generator def gives -/
def GMade2 (P : Program) (w : World) (K : PySem.W.Frag) (mg : Str → Option Value) (base : Heap) (k : Nat) (outer : List Env) (H : Hp) (s : Shared) (C : It2 → Prop) (u : Value) (s' : Shared) : Prop :=
  ∃ (a : Addr) (g : Nat) (c : Code), u = .ref a ∧ s.heap.objs.size < a ∧ a < s'.heap.objs.size ∧ s'.heap.IsGen a g ∧ s'.gens[g]? = some (.fresh c) ∧ s'.os = s.os ∧ AllBare s'.gens ∧ s'.heap.NoLimit ∧ (∀ b o, s.heap.get? b = some o → s'.heap.get? b = some o) ∧
    ∃ (N : List Str) (qual : Str) (scope : Scope) (f : Addr) (cd : Value) (go : Obj) (ks : List (Addr × Obj)), ∀ (A : Around) (pa : List Addr) (J : It2), C J → Room k A → A.frames = some outer → (∀ b ∈ pa, s'.heap.objs.size ≤ b) →
      (mkZ P w K mg base N qual scope f cd s.heap.objs.size A outer s.os a g go pa J).Ok ∧ KsOk (mkZ P w K mg base N qual scope f cd s.heap.objs.size A outer s.os a g go pa J) ks H s' ∧
      ∀ n, (mkZ P w K mg base N qual scope f cd s.heap.objs.size A outer s.os a g go pa J).Slp n 0 (.fresh c) ks H
structure GFn2 (P : Program) (w : World) (K : PySem.W.Frag) (mg : Str → Option Value) (base : Heap) (k : Nat) (f : Addr) (fd : FuncData) (ps : List Str) (sp : SpG2) : Prop where
  len : ∀ vs H C, sp vs H C → vs.length = ps.length
  run : ∀ (A : Around) (outer : List Env) (s : Shared) (H : Hp) (args : Args) (us : List Value) (vs : List V) (C : It2 → Prop), Room k A → Env0 P w K mg base A outer s H → BindsTo s fd args (ps.zip us) → Vals vs us → sp vs H C →
    codeAny (model P w) A (.call (.ref f) args) (fun r s' => match r with | .ok (.ret u) => GMade2 P w K mg base k outer H s C u s' | _ => False) s
theorem cells_nil : ∀ {names : List (Str × NameKind)} {n : Nat}, (∀ y ∈ names, y.2 ≠ .cell) → cellsFrom n names [] = []
  | [], _, _ => rfl
  | (x, k) :: r, n, h => by
    unfold cellsFrom
    rw [if_neg fun z => h (x, k) List.mem_cons_self (by simpa using z)]
    exact cells_nil fun y hy => h y (List.mem_cons_of_mem _ hy)
theorem sg_func {prog : Program} {w : World} {A : Around} {Φ : End → Shared → Prop} {fs : List Frame} {s : Shared} {env : Env} {body : List Stmt}
    (h : SegG (model prog w) A Φ (.func body env) ((execs body env).wrap (fun f => .pure (.done (.ret (match f with | .ret v => v | _ => .none))))
      (fun e => (leaving env e).wrap (fun _ => .raise e) .raise id id) id id) fs s) :
    SegG (model prog w) A Φ (.func body env) ((model prog w).den (.func body env)) fs s := by
  show SegG _ A Φ _ (.point [] fun _ => ((execs body env).onRaise (leaving env)) >>= _) fs s
  refine sg_point ?_
  rw [Sem.onRaise_eq_wrap, Sem.bind_eq_wrap', Sem.wrap_wrap]
  exact (congrArg (fun t => SegG (model prog w) A Φ (.func body env) t fs s) (Sem.wrap_congr (execs body env) id id (fun f => by cases f <;> rfl)
    (fun e => by rw [Sem.bind_eq_wrap, Sem.wrap_wrap]; rfl))).mpr h
/-- THE RULE -/
theorem gfn2_of {P : Program} {w : World} {K : PySem.W.Frag} {mg : Str → Option Value} {base : Heap} {k : Nat} {f : Addr} {name qual : Str} {params : Arguments} {body : List Stmt} {scope : Scope} {dV kV doc pm cdv ct oc : Value} {an od : Option Addr}
    {osl : Array (Option Value)} {N ps : List Str} {sp : SpG2} (lk : K.lookup f = some ⟨oc, od, .func (PySem.W.fnOf name qual params body scope dV kV doc pm an cdv ct), osl⟩) (hcd : PySem.W.codeIn K cdv qual = true) (S : GScope N ps scope) (nc : ∀ y ∈ scope.names, y.2 ≠ .cell)
    (len : ∀ vs H C, sp vs H C → vs.length = ps.length)
    (hbody : ∀ (n : Nat) (A : Around) (outer : List Env) (os : OsState) (ag : Addr) (g : Nat) (go : Obj) (pa : List Addr) (J : It2) (vs : List V) (H : Hp) (C : It2 → Prop), Room k (A.deeper (envOfC qual scope n f cdv)) → sp vs H C → C J →
      ∃ t : TG2, GSs2 (mkZ P w K mg base N qual scope f cdv n A outer os ag g go pa J) body t ∧
        ∀ s' H' pc, J.wk 0 H H' → t { nx := fun a _ H1 => J.fin a.i a.H H1, rt := fun a v H1 => v = .non ∧ J.fin a.i a.H H1 } ⟨0, s', H', pc⟩ (start N vs) H') :
    GFn2 P w K mg base (k + 1) f (PySem.W.fnOf name qual params body scope dV kV doc pm an cdv ct) ps sp := by
  refine ⟨len, fun A outer s H args us vs C hr e0 hb r hsp => ?_⟩
  have hl := len _ _ _ hsp
  have KX : K.In s.heap := e0.mod.kin.keeps fun b o e => (e0.bs b o e).1
  have lim : s.heap.NoLimit := e0.mod.nolimit.keeps fun b o e => (e0.bs b o e).1
  have hkind : ∀ y ∈ ps.zip us, scope.names.lookup y.1 = some .local ∨ (scope.names.lookup y.1 = some .cell ∧ ((cellsFrom (s.heap.objs.size + 1) scope.names []).lookup y.1).isSome = true) := fun ⟨n, v⟩ hy => by
    rcases S.par n (List.of_mem_zip hy).1 with q | q
    · exact .inl q
    · exact .inr ⟨q, PySem.W.cellsFrom_some _ _ _ (.inl q)⟩
  refine codeAny_call_generator hr.depth (KX _ _ lk) rfl S.co S.gen rfl (PySem.W.codeRec_of KX hcd) (hb _ _ _ _ ?_)
  refine wpAny_newFunctionEnv_cells S.kind hkind fun env he s1 x => ?_
  subst he
  have lim1 : s1.heap.NoLimit := lim.keeps x.toInCall.keep
  refine ⟨lim1, ?_⟩
  obtain ⟨h1, tk, es1, hk1⟩ := x.done
  have os1 : s1.os = s.os := by rw [es1]
  have gen1 : s1.gens = s.gens := by rw [es1]
  have lt1 : s.heap.objs.size < s1.heap.objs.size := x.toInCall.ns.lt
  have sz1 : s.heap.objs.size ≤ s1.heap.objs.size := Nat.le_of_lt lt1
  have kp1 : ∀ b o, s.heap.get? b = some o → s1.heap.get? b = some o := x.toInCall.keep
  have I1 : Inv (gcxOf P w K mg base N qual scope f cdv A outer s H (fun _ _ _ => False) []) [] (start N vs) H s1 := inv_startG S hr.hd e0 hl r x
  have frl : ∀ b ∈ frs outer, b < s.heap.objs.size := fun b hb => by
    obtain ⟨_, o, ho, _⟩ := e0.funs.mem hb
    exact Heap.lt_size ho
  have main : ∀ (go : Obj) (nm qn : Value) (tk2 : Nat), go.cls = .type "generator" → go.data = .fields #[.int s1.gens.size 0, nm, qn] → go.slots = #[] → (∀ h : Heap, (h.push go).get? h.objs.size = some go) →
      GMade2 P w K mg base (k + 1) outer H s C (.ref s1.heap.objs.size) { s1 with gens := s1.gens.push (.fresh (.func body (envOfC qual scope s.heap.objs.size f cdv))), toks := tk2, heap := s1.heap.push go } := by
    intro go nm qn tk2 hgc hgd0 hgs hgp
    have hgen : ∀ h : Heap, h.get? s1.heap.objs.size = some go → h.IsGen s1.heap.objs.size s1.gens.size := fun h e => ⟨go, nm, qn, e, hgc, hgd0, hgs⟩
    have hpushed : (s1.heap.push go).get? s1.heap.objs.size = some go := hgp _
    have hgdc : ∀ v, go.data ≠ .cell v := fun v q => by rw [hgd0] at q; cases q
    obtain ⟨m, ⟨lo, es, ep, hlo, hld, hlr⟩, hlk⟩ := I1.loc
    have hlo : s1.heap.get? s.heap.objs.size = some lo := hlo
    have hlc : ∀ v, lo.data ≠ .cell v := fun v q => by rw [hld] at q; cases q
    have nH : H s.heap.objs.size = none := I1.free
    have nHa : H s1.heap.objs.size = none := I1.hok.fresh (Nat.le_refl _)
    refine ⟨s1.heap.objs.size, s1.gens.size, _, rfl, lt1, ?_, hgen _ hpushed, Array.getElem?_push_size .., os1, ?_, lim1.keeps fun b o e => Heap.get?_push_of_some _ e, fun b o e => Heap.get?_push_of_some _ (kp1 b o e), N, qual, scope, f, cdv, go, [(s.heap.objs.size, lo), (s1.heap.objs.size, go)], ?_⟩
    · show _ < (s1.heap.push _).objs.size
      rw [Heap.size_push]; exact Nat.lt_succ_self _
    · exact AllBare.push (by rw [gen1]; exact e0.bare) rfl
    intro Aw pa J hJ hrw hfr hpa
    have hpa : ∀ b ∈ pa, s1.heap.objs.size < b := fun b hb => by
      have z := hpa b hb
      have z : (s1.heap.push go).objs.size ≤ b := z
      rw [Heap.size_push] at z
      exact z
    have npa : s.heap.objs.size ∉ pa := fun z => absurd (Nat.lt_trans lt1 (hpa _ z)) (Nat.lt_irrefl _)
    have apa : s1.heap.objs.size ∉ pa := fun z => absurd (hpa _ z) (Nat.lt_irrefl _)
    have okZ : (mkZ P w K mg base N qual scope f cdv s.heap.objs.size Aw outer s.os s1.heap.objs.size s1.gens.size go pa J).Ok :=
      ⟨hfr, hrw.hd, e0.mod, e0.bsz, frl, S.kind, cells_nil nc, fun x k e => ⟨fun z => nc _ (PySem.mem_of_lookup e) z, fun z => S.nofree _ (PySem.mem_of_lookup e) z⟩, lt1, npa, apa, hgc, ⟨nm, qn, hgd0⟩, hgs⟩
    refine ⟨okZ, ⟨fun p hp => ?_, List.mem_cons_of_mem _ List.mem_cons_self⟩, fun n => ?_⟩
    · rcases List.mem_cons.mp hp with rfl | hp
      · exact ⟨Heap.get?_push_of_some _ hlo, nH, Nat.le_refl _, npa, hlc⟩
      · rcases List.mem_cons.mp hp with rfl | hp
        · exact ⟨hpushed, nHa, sz1, apa, hgdc⟩
        · cases hp
    · cases n with
      | zero => trivial
      | succ n =>
        intro s2 H2 pc W hw
        obtain ⟨t, ht, hq⟩ := hbody s.heap.objs.size Aw outer s.os s1.heap.objs.size s1.gens.size go pa J vs H C (hrw.deeper _) hsp hJ
        have I2 : Inv ((mkZ P w K mg base N qual scope f cdv s.heap.objs.size Aw outer s.os s1.heap.objs.size s1.gens.size go pa J).cx ⟨0, cutS s.heap.objs.size s2, H2, pc⟩) [] (start N vs) H2 s2 :=
          woken0 (Z := mkZ P w K mg base N qual scope f cdv s.heap.objs.size Aw outer s.os s1.heap.objs.size s1.gens.size go pa J) okZ (s := s1) ⟨m, ⟨lo, es, ep, hlo, hld, hlr⟩, hlk⟩ I1.len hlo (fun p hp => by cases hp) W
        have oa := anOk_cut (Z := mkZ P w K mg base N qual scope f cdv s.heap.objs.size Aw outer s.os s1.heap.objs.size s1.gens.size go pa J) (i := 0) W
        refine ⟨rfl, sg_func ?_⟩
        refine ht.run n [] _ [] _ _ id id _ s2 (start N vs) H2 _ ⟨okZ, fun p hp => (by cases hp), over_func, rfl, rfl, rfl⟩ ⟨fun n' a' s' fl oa' hs => ?_, fun n' a' e s' oa' hx => ?_⟩ oa I2 (hq _ H2 pc hw)
        · cases fl with
          | next =>
            obtain ⟨σ', H', hI, hQ⟩ := hs
            exact sg_end (.ok (.ret .none)) ⟨rfl, .inl ⟨.inl rfl, H', ret_of oa' hI, hQ⟩⟩
          | brk => obtain ⟨_, _, _, q⟩ := hs; exact False.elim q
          | cont => obtain ⟨_, _, _, q⟩ := hs; exact False.elim q
          | ret u =>
            obtain ⟨v, σ', H', hI, rv, ev, hQ⟩ := hs
            subst ev
            have eu : u = Value.none := rv
            subst eu
            exact sg_end (.ok (.ret .none)) ⟨rfl, .inl ⟨.inl rfl, H', ret_of oa' hI, hQ⟩⟩
        · refine sg_wrap ?_
          rw [over_func]
          refine wpAny_mono (show wpAny (model P w) (Aw.deeper (envOfC qual scope s.heap.objs.size f cdv)) (leaving (envOfC qual scope s.heap.objs.size f cdv) e) (fun _ s'' => CX P w outer a'.H a'.s (Gz.Ex (mkZ P w K mg base N qual scope f cdv s.heap.objs.size Aw outer s.os s1.heap.objs.size s1.gens.size go pa J) a') e s'' ∧ ∀ p ∈ (s1.heap.objs.size, go) :: a'.pn, s''.heap.get? p.1 = some p.2) (fun _ _ => False) s' from hx) (fun _ s'' q => ?_) fun _ s'' q => q.elim
          exact sg_end (.error e) ⟨rfl, .inr ⟨e, rfl, q⟩⟩
  exact main _ _ _ _ rfl rfl rfl fun h => Heap.get?_push_size _ rfl
end Sg


/-! who draws from a generator: its next value; for x in g(..) -/
namespace Sg
open PySem PyProof.Rows GenW L2
theorem bare_dead (x : GenState) : (Slp.dead x).bare = x.bare := by cases x <;> rfl
theorem bare_sw {T : Nat → Option GenState} {G : Array GenState} (v : Slp.Iv T G) (h : AllBare G) : AllBare (Slp.sw T G) := fun y hy => by
  obtain ⟨i, hi, e⟩ := Array.mem_iff_getElem.mp hy
  have q : (Slp.sw T G)[i]? = some y := by rw [Array.getElem?_eq_getElem hi, e]
  rw [Slp.sw_get] at q
  cases g : G[i]? with
  | none => rw [g] at q; cases q
  | some x =>
    rw [g] at q
    have hx := h x (Array.mem_of_getElem? g)
    cases t : T i with
    | none => rw [t] at q; cases q; exact hx
    | some z =>
      rw [t] at q
      cases q
      have e2 := (v.fro i z t).2
      rw [g] at e2
      cases e2
      rw [bare_dead] at hx
      exact hx
theorem bare_hid {s : Shared} (h : AllBare s.gens) : AllBare (Slp.hid s).gens := fun y hy => by
  obtain ⟨x, hx, e⟩ := Array.mem_map.mp (show y ∈ s.gens.map Slp.dead from hy)
  rw [← e, bare_dead]
  exact h x hx
section
variable {X : Cx} {pins : List (Addr × Obj)} {σ : L2.St} {H : Hp} {s sh : Shared}
theorem inv_sw {T : Nat → Option GenState} (I : Inv X pins σ H sh) (v : Slp.Iv T sh.gens) : Inv X pins σ H (Slp.swS T sh) :=
  ⟨I.ok, I.os, bare_sw v I.bare, I.base, I.loc, I.cell, I.free, I.freeC, I.pin, I.hok, I.len⟩
theorem inv_hid (I : Inv X pins σ H s) : Inv X pins σ H (Slp.hid s) :=
  ⟨I.ok, I.os, bare_hid I.bare, I.base, I.loc, I.cell, I.free, I.freeC, I.pin, I.hok, I.len⟩
theorem swp {α : Type} {M : Model} {A : Around} {t : Sem α} {Q : α → Shared → Prop} {E : Value → Shared → Prop} {T : Nat → Option GenState} (v : Slp.Iv T sh.gens) (h : wpAny M A t Q E sh) :
    wpAny M A t (fun a s' => ∃ sh', Slp.Iv T sh'.gens ∧ s' = Slp.swS T sh' ∧ Q a sh') (fun e s' => ∃ sh', Slp.Iv T sh'.gens ∧ s' = Slp.swS T sh' ∧ E e sh') (Slp.swS T sh) :=
  fun Γ p hΓ => Slp.wp_swap M T Γ t _ _ p sh v (h Γ p hΓ)
/-- one that slept, sleeps as before -/
theorem sw_still {T : Nat → Option GenState} {g : Nat} {x : GenState} (v : Slp.Iv T sh.gens) (h : T g = some x) : (Slp.swS T sh).gens[g]? = some x := by
  show (Slp.sw T sh.gens)[g]? = some x
  rw [Slp.sw_get, (v.fro g x h).2, h] <;> rfl
theorem tab_susp {g : Nat} {k : Resume → Sem PySem.Fin} {l : List Value} {c : Code} {p : Pos} {fs : List Frame} {cl : Bool} (h : s.gens[g]? = some (.suspended k l c p fs cl)) : Slp.tab s.gens g = some (.suspended k l c p fs cl) := by
  unfold Slp.tab
  rw [h]
end
/-- an exception that is wished for is wished for whatever sleeps -/
def SwX (X : Cx) : Prop := ∀ (T : Nat → Option GenState) (e : Value) (sh : Shared), Slp.Iv T sh.gens → X.xe e sh → X.xe e (Slp.swS T sh)
/-- where the consumer's own things stand: ahead of the generator's, or pinned -/
structure Con (X : Cx) (pins : List (Addr × Obj)) (n : Nat) (pa td : List Addr) : Prop where
  ent : ∀ b o, X.s_0.heap.get? b = some o → b < n ∨ b ∈ X.ex ∨ b ∈ td
  td : ∀ b ∈ td, X.H_0 b ≠ none
  loc : (X.env.locals < n ∧ X.env.locals ∈ frs X.stack) ∨ X.env.locals ∈ pa
  cel : ∀ x c, X.env.cells.lookup x = some c → c < n
  pin : ∀ p ∈ X.pn ++ pins, p.1 < n ∨ p.1 ∈ pa
section
variable {X : Cx} {pins : List (Addr × Obj)} {σ : L2.St} {H H1 : Hp} {s s1 s2 : Shared} {n : Nat} {pa td : List Addr}
theorem objOk_there {P : Program} {w : World} {H : Hp} {h : Heap} {b : Addr} {u : HO} (x : ObjOk P w H h b u) : ∃ o, h.get? b = some o := by
  cases u with
  | lst xs => obtain ⟨_, _, _, _, e⟩ := x; exact ⟨_, e⟩
  | tup xs => obtain ⟨_, _, _, o, e, _⟩ := x; exact ⟨_, e⟩
  | dK kvs => obtain ⟨_, _, _, _, o, _, _, e, _⟩ := x; exact ⟨_, e⟩
  | dT kvs => obtain ⟨_, _, _, _, o, _, _, e, _⟩ := x; exact ⟨_, e⟩
  | set S n => obtain ⟨o, _, _, _, e, _⟩ := x; exact ⟨_, e⟩
  | ins C dx fs => obtain ⟨_, _, _, e, _⟩ := x; exact ⟨_, e⟩
  | own y => exact x
  | xd fs => obtain ⟨_, ⟨_, _, _, e, _⟩, _⟩ := x; exact ⟨_, e⟩
  | rng lo hi => obtain ⟨_, _, _, e⟩ := x; exact ⟨_, e⟩
  | frz ob u => obtain ⟨e, _⟩ := x; exact ⟨_, e⟩
  | tbl ps => exact ⟨_, show h.get? b = some _ from x⟩
  | met f y => exact ⟨_, show h.get? b = some _ from x⟩
  | ext φ => obtain ⟨_, e, _⟩ := x; exact e
theorem fs_sub (I : Inv X pins σ H s) : ∀ b ∈ X.fs, b ∈ frs X.stack := fun b hb => by
  rcases I.ok.stk with e | ⟨e, hf⟩
  · rw [e]; exact hb
  · rw [e]
    unfold frs
    rw [List.filterMap_cons, hf]
    exact List.mem_cons_of_mem _ hb
/-- behind a segment of the generator the consumer's invariant stands -/
theorem gen_back (I : Inv X pins σ H s) (C : Con X pins n pa td) (htd : ∀ b ∈ td, H1 b ≠ none) (hn : n ≤ s.heap.objs.size) (hok : HOk X.prog X.w H1 s1.heap) (un : Un (frs X.stack) [] H H1 (cutH n s.heap) s1.heap)
    (hpc : ∀ b ∈ pa, ∀ o, s.heap.get? b = some o → s1.heap.get? b = some o ∧ H1 b = none) (os : s1.os = s.os) (h2 : s2.heap = s1.heap) (o2 : s2.os = s1.os) (b2 : AllBare s2.gens) : Inv X pins σ H1 s2 := by
  have low : ∀ {b : Addr} {o : Obj}, s.heap.get? b = some o → b < n → (cutH n s.heap).get? b = some o := fun {b o} e l => by rw [cutH_get l]; exact e
  have entl : ∀ b o, X.s_0.heap.get? b = some o → b ∉ X.ex → X.H_0 b = none → b < n := fun b o e hx nh => (C.ent b o e).resolve_right fun z => z.elim hx fun z => C.td b z nh
  have neL : ∀ b o, X.s_0.heap.get? b = some o → b ≠ X.env.locals := fun b o e => Nat.ne_of_lt (Nat.lt_of_lt_of_le (Heap.lt_size e) I.ok.above)
  have nst : ∀ b, b ≠ X.env.locals → b ∉ X.fs → b ∉ frs X.stack := fun b h1 h2 h3 => by
    rcases List.mem_cons.mp (I.stkSub b h3) with z | z
    · exact h1 z
    · exact h2 z
  obtain ⟨m, ⟨lo, es, ep, hlo, hld, hlr⟩, hlk⟩ := I.loc
  have hl1 : (∃ sl, s1.heap.get? X.env.locals = some { lo with slots := sl }) ∧ H1 X.env.locals = none := by
    rcases C.loc with ⟨l, _⟩ | l
    · exact ⟨un.any (low hlo l) I.free (by simp), un.free _ lo (low hlo l) I.free (by simp)⟩
    · obtain ⟨z1, z2⟩ := hpc _ l lo hlo
      exact ⟨⟨lo.slots, z1⟩, z2⟩
  have hc1 : ∀ x c, X.env.cells.lookup x = some c → ∀ v, s.heap.IsCell c v → s1.heap.IsCell c v := fun x c e v ⟨o, ho, hd⟩ => by
    obtain ⟨sl, q⟩ := un.any (low ho (C.cel x c e)) (I.freeC x c e) (by simp)
    exact ⟨_, q, hd⟩
  refine ⟨I.ok, o2.trans (os.trans I.os), b2, ?_, ?_, ?_, hl1.2, ?_, ?_, by rw [h2]; exact hok, I.len⟩
  · rw [h2]
    refine ⟨fun b o q nh hb hx => ?_, fun b o q nh hb hx => ?_, fun b o q nh hx => ?_, fun b o q hx => ?_, fun b xs q => un.tups b xs (I.base.tups b xs q), fun b o u q => un.frzs b o u (I.base.frzs b o u q), fun b ps q => ?_⟩
    · exact un.keep b o (low (I.base.keep b o q nh hb hx) (entl b o q hx nh)) (I.base.free b o q nh hx) (nst b (neL b o q) hb) (by simp)
    · obtain ⟨sl, e⟩ := I.base.slot b o q nh hb hx
      obtain ⟨sl', e'⟩ := un.slot b _ (low e (entl b o q hx nh)) (I.base.free b o q nh hx) (fs_sub I b hb) (by simp)
      exact ⟨sl', e'⟩
    · obtain ⟨o', e⟩ := I.base.there b o q hx
      exact un.free b o' (low e (entl b o q hx nh)) (I.base.free b o q nh hx) (by simp)
    · obtain ⟨o', e⟩ := I.base.there b o q hx
      rcases C.ent b o q with l | z | z
      · exact un.there b o' (low e l) (by simp)
      · exact absurd z hx
      · cases qh : H1 b with
        | none => exact absurd qh (htd b z)
        | some u =>
          have lt := hok.lt qh
          have ob := hok b u qh
          exact objOk_there ob
    · obtain ⟨m1, e1⟩ := I.base.tbls b ps q
      obtain ⟨m2, e2⟩ := un.tbls b _ e1
      exact ⟨m1 ++ m2, by rw [e2, Array.append_assoc]⟩
  · obtain ⟨sl, e⟩ := hl1.1
    refine ⟨m, by rw [h2]; exact ⟨_, es, ep, e, hld, hlr⟩, fun i x v e1 e2 e3 => ?_⟩
    obtain ⟨u, r, q⟩ := hlk i x v e1 e2 e3
    refine ⟨u, r, ?_⟩
    rcases q with q | ⟨k, c, ec, hcl⟩
    · exact .inl q
    · exact .inr ⟨k, c, ec, by rw [h2]; exact hc1 x c ec _ hcl⟩
  · intro x c e
    obtain ⟨v, q⟩ := I.cell x c e
    exact ⟨v, by rw [h2]; exact hc1 x c e v q⟩
  · intro x c e
    obtain ⟨v, o, ho, _⟩ := I.cell x c e
    exact un.free c o (low ho (C.cel x c e)) (I.freeC x c e) (by simp)
  · intro p hp
    obtain ⟨p1, p2, p3, p4, p5⟩ := I.pin p hp
    rw [h2]
    rcases C.pin p hp with l | l
    · exact ⟨un.keep _ _ (low p1 l) p2 (nst _ p3 p4) (by simp), un.free _ _ (low p1 l) p2 (by simp), p3, p4, p5⟩
    · obtain ⟨z1, z2⟩ := hpc _ l _ p1
      exact ⟨z1, z2, p3, p4, p5⟩
end
abbrev zOf (X : Cx) (N : List Str) (qual : Str) (scope : Scope) (f : Addr) (cd : Value) (n : Nat) (os : OsState) (ag : Addr) (g : Nat) (go : Obj) (pa : List Addr) (J : It2) : Gz :=
  mkZ X.prog X.w X.K X.mg X.base N qual scope f cd n X.A.in1 X.stack os ag g go pa J
theorem slp_le {Z : Gz} : ∀ (n m i : Nat) (gs : GenState) (ks : List (Addr × Obj)) (Hs : Hp), n ≤ m → Z.Slp m i gs ks Hs → Z.Slp n i gs ks Hs
  | 0, _, _, _, _, _, _, _ => trivial
  | n + 1, 0, _, _, _, _, h, _ => absurd h (Nat.not_succ_le_zero n)
  | n + 1, m + 1, i, gs, ks, Hs, h, x => fun s H pc W hw => by
    have z := x s H pc W hw
    have mono : ∀ e s', PhiW Z (Z.Slp m) ⟨i, cutS Z.n s, H, pc⟩ e s' → PhiW Z (Z.Slp n) ⟨i, cutS Z.n s, H, pc⟩ e s' := fun e s' ⟨q, y⟩ => by
      refine ⟨q, ?_⟩
      cases e with
      | ret r => exact y
      | susp v g l k c p fs =>
        obtain ⟨a, xx, H1, ks1, b1, b2, b3, b4, b5⟩ := y
        exact ⟨a, xx, H1, ks1, b1, b2, b3, b4, slp_le n m _ _ _ _ (Nat.le_of_succ_le_succ h) b5⟩
    cases gs with
    | fresh c => exact ⟨z.1, sg_mono z.2 mono⟩
    | suspended k l c p fs cl => exact sg_mono (show SegG _ _ _ _ _ _ _ from z) mono
    | running => exact z
    | finished => exact z
theorem pinsAt_map {h : Heap} : ∀ {fp : List Addr}, (∀ b ∈ fp, ∃ o, h.get? b = some o) → (pinsAt fp h).map (·.1) = fp
  | [], _ => rfl
  | b :: fp, hh => by
    obtain ⟨o, e⟩ := hh b List.mem_cons_self
    unfold pinsAt
    rw [List.filterMap_cons, e]
    show b :: ((fp.filterMap fun b => (h.get? b).map fun o => (b, o)).map (·.1)) = b :: fp
    congr 1
    exact pinsAt_map fun c hc => hh c (List.mem_cons_of_mem _ hc)
section
variable {X : Cx} {pins : List (Addr × Obj)} {σ : L2.St} {H : Hp} {s : Shared} {N : List Str} {qual : Str} {scope : Scope} {f : Addr} {cd : Value} {n : Nat} {os : OsState} {ag : Addr} {g : Nat} {go : Obj} {pa td : List Addr} {J : It2}
/-- what sleeps may be pinned -/
theorem ks_pin {ks : List (Addr × Obj)} (I : Inv X pins σ H s) (C : Con X pins n pa td) (ok : (zOf X N qual scope f cd n os ag g go pa J).Ok) (k : KsOk (zOf X N qual scope f cd n os ag g go pa J) ks H s) :
    ∀ p ∈ ks, s.heap.get? p.1 = some p.2 ∧ H p.1 = none ∧ p.1 ≠ X.env.locals ∧ p.1 ∉ X.fs ∧ ∀ v, p.2.data ≠ .cell v := fun p hp => by
  obtain ⟨h1, h2, h3, h4, h5⟩ := k.at_ p hp
  have h3 : n ≤ p.1 := h3
  have h4 : p.1 ∉ pa := h4
  refine ⟨h1, h2, fun e => ?_, fun hm => ?_, h5⟩
  · rcases C.loc with ⟨l, _⟩ | l
    · rw [← e] at l; exact absurd (Nat.lt_of_lt_of_le l h3) (Nat.lt_irrefl _)
    · rw [← e] at l; exact h4 l
  · exact absurd (Nat.lt_of_lt_of_le (ok.frl p.1 (fs_sub I p.1 hm)) h3) (Nat.lt_irrefl _)
/-- THE DRAW: the generator's next value, or its end -/
theorem gen_next {Hs : Hp} {i m : Nat} {gs : GenState} {ks : List (Addr × Obj)} {E : Value → Shared → Prop} (hc : X.calm = true) (hd : X.A.depth < recursionLimit) (I : Inv X pins σ H s) (ok : (zOf X N qual scope f cd n os ag g go pa J).Ok) (C : Con X pins n pa td)
    (hpa : ∀ b ∈ pa, ∃ o, s.heap.get? b = some o ∧ H b = none ∧ b ∉ frs X.stack ∧ ∀ v, o.data ≠ .cell v) (hks : KsOk (zOf X N qual scope f cd n os ag g go pa J) ks H s) (hgs : s.gens[g]? = some gs)
    (hsl : (zOf X N qual scope f cd n os ag g go pa J).Slp (m + 1) i gs ks Hs) (hw : J.wk i Hs H) (hos : s.os = os) (hno : ∀ cls d H', ¬ J.ex i H cls d H') (hst : ∀ b ∈ td, (∀ x H1, J.yld i H x H1 → H1 b ≠ none) ∧ ∀ H1, J.fin i H H1 → H1 b ≠ none) :
    wpAny (model X.prog X.w) X.A (pyNext (.ref ag)) (fun r s1 => match r with
      | none => ∃ H1, Inv X pins σ H1 s1 ∧ J.fin i H H1
      | some v => ∃ x H1 gs1 ks1, Inv X pins σ H1 s1 ∧ RelV x v ∧ J.yld i H x H1 ∧ s1.gens[g]? = some gs1 ∧ (∃ k l c p fs cl, gs1 = .suspended k l c p fs cl) ∧ KsOk (zOf X N qual scope f cd n os ag g go pa J) ks1 H1 s1 ∧
          (zOf X N qual scope f cd n os ag g go pa J).Slp m (i + 1) gs1 ks1 H1) E s := by
  have hag : s.heap.IsGen ag g := ok.isGen (hks.at_ _ hks.ag).1
  have hn : n ≤ s.heap.objs.size := Nat.le_of_lt (Nat.lt_trans ok.agn (Heap.lt_size (hks.at_ _ hks.ag).1))
  have hgl : g < s.gens.size := (Array.getElem?_eq_some_iff.mp hgs).1
  have hba : AllBare (s.setGen g .running).gens := allBare_setGen I.bare rfl
  have W : Woke (zOf X N qual scope f cd n os ag g go pa J) ks H (pinsAt pa s.heap) (s.setGen g .running) :=
    ⟨hos, hba, I.bs, I.stack, I.stkFree, I.hok, fun p hp => let z := hks.at_ p hp; ⟨z.1, z.2.1⟩, pinsAt_map (h := s.heap) fun b hb => let ⟨o, e, _⟩ := hpa b hb; ⟨o, e⟩, fun p hp => by
      obtain ⟨hb, e⟩ := of_pinsAt hp
      obtain ⟨o, e', h1, h2, h3⟩ := hpa p.1 hb
      rw [e] at e'
      cases e'
      exact ⟨e, h1, h2, h3⟩⟩
  have go0 := hsl (s.setGen g .running) H (pinsAt pa s.heap) W hw
  have back : ∀ {H1 : Hp} {s1 s2 : Shared}, Ret (zOf X N qual scope f cd n os ag g go pa J) ⟨i, cutS n (s.setGen g .running), H, pinsAt pa s.heap⟩ H1 s1 → (∀ b ∈ td, H1 b ≠ none) → s2.heap = s1.heap → s2.os = s1.os → AllBare s2.gens → Inv X pins σ H1 s2 := fun {H1 s1 s2} R ht h2 o2 b2 =>
    gen_back I C ht hn R.hok R.un (fun b hb o e => R.pin (b, o) (List.mem_cons_of_mem _ (mem_pinsAt hb e))) (R.os.trans hos.symm) h2 o2 b2
  refine GenW.wpAny_gsz (n := g + 1) hgl ?_
  refine next_segG (A := X.A) (I.ok.hd hc) I.nolimit hd hag hgs go0 (fun v s1 gs1 hb y => ?_) (fun s1 y h' hk => ?_) fun e s1 y => ?_
  · intro hsz
    obtain ⟨hsus, x, H1, ks1, rv, R, hy, hk1, hs1⟩ := y
    refine ⟨x, H1, gs1, ks1, back R (fun b hb => (hst b hb).1 _ _ hy) rfl rfl (allBare_setGen R.bare hb), rv, hy, ?_, hsus, ⟨fun p hp => hk1.at_ p hp, hk1.ag⟩, hs1⟩
    show (s1.gens.setIfInBounds g gs1)[g]? = some gs1
    have hl : g < s1.gens.size := by
      have q : (s1.setGen g gs1).gens.size = s1.gens.size := GenW.setGen_size _ _ _
      rw [q] at hsz
      exact hsz
    rw [Array.getElem?_setIfInBounds_self_of_lt hl]
  · intro _
    obtain ⟨H1, R, hf⟩ := y
    have I1 : Inv X pins σ H1 (s1.setGen g .finished) := back R (fun b hb => (hst b hb).2 _ hf) rfl rfl (allBare_setGen R.bare rfl)
    exact ⟨H1, I1.kept (t' := (s1.setGen g .finished).toks) hk, hf⟩
  · obtain ⟨⟨a, B, H', cls, d, _, _, _, _, _, _, _, hE⟩, _⟩ := y
    exact absurd hE.1 (hno cls d H')
end
end Sg


/-! for x in g(..); [.. for x in g(..)] -/
namespace Sg
open PySem PyProof.Rows GenW L2
abbrev TGen2 := L2.St → Hp → ((It2 → Prop) → Hp → Prop) → Prop
structure PGen2 (X : Cx) (k : Nat) (e : Expr) (tg : TGen2) : Prop where
  run : ∀ (pins : List (Addr × Obj)) (s : Shared) (σ : L2.St) (H : Hp) (R : (It2 → Prop) → Hp → Prop) (E : Value → Shared → Prop), (∀ e s, X.xe e s → E e s) → Inv X pins σ H s → tg σ H R → wpAny (model X.prog X.w) X.A (eval e X.env)
    (fun u s' => ∃ H1 sc J, Inv X pins σ H1 sc ∧ GMade2 X.prog X.w X.K X.mg X.base k X.stack H1 sc J u s' ∧ R J H1) E s
section
variable {X : Cx} {k : Nat} {f C : Addr} {fd : FuncData} {ps : List Str} {sp : SpG2} {dvs : List V} {ds : List Value} {x m : Str} {p pos pos' apos : Pos} {o e : Expr} {es : List Expr} {ta : TE} {t : TA}
theorem run_gfn2 {pins : List (Addr × Obj)} {σ : L2.St} {H : Hp} {s : Shared} {us : List Value} {vs : List V} {J : It2 → Prop} {E1 : Value → Shared → Prop} (F : GFn2 X.prog X.w X.K X.mg X.base k f fd ps sp) (hr : Room k X.A) (hb : Binds X.K fd ps ds) (hd : Vals dvs ds)
    (I : Inv X pins σ H s) (r : Vals vs us) (h : sp (vs ++ dvs) H J) :
    wpAny (model X.prog X.w) X.A (call (.ref f) us) (fun u s' => GMade2 X.prog X.w X.K X.mg X.base k X.stack H s J u s') E1 s := by
  have r2 : Vals (vs ++ dvs) (us ++ ds) := r.append hd
  have hl2 : (us ++ ds).length = ps.length := by rw [← r2.length]; exact F.len _ _ _ h
  refine wpAny_call (codeAny_mono (F.run X.A X.stack s H ⟨us, []⟩ (us ++ ds) (vs ++ dvs) J hr I.env0 (hb s us I.kIn hl2) r2 h) fun r s' hq => ?_)
  cases r with
  | error e => exact False.elim hq
  | ok fl =>
    cases fl with
    | ret u => exact hq
    | next => exact False.elim hq
    | brk => exact False.elim hq
    | cont => exact False.elim hq
def tCallG2 (sp : SpG2) (dvs : List V) (t : TA) : TGen2 := fun σ H R => t σ H fun vs H1 => ∃ C, sp (vs ++ dvs) H1 C ∧ R C H1
/-- f(e, ..) of a generator def -/
theorem pgen2_call (F : GFn2 X.prog X.w X.K X.mg X.base k f fd ps sp) (hr : Room k X.A) (hg : Gl X x) (hm : X.mg x = some (.ref f)) (hk : PySem.W.keepIn X.K (.ref f) = true) (hb : Binds X.K fd ps ds) (hd : Vals dvs ds)
    (ha : PA X (e :: es) t) (hdb : (x == ("__debug__" : Str)) = false := by decide) (he : starEach (e :: es) X.env = (false, eval e X.env) :: starEach es X.env := by rfl) (hpl : (backTo pos' (starEach es X.env)).any (·.1) = false := by rfl) :
    PGen2 X k (.Call (.Name x p) (e :: es) [] pos') (tCallG2 sp dvs t) := by
  refine ⟨fun pins s σ H R E hE I h => wpAny_mono (E := X.xe) ?_ (fun _ _ q => q) hE⟩
  refine wpAny_Call_Name_kw (ld_glob I hg hm ?_ hdb)
  refine PySem.W.callWith_K (h₀ := X.base) I.ok.mod.kin hk (thn (ha.run pos' pins s σ H _ I h) fun us s1 ⟨vs, H1, I1, r, J, hsp, hR⟩ => ⟨I1.kIn, ?_⟩) he hpl
  exact wpAny_mono (run_gfn2 (E1 := X.xe) F hr hb hd I1 r hsp) (fun u s' q => ⟨H1, s1, J, I1, q, hR⟩) fun _ _ z => z
def tMethG2 (C : Addr) (m : Str) (sp : SpG2) (dvs : List V) (ta : TE) (t : TA) : TGen2 := fun σ H R => ta σ H fun x H1 => ∃ a dx fs, x = .ref a ∧ H1 a = some (.ins C dx fs) ∧ fs.lookup m = none ∧
  t σ H1 fun vs H2 => ∃ J, sp (x :: (vs ++ dvs)) H2 J ∧ R J H2
end
theorem swpF {α : Type} {M : Model} {A : Around} {t : Sem α} {Q : α → Shared → Prop} {T : Nat → Option GenState} {sh : Shared} (v : Slp.Iv T sh.gens) (h : wpAny M A t Q (fun _ _ => False) sh) :
    wpAny M A t (fun a s' => ∃ sh', Slp.Iv T sh'.gens ∧ s' = Slp.swS T sh' ∧ Q a sh') (fun _ _ => False) (Slp.swS T sh) :=
  wpAny_mono (swp v h) (fun _ _ q => q) fun _ _ ⟨_, _, _, q⟩ => q
theorem inv_made {X : Cx} {pins : List (Addr × Obj)} {σ : L2.St} {H : Hp} {sc s' : Shared} {k : Nat} {J : It2 → Prop} {u : Value} (I : Inv X pins σ H sc) (G : GMade2 X.prog X.w X.K X.mg X.base k X.stack H sc J u s') : Inv X pins σ H s' := by
  obtain ⟨a, g, c, _, _, _, _, _, os, hb, _, kp, _⟩ := G
  exact I.call' (ch := []) os (Un.kept kp) (I.hok.kept kp) hb fun b z => by simp at z
section
variable {X : Cx}
def tForG (tg : TGen2) (g : TG) (tb : TS) : TS := fun D σ H => tg σ H fun C H1 => ∃ J, C J ∧ ∃ W : Nat → Nat → Hp → L2.St → Hp → Prop, (∃ m, W 0 m H1 σ H1) ∧ ∀ i m Hs σ H, W i m Hs σ H →
  J.wk i Hs H ∧ (∀ cls d H', ¬ J.ex i H cls d H') ∧ (∀ H', J.fin i H H' → D.nx σ H') ∧ ∀ x H', J.yld i H x H' → ∃ N : L2.St → Hp → Prop, (∀ σ' H'', N σ' H'' → ∃ m', m' < m ∧ W (i + 1) m' H' σ' H'') ∧
    g x σ H' fun σ2 H2 => tb { D with nx := N, ct := N, bk := D.nx } σ2 H2
end
end Sg


/-! [.. for x in g(..)] -/
namespace Sg
open PySem PyProof.Rows GenW L2
theorem cells_acc_nil : ∀ {names : List (Str × NameKind)} {n : Nat} {acc : List (Str × Addr)}, (∀ y ∈ names, y.2 ≠ .cell) → cellsFrom n names acc = acc
  | [], _, _, _ => rfl
  | (x, k) :: r, n, acc, h => by
    unfold cellsFrom
    rw [if_neg fun z => h (x, k) List.mem_cons_self (by simpa using z)]
    exact cells_acc_nil fun y hy => h y (List.mem_cons_of_mem _ hy)
/-- the objects between n and m -/
def rng (n m : Nat) : List Addr := (List.range m).filter fun b => decide (n ≤ b)
theorem mem_rng {n m b : Nat} : b ∈ rng n m ↔ n ≤ b ∧ b < m := by
  unfold rng
  rw [List.mem_filter, List.mem_range, decide_eq_true_iff]
  exact and_comm
section
variable {X : Cx}
def tLcG (tgen : TGen2) (g : TG) (tt : TT) (te : TE) (vs : List Nat) : TE := fun σ H Q => tgen σ H fun C H1 => ∀ D, H1 D = none → ∃ J, C J ∧ ∃ W : Nat → Nat → Hp → Hp → Prop, (∃ m, W 0 m H1 (upd H1 D (.lst []))) ∧ ∀ i m Hs H, W i m Hs H →
  J.wk i Hs H ∧ (∀ cls d H', ¬ J.ex i H cls d H') ∧ (∀ H', J.fin i H H' → H' D ≠ none ∧ Q (.ref D) H') ∧ ∀ x H', J.yld i H x H' → H' D ≠ none ∧ ∃ Nx : Hp → Prop, (∀ H'', Nx H'' → ∃ m', m' < m ∧ W (i + 1) m' H' H'') ∧
    g x (wipe σ vs) H' fun σ2 H2 => wipe σ2 vs = wipe σ vs ∧ tt σ2 H2 fun b H3 =>
      if b = true then te σ2 H3 fun y H4 => ∃ acc, H4 D = some (.lst acc) ∧ acc.length < sizeLine ∧ Nx (upd H4 D (.lst (acc ++ [y]))) else Nx H3
theorem lcG_core {k : Nat} {pins : List (Addr × Obj)} {s : Shared} {σ : L2.St} {H : Hp} {Q : VK} {elt tg iter : Expr} {ifs : List Expr} {scope : Scope} {own : List (Str × Nat)} {pos pos' : Pos} {tgen : TGen2} {g : TG} {tt : TT} {te : TE} {use : Option (Value → Sem Unit)} {Qf : Value → Shared → Prop}
    (hc : X.calm = true) (hr : Room (k + 1) X.A) (hN : X.N.Nodup) (I : Inv X pins σ H s) (hi : PGen2 X k iter tgen) (ok : BlkOk X.N X.env.scope scope own) (hnc : ∀ y ∈ scope.names, y.2 ≠ .cell)
    (hg : ∀ (s : Shared) (H : Hp) (C : Addr) (cl : List (Str × Addr)) (fp : List Addr), PG (X.blk s H scope (compEnvC scope cl C X.env) fp) tg g) (ht : ∀ (s : Shared) (H : Hp) (C : Addr) (cl : List (Str × Addr)) (fp : List Addr), PTs (X.blk s H scope (compEnvC scope cl C X.env) fp) ifs tt)
    (he : ∀ (s : Shared) (H : Hp) (C : Addr) (cl : List (Str × Addr)) (fp : List Addr), PE (X.blk s H scope (compEnvC scope cl C X.env) fp) elt te) (hs : ∀ x, foldedSetIterable iter X.env x = pure x)
    (h : tLcG tgen g tt te (own.map (·.2)) σ H Q)
    (hRR : ∀ D C s' m H', Inv X pins σ H' s' → Q (.ref D) H' → s'.heap.Ns C m → FpOk X pins H' C → compPost (model X.prog X.w) X.A X.xe use Qf (.ref D) C (.ok .next) s') :
    wpAny (model X.prog X.w) X.A (comprehension (.ListComp elt [⟨tg, iter, ifs, 0⟩] scope pos) scope X.env pos' (newList []) false (eval iter X.env) use) Qf X.xe s := by
  have hfree : ∀ y ∈ scope.names, y.2 = .free → ∃ c, X.env.cells.lookup y.1 = some c := fun y hy e => by
    rcases ok.free y hy e with k | k
    · exact I.ok.has _ (.inl k)
    · exact I.ok.has _ (.inr k)
  refine wpAny_comprehension_free (use := use) rfl hs (closure_ok hfree) ok.kind (fun y hy e => by rw [ok.uniq y hy, e])
    (thn (hi.run pins s σ H _ X.xe (fun _ _ q => q) I h) fun u s1 ⟨H2, sc, CJ, Isc, G, q⟩ => ?_)
  have I2 := inv_made Isc G
  obtain ⟨ag, gn, c, rfl, hag0, hag1, hgen, hgs, hos, hba, hlim, hkp, N, qual, scope', f, cd, go, ks, mk⟩ := G
  refine wpAny_pyIter_gen hgen ?_
  refine wpAny_newObj_type (newEnv_comp ?_) (by show 0 ≤ sizeLine; decide)
  generalize hD : s1.heap.objs.size = D
  have hDn : H2 D = none := I2.hok.fresh (Nat.le_of_eq hD)
  obtain ⟨J, hJ, W, ⟨m0, w0⟩, turn⟩ := q D hDn
  have hsc1 : sc.heap.objs.size ≤ D := by rw [← hD]; exact Nat.le_of_lt (Nat.lt_trans hag0 hag1)
  -- the new list
  generalize hs3 : ({ s1 with heap := s1.heap.push { cls := .type "list", data := .seq ([] : List Value).toArray } } : Shared) = s3
  have I3 : Inv X pins σ (upd H2 D (.lst [])) s3 := by
    rw [← hs3]
    refine I2.laid (t' := s1.toks) (fun b o e => Heap.get?_push_of_some _ e) (Nat.le_of_eq hD) ⟨Nat.zero_le _, [], 0, .nil, ?_⟩
    rw [← hD]
    exact Heap.get?_push_size _ rfl
  have h3 : s3.heap = s1.heap.push { cls := .type "list", data := .seq ([] : List Value).toArray } := by rw [← hs3]
  have sz3 : s3.heap.objs.size = D + 1 := by rw [h3, Heap.size_push, hD]
  have g3 : s3.gens = s1.gens := by rw [← hs3]
  have f3 : ∀ b ∈ rng sc.heap.objs.size D, FpOk X pins (upd H2 D (.lst [])) b ∧ b < s3.heap.objs.size := fun b hb => by
    obtain ⟨h1, h2⟩ := mem_rng.mp hb
    have nb : H2 b = none := by
      cases qh : H2 b with
      | none => rfl
      | some u => exact absurd (Nat.lt_of_lt_of_le (Isc.hok.lt qh) h1) (Nat.lt_irrefl _)
    refine ⟨Isc.fpOk h1 (by rw [upd_ne (Nat.ne_of_lt h2)]; exact nb), by rw [sz3]; exact Nat.lt_succ_of_lt h2⟩
  have I4 := block_start I3 ok hN f3
  have pg := hg s3 (upd H2 D (.lst [])) s3.heap.objs.size (cellsFrom (s3.heap.objs.size + 1) scope.names (cloFrom X.env.cells scope.names [])) (rng sc.heap.objs.size D)
  have pt := ht s3 (upd H2 D (.lst [])) s3.heap.objs.size (cellsFrom (s3.heap.objs.size + 1) scope.names (cloFrom X.env.cells scope.names [])) (rng sc.heap.objs.size D)
  have pe := he s3 (upd H2 D (.lst [])) s3.heap.objs.size (cellsFrom (s3.heap.objs.size + 1) scope.names (cloFrom X.env.cells scope.names [])) (rng sc.heap.objs.size D)
  show codeAny _ _ (.compStart (.ListComp elt [⟨tg, iter, ifs, 0⟩] scope pos) 0 (.ref ag) (.ref D) (compEnvC scope (cellsFrom (s3.heap.objs.size + 1) scope.names (cloFrom X.env.cells scope.names [])) s3.heap.objs.size X.env)) (compPost (model X.prog X.w) X.A X.xe use Qf (.ref D) s3.heap.objs.size) { s3 with heap := pushCells (s3.heap.push { cls := .type "dict", data := .dict #[] }) scope.names }
  generalize hce : compEnvC scope (cellsFrom (s3.heap.objs.size + 1) scope.names (cloFrom X.env.cells scope.names [])) s3.heap.objs.size X.env = ce at I4 pg pt pe ⊢
  have cL : ce.locals = s3.heap.objs.size := by subst hce; rfl
  have cC : ∀ x c, ce.cells.lookup x = some c → c < sc.heap.objs.size := fun x c e => by
    have e : (cellsFrom (s3.heap.objs.size + 1) scope.names (cloFrom X.env.cells scope.names [])).lookup x = some c := by subst hce; exact e
    rw [cells_acc_nil hnc] at e
    rcases cloFrom_mem (PySem.mem_of_lookup e) with hm | ⟨z1, rfl⟩
    · cases hm
    · obtain ⟨c', hc'⟩ := hfree _ z1 rfl
      rw [hc']
      obtain ⟨v, z⟩ := Isc.cell _ _ hc'
      exact z.lt
  generalize hH3 : upd H2 D (.lst []) = H3 at I3 I4 pg pt pe w0 f3
  have H3D : H3 D ≠ none := by rw [← hH3, upd_same]; exact fun z => by cases z
  generalize hs4 : ({ s3 with heap := pushCells (s3.heap.push { cls := .type "dict", data := .dict #[] }) scope.names } : Shared) = s4 at I4 ⊢
  have g4 : s4.gens = s1.gens := by rw [← hs4]; exact g3
  have kp4 : ∀ b o, s1.heap.get? b = some o → s4.heap.get? b = some o := fun b o e => by
    rw [← hs4]
    refine pushCells_keeps _ _ _ _ (Heap.get?_push_of_some _ ?_)
    rw [h3]
    exact Heap.get?_push_of_some _ e
  obtain ⟨okz, kso, slp⟩ := mk X.A.in1 [D + 1] J hJ ⟨hr.hd, by have := hr.dp; show X.A.depth + 3 * k + 5 < _; omega, by have := hr.un; show X.A.units + 1 + 16 * k + 200 < _; omega⟩ I2.ok.frames (fun b hb => by
    rw [List.mem_singleton.mp hb, hD]; exact Nat.le_succ _)
  have hLfr : D + 1 ∉ frs X.stack := fun z => absurd (Nat.lt_of_lt_of_le (okz.frl _ z) (Nat.le_succ_of_le hsc1)) (Nat.lt_irrefl _)
  have C : Con (X.blk s3 H3 scope ce (rng sc.heap.objs.size D)) [] sc.heap.objs.size [D + 1] [D] := by
    refine ⟨fun b o e => ?_, fun b hb => by rw [List.mem_singleton.mp hb]; exact H3D, .inr (by show ce.locals ∈ _; rw [cL, sz3]; exact List.mem_singleton.mpr rfl), cC, fun p hp => absurd (show p ∈ ([] : List (Addr × Obj)) ++ [] from hp) (by simp)⟩
    have l : b < s3.heap.objs.size := Heap.lt_size e
    rw [sz3] at l
    rcases Nat.lt_or_ge b sc.heap.objs.size with z | z
    · exact .inl z
    · rcases Nat.lt_or_eq_of_le (Nat.le_of_lt_succ l) with y | y
      · exact .inr (.inl (mem_rng.mpr ⟨z, y⟩))
      · exact .inr (.inr (List.mem_singleton.mpr y))
  have hdp : X.A.depth < recursionLimit := by have := hr.dp; omega
  have hgo : ∃ vs, go.data = .fields vs := let ⟨nm, qn, e⟩ := okz.gen.2.1; ⟨_, e⟩
  have kso4 : KsOk (zOf X N qual scope' f cd sc.heap.objs.size sc.os ag gn go [D + 1] J) ks H3 s4 := ⟨fun p hp => by
    obtain ⟨z1, z2, z3⟩ := kso.at_ p hp
    refine ⟨kp4 _ _ z1, ?_, z3⟩
    rw [← hH3, upd_ne (by rw [← hD]; exact Nat.ne_of_lt (Heap.lt_size z1))]
    exact z2, kso.ag⟩
  have locs : ∀ {σ' : L2.St} {H' : Hp} {s' : Shared}, Inv (X.blk s3 H3 scope ce (rng sc.heap.objs.size D)) [] σ' H' s' → ∀ b ∈ [D + 1], ∃ o, s'.heap.get? b = some o ∧ H' b = none ∧ b ∉ frs X.stack ∧ ∀ v, o.data ≠ .cell v := fun {σ' H' s'} I' b hb => by
    rw [List.mem_singleton.mp hb]
    obtain ⟨m, ⟨o, es, ep, ho, hd, _⟩, _⟩ := I'.loc
    have ho : s'.heap.get? ce.locals = some o := ho
    have hf : H' ce.locals = none := I'.free
    rw [cL, sz3] at ho hf
    exact ⟨o, ho, hf, hLfr, fun v z => by rw [hd] at z; cases z⟩
  have loop : codeAny (model X.prog X.w) X.A (.compLoop (.ListComp elt [⟨tg, iter, ifs, 0⟩] scope pos) 0 (.ref ag) (.ref D) ce) (compPost (model X.prog X.w) X.A X.xe use Qf (.ref D) s3.heap.objs.size) s4 := by
    refine compLoop_any (fun n s' => ∃ i H' gs ks Hs, Inv (X.blk s3 H3 scope ce (rng sc.heap.objs.size D)) [] (wipe σ (own.map (·.2))) H' s' ∧ s'.gens[gn]? = some gs ∧ (zOf X N qual scope' f cd sc.heap.objs.size sc.os ag gn go [D + 1] J).Slp (n + 1) i gs ks Hs ∧
      KsOk (zOf X N qual scope' f cd sc.heap.objs.size sc.os ag gn go [D + 1] J) ks H' s' ∧ W i n Hs H') ?_ m0 ⟨0, H3, _, ks, H2, I4, by rw [g4]; exact hgs, slp _, kso4, w0⟩
    rintro n s5 ⟨i, H5, gs5, ks5, Hs5, I5, hgs5, sl5, kso5, w5⟩
    obtain ⟨wk, noex, fin, step⟩ := turn i n Hs5 H5 w5
    have os5 : s5.os = sc.os := by
      have z : s5.os = s3.os := I5.os
      rw [z, ← hs3]
      exact hos
    refine thnF (gen_next (X := X.blk s3 H3 scope ce (rng sc.heap.objs.size D)) (m := n) (E := fun _ _ => False) hc hdp I5 okz C (locs I5) kso5 hgs5 sl5 wk os5 noex (fun b hb => by
      rw [List.mem_singleton.mp hb]
      exact ⟨fun x H1 y => (step x H1 y).1, fun H1 y => (fin H1 y).1⟩)) fun r s6 h6 => ?_
    cases r with
    | none =>
      obtain ⟨H6, I6, hf⟩ := h6
      -- back in the def's context
      have I7 : Inv X pins σ H6 s6 := I3.call' (ch := rng sc.heap.objs.size D) I6.os I6.base I6.hok I6.bare fun b hb => ⟨(f3 b hb).1.2.2.2.1, (f3 b hb).1.2.1, (f3 b hb).1.2.2.2.2.1, (f3 b hb).1.2.2.2.2.2⟩
      have nC : H6 s3.heap.objs.size = none := by
        have z : H6 ce.locals = none := I6.free
        rw [cL] at z
        exact z
      obtain ⟨m, hn, _⟩ := I6.loc
      have hn : s6.heap.Ns ce.locals m := hn
      rw [cL] at hn
      exact hRR D s3.heap.objs.size s6 m H6 I7 (fin H6 hf).2 hn (I3.fpOk (Nat.le_refl _) nC)
    | some v =>
      obtain ⟨x, H7, gs7, ks7, I7, r7, hy, hg7, ⟨kk, l, cc, pp, fs, cl, rfl⟩, kso7, sl7⟩ := h6
      have hgo7 := (kso7.at_ _ kso7.ag).1
      obtain ⟨vs, hgd⟩ := hgo
      refine go_of hgo7 okz.gen.1 hgd (by decide) ?_
      have I7' : Inv (X.blk s3 H3 scope ce (rng sc.heap.objs.size D)) ([] ++ ks7) (wipe σ (own.map (·.2))) H7 s6 := I7.pins_of fun p hp => (List.mem_append.mp hp).elim (fun z => by cases z) (ks_pin I7 C okz kso7 p)
      have hT := tab_susp hg7
      obtain ⟨_, Nx, hNx, step⟩ := step x H7 hy
      have z := swpF (Slp.tab_iv s6.gens) (pg.run _ (Slp.hid s6) _ H7 x v _ (inv_hid I7') r7 step)
      rw [Slp.hid_sw s6] at z
      refine thnF z fun _ s8 ⟨sh8, v8, e8, σ8, H8, I8, hw8, q8⟩ => ?_
      rw [e8]
      refine thnF (swpF v8 (pt.run _ sh8 σ8 H8 _ I8 q8)) fun b s9 ⟨sh9, v9, e9, H9, I9, q9⟩ => ?_
      rw [e9]
      -- the turn's end
      have fin : ∀ {sh' : Shared} {H' : Hp}, Slp.Iv (Slp.tab s6.gens) sh'.gens → Inv (X.blk s3 H3 scope ce (rng sc.heap.objs.size D)) ([] ++ ks7) σ8 H' sh' → Nx H' → ∃ m, m < n ∧ ∃ i H' gs ks Hs, Inv (X.blk s3 H3 scope ce (rng sc.heap.objs.size D)) [] (wipe σ (own.map (·.2))) H' (Slp.swS (Slp.tab s6.gens) sh') ∧
          (Slp.swS (Slp.tab s6.gens) sh').gens[gn]? = some gs ∧ (zOf X N qual scope' f cd sc.heap.objs.size sc.os ag gn go [D + 1] J).Slp (m + 1) i gs ks Hs ∧ KsOk (zOf X N qual scope' f cd sc.heap.objs.size sc.os ag gn go [D + 1] J) ks H' (Slp.swS (Slp.tab s6.gens) sh') ∧ W i m Hs H' := fun {sh' H'} v' I' nx => by
        obtain ⟨m', hm, w'⟩ := hNx H' nx
        have hl : (wipe σ (own.map (·.2))).length = σ8.length := by rw [← hw8, wipe_length]
        refine ⟨m', hm, i + 1, H', _, ks7, H7, (inv_sw (I'.unpinned (pins := [])) v').weak hl (fun j v e => ?_), sw_still v' hT, slp_le _ _ _ _ _ _ hm sl7, ⟨fun p hp => ?_, kso7.ag⟩, w'⟩
        · rw [← hw8] at e
          exact (wipe_some e).1
        · have q := I'.pin p (List.mem_append_right _ (List.mem_append_right _ hp))
          have q7 := kso7.at_ p hp
          exact ⟨q.1, q.2.1, q7.2.2.1, q7.2.2.2.1, q7.2.2.2.2⟩
      cases b with
      | false =>
        simp only [Bool.false_eq_true, if_false] at q9 ⊢
        exact fin v9 I9 q9
      | true =>
        simp only [if_true] at q9 ⊢
        refine thnF (swpF v9 (pe.run _ sh9 σ8 H9 _ I9 q9)) fun z s10 ⟨sh10, v10, e10, yv, H10, I10, r10, acc, hD10, hz10, nx⟩ => ?_
        rw [e10]
        have zz := swpF v10 (app_ok (X := X.blk s3 H3 scope ce (rng sc.heap.objs.size D)) (E := fun _ _ => False) (Q := fun _ s11 => Inv (X.blk s3 H3 scope ce (rng sc.heap.objs.size D)) ([] ++ ks7) σ8 (upd H10 D (.lst (acc ++ [yv]))) s11) I10 hD10 hz10 r10 fun s11 I11 => I11)
        refine thnF zz fun _ s11 ⟨sh11, v11, e11, I11⟩ => ?_
        rw [e11]
        exact fin v11 I11 nx
  exact codeAny_compStart_list loop (wpAny_pyIter_gen (hgen.keeps kp4) loop)
/-- as a value -/
theorem pe_lcG {k : Nat} {elt tg iter : Expr} {ifs : List Expr} {scope : Scope} {own : List (Str × Nat)} {pos : Pos} {tgen : TGen2} {g : TG} {tt : TT} {te : TE} (hc : X.calm = true) (hr : Room (k + 1) X.A) (hN : X.N.Nodup) (hi : PGen2 X k iter tgen) (ok : BlkOk X.N X.env.scope scope own) (hnc : ∀ y ∈ scope.names, y.2 ≠ .cell)
    (hg : ∀ (s : Shared) (H : Hp) (C : Addr) (cl : List (Str × Addr)) (fp : List Addr), PG (X.blk s H scope (compEnvC scope cl C X.env) fp) tg g) (ht : ∀ (s : Shared) (H : Hp) (C : Addr) (cl : List (Str × Addr)) (fp : List Addr), PTs (X.blk s H scope (compEnvC scope cl C X.env) fp) ifs tt)
    (he : ∀ (s : Shared) (H : Hp) (C : Addr) (cl : List (Str × Addr)) (fp : List Addr), PE (X.blk s H scope (compEnvC scope cl C X.env) fp) elt te) (hs : ∀ x, foldedSetIterable iter X.env x = pure x := by intro _; rfl) :
    PE X (.ListComp elt [⟨tg, iter, ifs, 0⟩] scope pos) (tLcG tgen g tt te (own.map (·.2))) := by
  refine ⟨fun pins s σ H Q I h => ?_⟩
  rw [eval_ListComp]
  refine lcG_core hc hr hN I hi ok hnc hg ht he hs h fun D C s' m H' I' q hn f => ⟨m, hn, fun h'' sb => ?_⟩
  obtain ⟨f0, f1, f2, f3, f4, f5⟩ := f
  exact ⟨.ref D, H', I'.turned (t' := s'.toks) (fun b o hb e => (sb.2 b hb).trans e) f0 f1 f3 f4 f5, rfl, q⟩
end
end Sg
namespace Sg
open PySem PyProof.Rows GenW L2
theorem okGen {P : Program} {w : World} {K : PySem.W.Frag} {mg : Str → Option Value} {base : Heap} {x qual : Str} {st : Stmt} {f : Addr} {fd : FuncData} {N ps : List Str} {k : Nat} {sp : SpG2} (F : Fun K x qual st f fd) (S : GScope N ps (defScope st)) (nc : ∀ y ∈ (defScope st).names, y.2 ≠ .cell) (len : ∀ vs H C, sp vs H C → vs.length = ps.length)
    (hbody : ∀ (cdv : Value) (n : Nat) (A : Around) (outer : List Env) (os : OsState) (ag : Addr) (g : Nat) (go : Obj) (pa : List Addr) (J : It2) (vs : List V) (H : Hp) (C : It2 → Prop), Room k (A.deeper (envOfC qual (defScope st) n f cdv)) → sp vs H C → C J →
      ∃ t : TG2, GSs2 (mkZ P w K mg base N qual (defScope st) f cdv n A outer os ag g go pa J) (defBody st) t ∧
        ∀ s' H' pc, J.wk 0 H H' → t { nx := fun a _ H1 => J.fin a.i a.H H1, rt := fun a v H1 => v = .non ∧ J.fin a.i a.H H1 } ⟨0, s', H', pc⟩ (start N vs) H') :
    GFn2 P w K mg base (k + 1) f fd ps sp := by
  obtain ⟨oc, od, kV, doc, pm, an, cdv, ct, osl, rfl, lk, hcd⟩ := F.ex
  exact gfn2_of lk hcd S nc len fun n A outer os ag g go pa J vs H C hr hsp hJ => hbody cdv n A outer os ag g go pa J vs H C hr hsp hJ
/-- what stood stays, but for mu -/
def KpM (mu : Addr → Prop) (Hs H : Hp) : Prop := ∀ b u, Hs b = some u → ¬ mu b → H b = some u
end Sg


/-! Own: calls with keywords alone, two or four of them turned; pairs of a text and an int as data. -/
namespace FT
open PySem L2 TL ClX
def tCallK0 (m : Nat) (sp : Sp) (gV : List V → List V → List V) (E : XK) (tk : TA) : TE := fun σ H Q => tk σ H fun zs H1 => zs.length = m ∧ sp (gV [] zs) H1 Q E
/-- f(k = v, ..), no value by place -/
theorem pe_callK0 {X : Cx} {CX : CXT} {k : Nat} {f : Addr} {fd : FuncData} {ps ks : List Str} {sp : Sp} {E : XK} {x : Str} {p pos : Pos} {kw : Keyword} {kws : List Keyword} {tk : TA} {g : List Value → List Value → List Value} {gV : List V → List V → List V}
    (F : FnOk X.prog X.w X.K X.mg X.base CX k f fd ps sp) (hr : Room k X.A) (hg : Gl X x) (hm : X.mg x = some (.ref f)) (hk : PySem.W.keepIn X.K (.ref f) = true) (hb : KBn X.K fd ps 0 ks g gV) (hx : Passes CX X E)
    (hkw : PK X (kw :: kws) tk) (hall : (backToKw pos (keywordEach (kw :: kws) X.env)).all (·.1.isSome) = true := by rfl) (hks : (backToKw pos (keywordEach (kw :: kws) X.env)).filterMap (·.1) = ks := by rfl)
    (hdb : (x == ("__debug__" : Str)) = false := by decide) (hpl : ((backTo pos (starEach [] X.env)).any (·.1) || (backToKw pos (keywordEach (kw :: kws) X.env)).any (·.1.isNone)) = false := by rfl) : PE X (.Call (.Name x p) [] (kw :: kws) pos) (tCallK0 ks.length sp gV E tk) := by
  refine ⟨fun pins s σ H Q I h => ?_⟩
  refine wpAny_Call_Name_kw (ld_glob I hg hm ?_ hdb)
  refine PySem.W.callWith_KW0 (h₀ := X.base) I.ok.mod.kin hk hall ?_ hpl
  refine thn (hkw.run pos pins s σ H _ I h) fun ws s2 ⟨zs, H2, J, rz, l2, want⟩ => ⟨J.kIn, ?_⟩
  rw [hks]
  exact run_fnN (us := []) (vs := []) F hr hb hx J .nil rz rfl l2 want
/-- four values, turned -/
def turn4 {α : Type} : List α → List α
  | [a, b, c, d] => [d, c, b, a]
  | l => l
end FT


/-! a generator that raises when it is woken first: its body; [.. for x in g(..)] lets it out -/
namespace Sg
open PySem PyProof.Rows GenW L2
/-- what the body of a generator lets out -/
theorem takes_gz {Z : Gz} {a : An} : Takes (Z.cx a) (fun cls d _ H => Z.J.ex a.i a.H cls d H) := fun u s' x => by
  obtain ⟨e, G, sI, ps, σ, H, cls, d, rfl, J, gr, us, air, he, ho, hb, want⟩ := x
  have top : (Z.A.deeper Z.env).frames = some (Z.env :: Z.outer) := J.ok.frames
  have own : Z.env.frame = some Z.n := rfl
  have off : ∀ b, b ≠ Z.n → b ∉ frs Z.outer → b ∉ frs (Z.cx a).stack := fun b h1 h2 h3 => (List.mem_cons.mp (J.stkSub b h3)).elim h1 h2
  have pinned : ∀ p ∈ (Z.ag, Z.go) :: a.pn, G.get? p.1 = some p.2 ∧ H p.1 = none := fun p hp => by
    obtain ⟨z1, z2, z3, z4, _⟩ := J.pin p (List.mem_append_left _ hp)
    exact ⟨gr _ _ z1 (off _ z3 z4), z2⟩
  have early : ∀ b o, a.s.heap.get? b = some o → b ≠ Z.n := fun b o q => Nat.ne_of_lt (Nat.lt_of_lt_of_le (Heap.lt_size q) J.ok.above)
  have none_ex : ∀ b : Addr, b ∉ (Z.cx a).ex := fun b hb => by cases hb
  have last : ∀ h', HandSPX.FlyingZ G Z.outer e (Zc cls d) h' → s'.heap.UpToSlots h' → CX Z.P Z.w Z.outer a.H a.s (Z.Ex a) (.ref e) { s' with heap := h' } ∧ ∀ p ∈ (Z.ag, Z.go) :: a.pn, h'.get? p.1 = some p.2 := fun h' fly us' => by
    refine ⟨⟨e, G, H, cls, d, rfl, fly, J.inGround gr, ?_, he, ho.trans J.os, hb, want, fun p hp => (pinned p hp).2⟩, fun p hp => fly.1 _ _ (pinned p hp).1⟩
    constructor
    · exact fun b o q n hm => gr b o (J.base.keep b o q n hm (none_ex b)) (off b (early b o q) hm)
    · intro b o q hm
      obtain ⟨_, o1, e1, nf⟩ := J.ok.funs.mem hm
      have q1 : o1 = o := Option.some.inj (e1.symm.trans q)
      subst q1
      obtain ⟨t1, r1⟩ := J.base.slot b _ q (J.ok.frf b hm) hm (none_ex b)
      obtain ⟨t2, r2⟩ := us b _ r1 nf
      obtain ⟨t3, r3⟩ := us' b _ r2 nf
      exact ⟨t3, r3⟩
    · exact fun b o q n => J.base.free b o q n (none_ex b)
    · intro b o q hm
      obtain ⟨o1, r1⟩ := J.base.there b o q (none_ex b)
      exact ⟨o1, gr b o1 r1 (off b (early b o q) hm)⟩
    · exact J.base.tups
    · exact J.base.frzs
    · exact J.base.tbls
  show wpAny _ (Z.A.deeper Z.env) (leaving Z.env (.ref e)) _ (fun _ _ => False) s'
  rcases air with ⟨z1, z2, z3, oe, vs, z4, z5, z6, z7⟩ | fly | held
  · exact HandSPX.leaving_firstZ Zc.steady top z3 own z4 z1 z2 z6 z7 z5 last
  · exact HandSPX.leaves_onZ Zc.steady top own fly last
  · exact HandSPX.leaves_heldZ own held last
section
variable {X : Cx} {pins : List (Addr × Obj)} {σ : L2.St} {H : Hp} {s : Shared} {N : List Str} {qual : Str} {scope : Scope} {f : Addr} {cd : Value} {n : Nat} {os : OsState} {ag : Addr} {g : Nat} {go : Obj} {pa td : List Addr} {J : It2}
/-- THE DRAW that raises -/
theorem gen_raise {Hs : Hp} {i m : Nat} {gs : GenState} {ks : List (Addr × Obj)} (hc : X.calm = true) (hd : X.A.depth < recursionLimit) (I : Inv X pins σ H s) (ok : (zOf X N qual scope f cd n os ag g go pa J).Ok)
    (hpa : ∀ b ∈ pa, ∃ o, s.heap.get? b = some o ∧ H b = none ∧ b ∉ frs X.stack ∧ ∀ v, o.data ≠ .cell v) (hks : KsOk (zOf X N qual scope f cd n os ag g go pa J) ks H s) (hgs : s.gens[g]? = some gs)
    (hsl : (zOf X N qual scope f cd n os ag g go pa J).Slp (m + 1) i gs ks Hs) (hw : J.wk i Hs H) (hos : s.os = os) (noY : ∀ x H1, ¬ J.yld i H x H1) (noF : ∀ H1, ¬ J.fin i H H1)
    (noS : ∀ cls d H', J.ex i H cls d H' → PySem.W.subIn X.K cls (.type "StopIteration") = some false) :
    wpAny (model X.prog X.w) X.A (pyNext (.ref ag)) (fun _ _ => False) (fun e s1 => ∃ s2 : Shared, s1 = s2.setGen g .finished ∧ CX X.prog X.w X.stack H (cutS n (s.setGen g .running)) ((zOf X N qual scope f cd n os ag g go pa J).Ex ⟨i, cutS n (s.setGen g .running), H, pinsAt pa s.heap⟩) e s2 ∧
      ∀ b ∈ pa, ∀ o, s.heap.get? b = some o → s2.heap.get? b = some o) s := by
  have hag : s.heap.IsGen ag g := ok.isGen (hks.at_ _ hks.ag).1
  have hgl : g < s.gens.size := (Array.getElem?_eq_some_iff.mp hgs).1
  have hba : AllBare (s.setGen g .running).gens := allBare_setGen I.bare rfl
  have W : Woke (zOf X N qual scope f cd n os ag g go pa J) ks H (pinsAt pa s.heap) (s.setGen g .running) :=
    ⟨hos, hba, I.bs, I.stack, I.stkFree, I.hok, fun p hp => let z := hks.at_ p hp; ⟨z.1, z.2.1⟩, pinsAt_map (h := s.heap) fun b hb => let ⟨o, e, _⟩ := hpa b hb; ⟨o, e⟩, fun p hp => by
      obtain ⟨hb, e⟩ := of_pinsAt hp
      obtain ⟨o, e', h1, h2, h3⟩ := hpa p.1 hb
      rw [e] at e'
      cases e'
      exact ⟨e, h1, h2, h3⟩⟩
  have go0 := hsl (s.setGen g .running) H (pinsAt pa s.heap) W hw
  refine next_segG (A := X.A) (I.ok.hd hc) I.nolimit hd hag hgs go0 (fun v s1 gs1 hb y => ?_) (fun s1 y h' hk => ?_) fun e s1 y => ?_
  · obtain ⟨_, x, H1, ks1, rv, R, hy, _⟩ := y
    exact (noY x H1 hy).elim
  · obtain ⟨H1, R, hf⟩ := y
    exact (noF H1 hf).elim
  · obtain ⟨cx, pk⟩ := y
    have kin : X.K.In s1.heap := by
      obtain ⟨a, B, H', cls, d, _, fl, _, ub, _⟩ := id cx
      refine I.ok.mod.kin.keeps fun b o eb => fl.1 b o (ub.keep b o ?_ (I.bs b o eb).2 fun hm => ?_)
      · show (cutH n s.heap).get? b = some o
        have lt : b < n := Nat.lt_of_lt_of_le (Heap.lt_size eb) ok.bsz
        rw [cutH_get lt]
        exact (I.bs b o eb).1
      · obtain ⟨z, _⟩ := I.stack.mem hm
        rw [z] at eb
        cases eb
    have ns : NoStop X.K ((zOf X N qual scope f cd n os ag g go pa J).Ex ⟨i, cutS n (s.setGen g .running), H, pinsAt pa s.heap⟩) := fun cls d H' z => noS cls d H' z.1
    exact ⟨ok.isGen (pk (ag, go) List.mem_cons_self), notStop_of ns kin cx, s1, rfl, cx, fun b hb o e => pk (b, o) (List.mem_cons_of_mem _ (mem_pinsAt hb e))⟩
end
section
variable {X : Cx}
/-- [.. for x in g(..)], g raising when it is woken first -/
def tLcGX (K : PySem.W.Frag) (tgen : TGen2) (W : WX) : TE := fun σ H Q => tgen σ H fun C H1 => ∀ D, H1 D = none → ∃ J, C J ∧ J.wk 0 H1 (upd H1 D (.lst [])) ∧ (∀ x H', ¬ J.yld 0 (upd H1 D (.lst [])) x H') ∧ (∀ H', ¬ J.fin 0 (upd H1 D (.lst [])) H') ∧
  ∀ cls d H', J.ex 0 (upd H1 D (.lst [])) cls d H' → PySem.W.subIn K cls (.type "StopIteration") = some false ∧ W cls d σ H'
theorem pe_lcGX {k : Nat} {elt tg iter : Expr} {ifs : List Expr} {scope : Scope} {own : List (Str × Nat)} {pos : Pos} {tgen : TGen2} {W : WX} (tk : Takes X W) (hstk : X.stack = X.env :: X.outer ∧ X.env.frame = some X.env.locals) (hc : X.calm = true) (hr : Room (k + 1) X.A) (hN : X.N.Nodup) (hi : PGen2 X k iter tgen)
    (ok : BlkOk X.N X.env.scope scope own) (hnc : ∀ y ∈ scope.names, y.2 ≠ .cell) (hs : ∀ x, foldedSetIterable iter X.env x = pure x := by intro _; rfl) :
    PE X (.ListComp elt [⟨tg, iter, ifs, 0⟩] scope pos) (tLcGX X.K tgen W) := by
  refine ⟨fun pins s σ H Q I h => ?_⟩
  rw [eval_ListComp]
  have hfree : ∀ y ∈ scope.names, y.2 = .free → ∃ c, X.env.cells.lookup y.1 = some c := fun y hy e => by
    rcases ok.free y hy e with k | k
    · exact I.ok.has _ (.inl k)
    · exact I.ok.has _ (.inr k)
  refine comprehension_at (use := none) rfl hs (closure_ok hfree) ok.kind (fun y hy e => by rw [ok.uniq y hy, e])
    (thn (hi.run pins s σ H _ X.xe (fun _ _ q => q) I h) fun u s1 ⟨H2, sc, CJ, Isc, G, q⟩ => ?_)
  have I2 := inv_made Isc G
  obtain ⟨ag, gn, c, rfl, hag0, hag1, hgen, hgs, hos, hba, hlim, hkp, N, qual, scope', f, cd, go, ks, mk⟩ := G
  refine wpAny_pyIter_gen hgen ?_
  refine wpAny_newObj_type (newEnv_comp ?_) (by show 0 ≤ sizeLine; decide)
  generalize hD : s1.heap.objs.size = D
  have hDn : H2 D = none := I2.hok.fresh (Nat.le_of_eq hD)
  obtain ⟨J, hJ, wk, noY, noF, ex⟩ := q D hDn
  have hsc1 : sc.heap.objs.size ≤ D := by rw [← hD]; exact Nat.le_of_lt (Nat.lt_trans hag0 hag1)
  generalize hs3 : ({ s1 with heap := s1.heap.push { cls := .type "list", data := .seq ([] : List Value).toArray } } : Shared) = s3
  have I3 : Inv X pins σ (upd H2 D (.lst [])) s3 := by
    rw [← hs3]
    refine I2.laid (t' := s1.toks) (fun b o e => Heap.get?_push_of_some _ e) (Nat.le_of_eq hD) ⟨Nat.zero_le _, [], 0, .nil, ?_⟩
    rw [← hD]
    exact Heap.get?_push_size _ rfl
  have h3 : s3.heap = s1.heap.push { cls := .type "list", data := .seq ([] : List Value).toArray } := by rw [← hs3]
  have sz3 : s3.heap.objs.size = D + 1 := by rw [h3, Heap.size_push, hD]
  have g3 : s3.gens = s1.gens := by rw [← hs3]
  have o3 : s3.os = s1.os := by rw [← hs3]
  have f3 : ∀ b ∈ rng sc.heap.objs.size D, FpOk X pins (upd H2 D (.lst [])) b ∧ b < s3.heap.objs.size := fun b hb => by
    obtain ⟨h1, h2⟩ := mem_rng.mp hb
    have nb : H2 b = none := by
      cases qh : H2 b with
      | none => rfl
      | some u => exact absurd (Nat.lt_of_lt_of_le (Isc.hok.lt qh) h1) (Nat.lt_irrefl _)
    refine ⟨Isc.fpOk h1 (by rw [upd_ne (Nat.ne_of_lt h2)]; exact nb), by rw [sz3]; exact Nat.lt_succ_of_lt h2⟩
  have I4 := block_start I3 ok hN f3
  show codeAny _ _ (.compStart (.ListComp elt [⟨tg, iter, ifs, 0⟩] scope pos) 0 (.ref ag) (.ref D) (compEnvC scope (cellsFrom (s3.heap.objs.size + 1) scope.names (cloFrom X.env.cells scope.names [])) s3.heap.objs.size X.env)) (compEnds (model X.prog X.w) X.A X.xe none _ (.ref D) (compEnvC scope (cellsFrom (s3.heap.objs.size + 1) scope.names (cloFrom X.env.cells scope.names [])) s3.heap.objs.size X.env)) { s3 with heap := pushCells (s3.heap.push { cls := .type "dict", data := .dict #[] }) scope.names }
  generalize hce : compEnvC scope (cellsFrom (s3.heap.objs.size + 1) scope.names (cloFrom X.env.cells scope.names [])) s3.heap.objs.size X.env = ce at I4 ⊢
  have cL : ce.locals = s3.heap.objs.size := by subst hce; rfl
  have cF : ce.frame = X.env.frame := by subst hce; rfl
  have cC : ∀ x c, ce.cells.lookup x = some c → c < sc.heap.objs.size := fun x c e => by
    have e : (cellsFrom (s3.heap.objs.size + 1) scope.names (cloFrom X.env.cells scope.names [])).lookup x = some c := by subst hce; exact e
    rw [cells_acc_nil hnc] at e
    rcases cloFrom_mem (PySem.mem_of_lookup e) with hm | ⟨z1, rfl⟩
    · cases hm
    · obtain ⟨c', hc'⟩ := hfree _ z1 rfl
      rw [hc']
      obtain ⟨v, z⟩ := Isc.cell _ _ hc'
      exact z.lt
  generalize hH3 : upd H2 D (.lst []) = H3 at I3 I4 wk noY noF ex f3
  have H3D : H3 D ≠ none := by rw [← hH3, upd_same]; exact fun z => by cases z
  generalize hs4 : ({ s3 with heap := pushCells (s3.heap.push { cls := .type "dict", data := .dict #[] }) scope.names } : Shared) = s4 at I4 ⊢
  have g4 : s4.gens = s1.gens := by rw [← hs4]; exact g3
  have o4 : s4.os = s1.os := by rw [← hs4]; exact o3
  have kp4 : ∀ b o, s1.heap.get? b = some o → s4.heap.get? b = some o := fun b o e => by
    rw [← hs4]
    refine pushCells_keeps _ _ _ _ (Heap.get?_push_of_some _ ?_)
    rw [h3]
    exact Heap.get?_push_of_some _ e
  obtain ⟨okz, kso, slp⟩ := mk X.A.in1 [D + 1] J hJ ⟨hr.hd, by have := hr.dp; show X.A.depth + 3 * k + 5 < _; omega, by have := hr.un; show X.A.units + 1 + 16 * k + 200 < _; omega⟩ I2.ok.frames (fun b hb => by
    rw [List.mem_singleton.mp hb, hD]; exact Nat.le_succ _)
  have hLfr : D + 1 ∉ frs X.stack := fun z => absurd (Nat.lt_of_lt_of_le (okz.frl _ z) (Nat.le_succ_of_le hsc1)) (Nat.lt_irrefl _)
  have C : Con (X.blk s3 H3 scope ce (rng sc.heap.objs.size D)) [] sc.heap.objs.size [D + 1] [D] := by
    refine ⟨fun b o e => ?_, fun b hb => by rw [List.mem_singleton.mp hb]; exact H3D, .inr (by show ce.locals ∈ _; rw [cL, sz3]; exact List.mem_singleton.mpr rfl), cC, fun p hp => absurd (show p ∈ ([] : List (Addr × Obj)) ++ [] from hp) (by simp)⟩
    have l : b < s3.heap.objs.size := Heap.lt_size e
    rw [sz3] at l
    rcases Nat.lt_or_ge b sc.heap.objs.size with z | z
    · exact .inl z
    · rcases Nat.lt_or_eq_of_le (Nat.le_of_lt_succ l) with y | y
      · exact .inr (.inl (mem_rng.mpr ⟨z, y⟩))
      · exact .inr (.inr (List.mem_singleton.mpr y))
  have hdp : X.A.depth < recursionLimit := by have := hr.dp; omega
  have kso4 : KsOk (zOf X N qual scope' f cd sc.heap.objs.size sc.os ag gn go [D + 1] J) ks H3 s4 := ⟨fun p hp => by
    obtain ⟨z1, z2, z3⟩ := kso.at_ p hp
    refine ⟨kp4 _ _ z1, ?_, z3⟩
    rw [← hH3, upd_ne (by rw [← hD]; exact Nat.ne_of_lt (Heap.lt_size z1))]
    exact z2, kso.ag⟩
  obtain ⟨mL, ⟨lo, les, lep, hlo, hld, hlr⟩, _⟩ := I4.loc
  have hlo : s4.heap.get? ce.locals = some lo := hlo
  have hlf : H3 ce.locals = none := I4.free
  rw [cL, sz3] at hlo hlf
  have loop : codeAny (model X.prog X.w) X.A (.compLoop (.ListComp elt [⟨tg, iter, ifs, 0⟩] scope pos) 0 (.ref ag) (.ref D) ce) (compEnds (model X.prog X.w) X.A X.xe none (fun v s' => EP X pins σ Q v s') (.ref D) ce) s4 := by
    refine compLoop_any (fun _ s' => s' = s4) (fun n s5 e5 => ?_) 0 rfl
    subst e5
    have there : ∀ b ∈ [D + 1], ∃ o, s5.heap.get? b = some o ∧ H3 b = none ∧ b ∉ frs X.stack ∧ ∀ v, o.data ≠ .cell v := fun b hb => by
      rw [List.mem_singleton.mp hb]
      exact ⟨lo, hlo, hlf, hLfr, fun v z => by rw [hld] at z; cases z⟩
    have GR := gen_raise (X := X.blk s3 H3 scope ce (rng sc.heap.objs.size D)) (N := N) (qual := qual) (scope := scope') (f := f) (cd := cd) (n := sc.heap.objs.size) (os := sc.os) (ag := ag) (g := gn) (go := go) (pa := [D + 1]) (J := J) (m := 0) (i := 0) (H := H3) (Hs := H2) hc hdp I4 okz there kso4 (by rw [g4]; exact hgs) (slp _) wk (o4.trans hos) noY noF (fun cls d H' z => (ex cls d H' z).1)
    refine wpAny_mono GR (fun _ _ z => z.elim) (fun e s6 ⟨s7, e6, cx, pk⟩ => ?_)
    subst e6
    obtain ⟨a, B, H', cls, d, rfl, fl, hok, ub, na, os7, bare7, hE, hpn⟩ := cx
    have cold : ∀ {b : Addr} {o : Obj}, sc.heap.get? b = some o → b < sc.heap.objs.size ∧ (cutH sc.heap.objs.size s5.heap).get? b = some o := fun {b o} q => by
      have l := Heap.lt_size q
      exact ⟨l, by rw [cutH_get l]; exact kp4 _ _ (hkp _ _ q)⟩
    have nD : ∀ b, b < sc.heap.objs.size → b ≠ D := fun b l => Nat.ne_of_lt (Nat.lt_of_lt_of_le l hsc1)
    have nC : ∀ b, b < sc.heap.objs.size → b ≠ D + 1 := fun b l => Nat.ne_of_lt (Nat.lt_succ_of_lt (Nat.lt_of_lt_of_le l hsc1))
    have fr3 : ∀ b, b < sc.heap.objs.size → H3 b = H2 b := fun b l => by rw [← hH3, upd_ne (nD b l)]
    have hC7 : s7.heap.get? (D + 1) = some lo := pk (D + 1) (List.mem_singleton.mpr rfl) lo hlo
    have hCn : H' (D + 1) = none := hpn (D + 1, lo) (List.mem_cons_of_mem _ (mem_pinsAt (List.mem_singleton.mpr rfl) hlo))
    have fl : HandSPX.FlyingZ B (X.env :: X.outer) a (Zc cls d) s7.heap := by rw [← hstk.1]; exact fl
    have hfr : X.A.frames = some (X.env :: X.outer) := by rw [Isc.ok.frames, hstk.1]
    show wpAny _ X.A (noteFrame (.ref a) ce) (fun _ s'' => CompFails (model X.prog X.w) X.A X.xe ce (.ref a) s'') _ (s7.setGen gn .finished)
    rw [noteFrame_env _ cF]
    refine HandSPX.looks_onZ (s := s7.setGen gn .finished) Zc.steady hfr hstk.2 fl fun h8 hh8 up8 => ?_
    have up8 : s7.heap.UpToSlots h8 := up8
    obtain ⟨sl8, hC8⟩ := up8 _ _ hC7 (fun vs z => by rw [hld] at z; cases z)
    have ecl : ce.locals = D + 1 := by rw [cL, sz3]
    refine ⟨mL, by rw [ecl]; exact ⟨_, les, lep, hC8, hld, hlr⟩, fun h9 m9 hn9 sb9 => ?_⟩
    rw [ecl] at hn9 sb9
    have sb9 : Heap.SameBut (D + 1) h8 h9 := sb9
    -- the ground without the block
    obtain ⟨B', eB⟩ : ∃ Z, Z = PySem.W.hideAll B [D + 1] := ⟨_, rfl⟩
    have bB : ∀ {b o}, B'.get? b = some o → b ≠ D + 1 ∧ B.get? b = some o := fun {b o} q => by
      rw [eB] at q
      exact ⟨fun z => (by rw [PySem.W.hideAll_none [D + 1] (List.mem_singleton.mpr z)] at q; cases q), PySem.W.of_hideAll _ q⟩
    have Bb : ∀ {b o}, B.get? b = some o → b ≠ D + 1 → B'.get? b = some o := fun {b o} q n => by
      rw [eB]
      exact PySem.W.hideAll_get _ q fun hm => n (List.mem_singleton.mp hm)
    have Bn : ∀ {b}, B.get? b = none → B'.get? b = none := fun {b} q => by
      cases z : B'.get? b with
      | none => rfl
      | some o =>
        have := (bB z).2
        rw [q] at this
        cases this
    obtain ⟨st8, be8, ff8, oe, vs, T, oT, ts, ge, ze, de, ve, bT, Te, gT, dT, tT⟩ := hh8
    have aC : a ≠ D + 1 := fun z => by
      rw [z, hC8] at ge
      have := Option.some.inj ge
      rw [← this] at de
      have de : lo.data = .fields vs := de
      rw [hld] at de
      cases de
    have TC : T ≠ D + 1 := fun z => by
      rw [z, hC8] at gT
      have := Option.some.inj gT
      rw [← this] at dT
      have dT : lo.data = .fields ts := dT
      rw [hld] at dT
      cases dT
    have hh9 : HandSPX.HeldZ B' (X.env :: X.outer) a (Zc cls d) X.env.locals h9 := by
      refine ⟨fun b o q => ?_, Bn be8, funFrames_none (Heap.FunFrames.sameBut sb9 hn9 ff8) (fun L hL => ?_), oe, vs, T, oT, ts, (sb9.2 _ aC).trans ge, ze, de, ve, Bn bT, Te, (sb9.2 _ TC).trans gT, dT, tT⟩
      · obtain ⟨z1, z2⟩ := bB q
        exact (sb9.2 _ z1).trans (st8 _ _ z2)
      · obtain ⟨z, _⟩ := ff8.mem hL
        exact Bn z
    unfold PySem.passOn
    refine wpAny_bind (wpAny_field (s := { s7.setGen gn .finished with heap := h9 }) ((sb9.2 _ aC).trans ge) de ve ?_)
    rw [if_neg (show ¬ ((Value.ref T == Value.none) = true) from by simp)]
    rw [cF, hstk.2]
    refine wpAny_bind (HandSPX.setFlight_onZ (s := { s7.setGen gn .finished with heap := h9 }) hh9 fun h10 hh10 up10 => wpAny_throw (tk _ _ ?_))
    have up10 : h9.UpToSlots h10 := up10
    -- the state on the ground
    obtain ⟨G, g1, g2⟩ := restrict h10 fun b => (B'.get? b).isSome || decide (b ∈ frs X.stack)
    have gB : ∀ b o, B'.get? b = some o → G.get? b = some o := fun b o q => by
      rw [g1 b (by rw [q] <;> rfl)]
      exact hh10.1 b o q
    have gF : ∀ b, b ∈ frs X.stack → G.get? b = h10.get? b := fun b hb => g1 b (by rw [decide_eq_true hb, Bool.or_true])
    have og : ∀ b o, G.get? b = some o → h10.get? b = some o ∧ ((B'.get? b).isSome = true ∨ b ∈ frs X.stack) := fun b o q => by
      cases z : ((B'.get? b).isSome || decide (b ∈ frs X.stack)) with
      | false => rw [g2 b z] at q; cases q
      | true =>
        rw [g1 b z] at q
        exact ⟨q, by simpa [Bool.or_eq_true] using z⟩
    have hokB : HOk X.prog X.w H' B' := fun b u q => by
      have bn : b ≠ D + 1 := fun z => by rw [z, hCn] at q; cases q
      refine (hok b u q).stay (fun c v hc r => Bb r ?_) (fun _ r => r) fun _ _ r => r
      rcases hc with rfl | hc
      · exact bn
      · exact fun z => by rw [z, hCn] at hc; cases hc
    have slots : ∀ b, b ∈ frs X.stack → ∀ o, sc.heap.get? b = some o → ∃ sl, G.get? b = some { o with slots := sl } := fun b hb o q => by
      obtain ⟨_, o1, q1, nf⟩ := Isc.stack.mem hb
      have e1 : o1 = o := Option.some.inj (q1.symm.trans q)
      subst e1
      obtain ⟨l, q2⟩ := cold q
      obtain ⟨t1, r1⟩ := ub.slot b _ q2 hb
      obtain ⟨t2, r2⟩ := up8 b _ r1 nf
      obtain ⟨t3, r3⟩ := up10 b _ ((sb9.2 b (nC b l)).trans r2) nf
      exact ⟨t3, by rw [gF b hb]; exact r3⟩
    refine ⟨a, B', { sc with heap := G, gens := (s7.setGen gn .finished).gens, drawn := s7.drawn, toks := s7.toks }, pins, σ, H', cls, d, rfl, ?_, fun b o q hb => ?_, Heap.UpToSlots.of_keeps fun b o q => (og b o q).1, .inr (.inr (by rw [hstk.1]; exact hh10)), na, os7.trans (o4.trans hos), allBare_setGen bare7 rfl, (ex cls d H' hE).2⟩
    · refine Isc.call (ch := []) ⟨fun b o q n hb _ => ?_, fun b o q n hb _ => slots b hb o q, fun b o q n _ => ?_, fun b o q _ => ?_, fun b xs q => ?_, fun b o u q => ?_, fun b ps q => ?_⟩ (hokB.kept gB) (allBare_setGen bare7 rfl) (fun _ z => nomatch z)
      · obtain ⟨l, q2⟩ := cold q
        exact gB b o (Bb (ub.keep b o q2 (by rw [fr3 b l]; exact n) hb) (nC b l))
      · obtain ⟨l, q2⟩ := cold q
        exact ub.free b o q2 (by rw [fr3 b l]; exact n)
      · obtain ⟨l, q2⟩ := cold q
        by_cases hb : b ∈ frs X.stack
        · obtain ⟨t1, r1⟩ := slots b hb o q
          exact ⟨_, r1⟩
        · obtain ⟨o1, r1⟩ := ub.there b o q2 hb
          exact ⟨o1, gB b o1 (Bb r1 (nC b l))⟩
      · exact ub.tups b xs (by rw [← hH3, upd_ne (ne_of_none q hDn)]; exact q)
      · exact ub.frzs b o u (by rw [← hH3, upd_ne (ne_of_none q hDn)]; exact q)
      · exact ub.tbls b ps (by rw [← hH3, upd_ne (ne_of_none q hDn)]; exact q)
    · obtain ⟨q1, q2⟩ := og b o q
      rcases q2 with q2 | q2
      · obtain ⟨o1, r1⟩ := Option.isSome_iff_exists.mp q2
        have z := hh10.1 b o1 r1
        rw [q1] at z
        cases z
        exact r1
      · exact absurd q2 hb
  exact codeAny_compStart_list loop (wpAny_pyIter_gen (hgen.keeps kp4) loop)
end
end Sg


/-! yield from of a list, in a generator whose consumer runs code between the yields -/
namespace Sg
open PySem PyProof.Rows GenW L2
section
variable {prog : Program} {w : World} {A : Around} {E : Value → Shared → Prop} {s : Shared}
theorem special_lst_item {it l : Addr} {i : Nat} {items : Array Value} {x : Value} {Q : Option Value → Shared → Prop} (hit : s.heap.IsListIter it l i) (hl : s.heap.IsList l items) (hx : items[i]? = some x)
    (hQ : ∀ h', h'.IsListIter it l (i + 1) → Heap.SameBut it s.heap h' → Q (some x) { s with heap := h' }) : wpAny (model prog w) A (callSpecial? (.ref it) "__next__") Q E s := by
  obtain ⟨o, ho, hc, hd⟩ := id hit
  obtain ⟨ol, hol, _, nl, hdl⟩ := hl
  refine wpAny_callSpecial?_slot (name := Str.ofString "__next__") hit.typeIs slot_listiter_next (wpAny_call_entry slot_listiter_next hit.typeIs entry_listiter_next ?_ (args_listiter_next _))
  show wpAny _ _ (field (.ref it) 0 >>= _) _ _ s
  refine wpAny_bind (wpAny_field ho hd (x := .ref l) rfl ?_)
  show wpAny _ _ (if (Value.ref l == Value.none) = true then _ else _) _ _ s
  rw [if_neg (show ¬ ((Value.ref l == Value.none) = true) from Bool.false_ne_true)]
  show wpAny _ _ (field (.ref it) 1 >>= _) _ _ s
  refine wpAny_bind (wpAny_field ho hd (x := .int i 0) rfl ?_)
  show wpAny _ _ (seqItems? (.ref l) >>= _) _ _ s
  refine wpAny_bind (wpAny_seqItems hol hdl ?_)
  simp only [Int.toNat_natCast, hx]
  refine wpAny_bind (wpAny_setField ho hd (by simp) (wpAny_pure ⟨x, rfl, hQ _ ?_ (Heap.SameBut.update ..)⟩))
  exact ⟨_, Heap.get?_update_self _ ho (Obj.isFreed_of_fields (Obj.data_mapFields hd _)), (Obj.cls_mapFields ..).trans hc, by
    rw [Obj.data_mapFields hd]; simp [rawInt]⟩
theorem special_lst_end {it l : Addr} {i : Nat} {items : Array Value} {Q : Option Value → Shared → Prop} (hh : A.handled = none) (hit : s.heap.IsListIter it l i) (hl : s.heap.IsList l items) (hx : items[i]? = none)
    (hE : ∀ e h', StopX e h' → Heap.ExtBut it s.heap h' → E e { s with heap := h' }) : wpAny (model prog w) A (callSpecial? (.ref it) "__next__") Q E s := by
  obtain ⟨o, ho, hc, hd⟩ := id hit
  obtain ⟨ol, hol, _, nl, hdl⟩ := hl
  refine wpAny_callSpecial?_slot (name := Str.ofString "__next__") hit.typeIs slot_listiter_next (wpAny_call_entry slot_listiter_next hit.typeIs entry_listiter_next ?_ (args_listiter_next _))
  show wpAny _ _ (field (.ref it) 0 >>= _) _ _ s
  refine wpAny_bind (wpAny_field ho hd (x := .ref l) rfl ?_)
  show wpAny _ _ (if (Value.ref l == Value.none) = true then _ else _) _ _ s
  rw [if_neg (show ¬ ((Value.ref l == Value.none) = true) from Bool.false_ne_true)]
  show wpAny _ _ (field (.ref it) 1 >>= _) _ _ s
  refine wpAny_bind (wpAny_field ho hd (x := .int i 0) rfl ?_)
  show wpAny _ _ (seqItems? (.ref l) >>= _) _ _ s
  refine wpAny_bind (wpAny_seqItems hol hdl ?_)
  simp only [Int.toNat_natCast, hx]
  refine wpAny_bind (wpAny_rule (wpAny_bind (wpAny_setField ho hd (by simp) ?_)))
  show wpAny _ _ (newExc (.type "StopIteration") [] >>= _) _ _ _
  refine wpAny_bind ?_
  simp only [newExc, newTuple]
  refine wpAny_bind (wpAny_newObj_type ?_ (by size_fits))
  refine wpAny_bind (m := firstArgMember _ _) (wpAny_of_eq (a := Value.none) (by first | rfl | (simp only [firstArgMember]; rfl)) ?_)
  refine wpAny_newObj_type ?_ (by size_fits)
  simp only [raiseNew]
  refine wpAny_bind (wpAny_handled ?_)
  first | rw [show A.in1.handled = none from hh] | rw [hh]
  refine wpAny_bind (wpAny_pure (wpAny_throw ?_))
  refine hE _ _ ⟨_, _, _, rfl, Heap.get?_push_size _ rfl, rfl, rfl, ?_⟩ (((Heap.SameBut.update ..).extBut.push _).push _)
  first
    | rfl
    | (rw [Array.getElem?_append_left (by decide)]; rfl)
    | kernel_rfl
end
theorem close_lst : typeLookup (.type "list_iterator") "close" = pure none := by rw [typeLookup_type, builtinLookup_eq_fast]; kernel_rfl
section
variable {M : Model} {A : Around} {Φ : End → Shared → Prop} {c : Code} {fs : List Frame} {s : Shared}
theorem sgw_bind2 {α β γ : Type} {m : Sem α} {f : α → Sem β} {f2 : β → Sem γ} {K : γ → Sem PySem.Fin} {J : Value → Sem PySem.Fin} {gd : Bool → Bool} {lv : List Value → List Value}
    (h : wpAny M (A.over c fs) m (fun a s' => SegG M A Φ c ((f a).wrap (fun b => (f2 b).wrap K J gd lv) J gd lv) fs s') (fun x s' => SegG M A Φ c (J x) fs s') s) :
    SegG M A Φ c (((m >>= f) >>= f2).wrap K J gd lv) fs s := by
  rw [Sem.bind_eq_wrap' (m >>= f) f2, Sem.wrap_wrap]
  exact sg_bindw h
end
section
variable {Z : Gz} {pos yp : Pos}
theorem den_yf2 {it : Value} : (model Z.P Z.w).den (.builtin "proto.yield_from" ⟨[it, .bool false, .none], []⟩) = Builtin.«proto.yield_from» ⟨[it, .bool false, .none], []⟩ := by
  show (match entryFor table "proto.yield_from" with | some b => b ⟨[it, .bool false, .none], []⟩ | none => unsupported ((withoutEnding? "proto.yield_from" "#data").getD "proto.yield_from")) = _
  rw [entry_yf]
/-- g2_sleep, of any code -/
theorem g2_sleepY {a : An} {ip : List (Addr × Obj)} {c : Code} {fs : List Frame} {n : Nat} {s : Shared} {σ : L2.St} {H : Hp} {x : V} {v : Value} {k : Resume → Sem PySem.Fin} {g' : Bool} {l' : List Value} {p' : Pos}
    (ok : Z.Ok) (gip : ∀ p ∈ ip, p.1 ∉ Z.pa ∧ Z.n < p.1) (oa : AnOk Z a) (I : Inv (Z.cx a) ip σ H s) (rv : RelV x v) (hy : Z.J.yld a.i a.H x H) (hq : (End.susp v g' l' k c p' fs).quiet = true)
    (hk : ∀ (n' : Nat) (a' : An) (s' : Shared), AnOk Z a' → a'.i = a.i + 1 → Z.J.wk (a.i + 1) H a'.H → (∀ p ∈ ip, s'.heap.get? p.1 = some p.2) → Inv (Z.cx a') ip σ a'.H s' → SegG (model Z.P Z.w) Z.A (Z.Phi n' a') c (k (.send .none)) fs s') :
    Z.Phi n a (.susp v g' l' k c p' fs) s := by
  obtain ⟨lo, hlo, hlc⟩ := loc_obj I
  refine ⟨hq, ⟨_, _, _, _, _, _, rfl⟩, x, H, (Z.n, lo) :: (Z.ag, Z.go) :: ip, rv, ret_of oa I, hy, ⟨fun p hp => ?_, List.mem_cons_of_mem _ List.mem_cons_self⟩, ?_⟩
  · rcases List.mem_cons.mp hp with rfl | hp
    · exact ⟨hlo, I.free, Nat.le_refl _, ok.npa, hlc⟩
    · rcases List.mem_cons.mp hp with rfl | hp
      · have q := I.pin (Z.ag, Z.go) (List.mem_append_left _ List.mem_cons_self)
        exact ⟨q.1, q.2.1, Nat.le_of_lt ok.agn, ok.apa, ok.notCell⟩
      · have q := I.pin p (List.mem_append_right _ hp)
        exact ⟨q.1, q.2.1, Nat.le_of_lt (gip p hp).2, (gip p hp).1, q.2.2.2.2⟩
  · cases n with
    | zero => trivial
    | succ n =>
      intro s' H' pc W hw
      exact hk n ⟨a.i + 1, cutS Z.n s', H', pc⟩ s' (anOk_cut W) rfl hw (fun p hp => (W.ks p (List.mem_cons_of_mem _ (List.mem_cons_of_mem _ hp))).1) (woken ok I hlo gip W)
/-- the turns of a yield from -/
theorem sg_yf (ok : Z.Ok) {ip : List (Addr × Obj)} (gip : ∀ p ∈ ip, p.1 ∉ Z.pa ∧ Z.n < p.1) {fs : List Frame} {it b : Addr} {xs : List V} {W : Nat → An → Hp → Prop} {σ : L2.St}
    (hh : (Z.A.over (.builtin "proto.yield_from" ⟨[.ref it, .bool false, .none], []⟩) fs).handled = none) (hsp : splitAtGen fs = none) (hgd : fs.any Frame.guarded = false)
    (hst : it ∉ Z.pa ∧ Z.n < it ∧ Z.ag ≠ it ∧ it ∉ frs Z.outer ∧ ∀ p ∈ ip, p.1 ≠ it)
    (turn : ∀ i a H, W i a H → SqL Z.K H b xs ∧ ∀ x, xs[i]? = some x → Z.J.yld a.i a.H x H ∧ ∀ s' H' pc, Z.J.wk (a.i + 1) H H' → W (i + 1) ⟨a.i + 1, s', H', pc⟩ H')
    (hend : ∀ (n : Nat) (a : An) (s : Shared) (H : Hp), AnOk Z a → Inv (Z.cx a) ip σ H s → W xs.length a H → SegG (model Z.P Z.w) Z.A (Z.Phi n a) (.builtin "proto.yield_from" ⟨[.ref it, .bool false, .none], []⟩) (.pure (.done (.ret .none))) fs s) :
    ∀ (r j n : Nat) (a : An) (s : Shared) (H : Hp), j + r = xs.length → AnOk Z a → Inv (Z.cx a) ip σ H s → s.heap.IsListIter it b j → H it = none → W j a H →
      SegG (model Z.P Z.w) Z.A (Z.Phi n a) (.builtin "proto.yield_from" ⟨[.ref it, .bool false, .none], []⟩) ((model Z.P Z.w).den (.builtin "proto.yield_from" ⟨[.ref it, .bool false, .none], []⟩)) fs s := by
  have noc : ∀ (x : Str) (c : Addr), Z.env.cells.lookup x ≠ some c := fun x c e => by rw [ok.cells] at e; cases e
  obtain ⟨h1, h2, h3, h4, h5⟩ := hst
  have hpi : ∀ {a : An}, AnOk Z a → ∀ p ∈ (Z.cx a).pn ++ ip, p.1 ≠ it := fun {a} oa p hp => by
    have hp : p ∈ ((Z.ag, Z.go) :: a.pn) ++ ip := hp
    rcases List.mem_append.mp hp with hp | hp
    · rcases List.mem_cons.mp hp with rfl | hp
      · exact h3
      · exact fun e => h1 (by rw [← e, ← oa.pa]; exact List.mem_map.mpr ⟨p, hp, rfl⟩)
    · exact h5 p hp
  have turned : ∀ {a : An} {s : Shared} {H : Hp} {h' : Heap}, AnOk Z a → Inv (Z.cx a) ip σ H s → H it = none → (∀ b o, b ≠ it → s.heap.get? b = some o → h'.get? b = some o) → Inv (Z.cx a) ip σ H { s with heap := h' } := fun {a s H h'} oa I hn hk =>
    I.turned (t' := s.toks) hk hn (Nat.ne_of_gt h2) (.inr (by show a.s.heap.objs.size ≤ it; rw [oa.sz]; exact Nat.le_of_lt h2)) (fun x c e => absurd e (noc x c)) (hpi oa)
  intro r
  induction r with
  | zero =>
    intro j n a s H hj oa I hit hn w
    have hj' : j = xs.length := by omega
    subst hj'
    obtain ⟨its, rv, p, hz⟩ := I.list (turn _ a H w).1
    have hl := rv.length
    rw [den_yf2]
    unfold Builtin.«proto.yield_from»
    try dsimp only
    refine sg_bind (wpAny_pure ?_)
    try dsimp only
    refine sg_bind (wpAny_attempt (wpAny_holding ?_))
    rw [if_neg Bool.false_ne_true, if_pos (show (Value.none == Value.none) = true from rfl)]
    refine wpAny_bind (wpAny_rule (wpAny_bind ?_))
    refine special_lst_end hh hit p.isList (by simp; omega) fun e h' hS hk => ?_
    obtain ⟨a2, o, vs, rfl, hoa, hcls, hdat, h5⟩ := hS
    try dsimp only
    refine sg_bind (wpAny_endsTurn hoa hcls ?_)
    try dsimp only
    rw [if_pos rfl]
    first
      | refine sg_bind (wpAny_rule ?_)
      | (rw [if_neg Bool.false_ne_true]; refine sg_bind (wpAny_rule ?_))
      | (rw [if_neg Bool.false_ne_true]; refine sg_bind (wpAny_pure ?_); refine sg_bind (wpAny_rule ?_))
    refine sg_bind (wpAny_field hoa hdat h5 ?_)
    exact hend n a _ H oa (turned oa I hn fun b o hb eb => hk b o hb eb) w
  | succ r ih =>
    intro j n a s H hj oa I hit hn w
    have hjl : j < xs.length := by omega
    obtain ⟨x, hx⟩ : ∃ x, xs[j]? = some x := ⟨xs[j], List.getElem?_eq_getElem hjl⟩
    obtain ⟨hq, step⟩ := turn _ a H w
    obtain ⟨hy, next⟩ := step x hx
    obtain ⟨its, rv, p, hz⟩ := I.list hq
    obtain ⟨u, hu, ru⟩ := rv.get hx
    rw [den_yf2]
    unfold Builtin.«proto.yield_from»
    try dsimp only
    refine sg_bind (wpAny_pure ?_)
    try dsimp only
    refine sg_bind (wpAny_attempt (wpAny_holding ?_))
    rw [if_neg Bool.false_ne_true, if_pos (show (Value.none == Value.none) = true from rfl)]
    refine wpAny_bind (wpAny_rule (wpAny_bind ?_))
    refine special_lst_item hit p.isList (x := u) (by simpa using hu) fun h' hit' sb => ?_
    have I1 := turned oa I hn (h' := h') fun b o hb e => (sb.2 b hb).trans e
    obtain ⟨oi, hoi, hoc, hod⟩ := id hit'
    refine wpAny_pure ?_
    try dsimp only
    refine sg_bind (wpAny_typeOf (T := "list_iterator") ⟨oi, hoi, hoc⟩ ?_)
    try dsimp only
    first
      | (refine sg_bind (wpAny_of_eq close_lst ?_); refine sg_bind (wpAny_pure ?_))
      | refine sg_bind (wpAny_bind (wpAny_of_eq close_lst (wpAny_pure ?_)))
      | refine sg_bind (wpAny_of_eq close_lst ?_)
    try dsimp only
    refine sg_bind (wpAny_sleptOver hoi hoc (by decide) ?_)
    have fo : ∀ b ∈ [it], FpOk (Z.cx a) ip H b := fun b hb => by
      obtain rfl : b = it := by simpa using hb
      exact ⟨hn, Nat.ne_of_gt h2, h4, .inr (by show a.s.heap.objs.size ≤ b; rw [oa.sz]; exact Nat.le_of_lt h2), fun x c e => absurd e (noc x c), hpi oa⟩
    have I2 := I1.pinned (fp := [it]) fo fun b hb => by
      obtain rfl : b = it := by simpa using hb
      exact ⟨oi, hoi, fun v q => by rw [hod] at q; cases q⟩
    refine sg_yield hsp rfl hgd fun g' l' p' hqq => ?_
    refine g2_sleepY ok (ip := ip ++ pinsAt [it] h') (fun q hq => ?_) oa I2 ru hy hqq fun n' a' s'' oa' hi' hw hpp I' => ?_
    · rcases List.mem_append.mp hq with hq | hq
      · exact gip q hq
      · obtain ⟨z, _⟩ := of_pinsAt hq
        have z : q.1 = it := by simpa using z
        rw [z]; exact ⟨h1, h2⟩
    · have ep : (it, oi) ∈ ip ++ pinsAt [it] h' := List.mem_append_right _ (mem_pinsAt (by simp) hoi)
      have e2 : s''.heap.get? it = some oi := hpp _ ep
      have n2 : a'.H it = none := (I'.pin (it, oi) (List.mem_append_right _ ep)).2.1
      show SegG _ _ _ _ (Builtin.Generator.sleptOver (.ref it) false >>= fun _ => _) fs s''
      refine sg_bind (wpAny_sleptOver e2 hoc (by decide) ?_)
      try dsimp only
      refine sg_bind (wpAny_pure ?_)
      obtain ⟨i', s0', H0', pn'⟩ := a'
      cases hi'
      exact sg_again (plainId_quiet plain_yf _) (ih (j + 1) n' _ s'' H0' (by omega) oa' I'.unpinned ⟨oi, e2, hoc, hod⟩ n2 (next s0' H0' pn' hw))
def t2From (Z : Gz) (te : An → TE) : TG2 := fun D a σ H => te a σ H fun x H1 => ∃ b xs, x = .ref b ∧ ∃ W : Nat → An → Hp → Prop, W 0 a H1 ∧ ∀ i a H, W i a H →
  SqL Z.K H b xs ∧ (∀ x, xs[i]? = some x → Z.J.yld a.i a.H x H ∧ ∀ s' H' pc, Z.J.wk (a.i + 1) H H' → W (i + 1) ⟨a.i + 1, s', H', pc⟩ H') ∧ (i = xs.length → D.nx a σ H)
theorem g2_yieldFrom {e : Expr} {te : An → TE} (he : ∀ a, PE (Z.cx a) e (te a)) (hi : interactive Z.env = false := by rfl) : GS2 Z (.Expr (.YieldFrom e yp) pos) (t2From Z te) := by
  refine ⟨fun n ip c fs Kc Jc gd lv a s σ H D g k oa I ht => ?_⟩
  rw [exec_Expr Z.env _ pos hi rfl]
  show SegG _ _ _ c (.at pos fun _ => ((eval e Z.env >>= fun v => (standAt yp >>= fun _ => yieldFrom Z.env v)) >>= fun x => dropValue (.YieldFrom e yp) pos x).wrap Kc Jc gd lv) fs s
  refine sg_at ?_
  refine sgw_bind2 ?_
  rw [g.over]
  refine wpAny_mono ((he a).run _ s σ H _ I ht) (fun v s1 hv => ?_) fun x s' hx => k.exc n a x s' oa hx
  obtain ⟨x, H1, I1, r1, b, xs, ex, W, w0, turn⟩ := hv
  subst ex
  obtain rfl : v = Value.ref b := r1
  obtain ⟨its, rv, p, hz⟩ := I1.list (turn 0 a H1 w0).1
  have hT : s1.TypeIs (.ref b) "list" := p.isList.typeIs
  have hne' : ¬ ((Value.type "list" == Value.type "coroutine") = true) := by decide
  refine sg_at ?_
  show SegG _ _ _ _ ((yieldFrom Z.env (.ref b)).wrap (fun y => (dropValue (.YieldFrom e yp) pos y).wrap Kc Jc gd lv) Jc gd lv) fs s1
  unfold yieldFrom
  refine sg_bindw (wpAny_typeOf hT ?_)
  rw [if_neg hne']
  refine sg_bindw (wpAny_holding ?_)
  refine wpAny_pyIter_list p.isList ?_
  have ksz : ∀ b o, s1.heap.get? b = some o → b ≠ s1.heap.objs.size := fun b o e => Nat.ne_of_lt (Heap.lt_size e)
  have kp : ∀ b o, s1.heap.get? b = some o → (s1.heap.push { cls := .type "list_iterator", data := .fields #[.ref b, .int 0 0] }).get? b = some o := fun b o e => Heap.get?_push_of_some _ e
  have I2 := I1.kept (t' := s1.toks) (h' := s1.heap.push { cls := .type "list_iterator", data := .fields #[.ref b, .int 0 0] }) fun b' o e => Heap.get?_push_of_some _ e
  refine sg_call fun p' => ?_
  refine sg_yf g.ok g.ip (xs := xs) (b := b) (W := W) (σ := σ) ?_ ?_ ?_ ?_ (fun i a H w => ⟨(turn i a H w).1, (turn i a H w).2.1⟩) (fun n' a' s' H' oa' I' w' => ?_) xs.length 0 n a _ H1 (Nat.zero_add _) oa I2 ⟨_, Heap.get?_push_size _ rfl, rfl, rfl⟩ (I1.hok.fresh (Nat.le_refl _)) w0
  · show (Z.A.over c fs).handled = none
    rw [g.over]; exact g.ok.hd
  · show (splitAtGen fs).map _ = none
    rw [g.split]; rfl
  · show (gd false || fs.any Frame.guarded) = false
    rw [g.gd, g.guard]; rfl
  · refine ⟨fun z => ?_, I1.lt, ?_, fun z => ?_, fun q hq => ksz q.1 _ (I1.pin q (List.mem_append_right _ hq)).1⟩
    · rw [← oa.pa] at z
      obtain ⟨q, hq, e⟩ := List.mem_map.mp z
      exact ksz q.1 _ (I1.pin q (List.mem_append_left _ (List.mem_cons_of_mem _ hq))).1 e
    · exact ksz Z.ag _ (I1.pin (Z.ag, Z.go) (List.mem_append_left _ List.mem_cons_self)).1
    · have z1 := g.ok.frl _ z
      have z2 : Z.n < s1.heap.objs.size := I1.lt
      exact absurd (Nat.lt_trans z1 z2) (Nat.lt_irrefl _)
  · exact sg_leaf (.ok (.ret .none)) (k.ok n' a' s' .next oa' ⟨σ, H', I', (turn _ a' H' w').2.2 rfl⟩)
end
end Sg


/-! changes: a generator, with its error -/
namespace FT
open PySem L2 TL ClX LiI Sg
def uT (ts : List (Str × Str)) (zs1 zs2 : List Str) (i : Nat) : List Tg := userT (i : Int) (pathOf ts (zs1.getD i "")) (pathOf ts (zs2.getD i ""))
def chT (ts : List (Str × Str)) (zs1 zs2 : List Str) (n : Nat) : List Tg := (List.range n).flatMap (uT ts zs1 zs2)
theorem chT_succ (ts : List (Str × Str)) (zs1 zs2 : List Str) (n : Nat) : chT ts zs1 zs2 (n + 1) = chT ts zs1 zs2 n ++ uT ts zs1 zs2 n := by
  unfold chT
  rw [List.range_succ, List.flatMap_append, List.flatMap_cons, List.flatMap_nil, List.append_nil]
theorem chT_pre (ts : List (Str × Str)) (zs1 zs2 : List Str) : ∀ (k n : Nat), ∃ r, chT ts zs1 zs2 (n + k) = chT ts zs1 zs2 n ++ r
  | 0, n => ⟨[], by rw [Nat.add_zero, List.append_nil]⟩
  | k + 1, n => by
    obtain ⟨r, e⟩ := chT_pre ts zs1 zs2 k n
    exact ⟨r ++ uT ts zs1 zs2 (n + k), by rw [← Nat.add_assoc, chT_succ, e, List.append_assoc]⟩
/-- the j-th toggle of the i-th user -/
theorem chT_at {ts : List (Str × Str)} {zs1 zs2 : List Str} {i n j : Nat} {z : Tg} (hi : i < n) (h : (uT ts zs1 zs2 i)[j]? = some z) : (chT ts zs1 zs2 n)[(chT ts zs1 zs2 i).length + j]? = some z := by
  obtain ⟨r, e⟩ := chT_pre ts zs1 zs2 (n - (i + 1)) (i + 1)
  rw [show n = i + 1 + (n - (i + 1)) by omega, e, chT_succ, List.append_assoc, List.getElem?_append_right (Nat.le_add_right _ _), Nat.add_sub_cancel_left, List.getElem?_append_left (List.getElem?_eq_some_iff.mp h).1]
  exact h
def itCh (ok : Bool) (CM : Addr) (zs : List Tg) (mu : Addr → Prop) : It2 where
  wk := fun _ Hs H => KpM mu Hs H ∧ ∀ b, mu b → H b ≠ none
  yld := fun i H v H' => ok = true ∧ Same H H' ∧ ∃ r z, v = .ref r ∧ zs[i]? = some z ∧ RowT H' r z
  fin := fun i H H' => ok = true ∧ i = zs.length ∧ Same H H'
  ex := fun i H cls d H' => ok = false ∧ cls = .ref CM ∧ d = none ∧ Same H H'
def spCh (CF CA CM : Addr) : SpG2 := fun vs H C => ∃ (y1 y2 x1 x2 : Addr) (ts us : List (Str × Str)) (zs1 zs2 : List Str), vs = [.ref y1, .ref y2] ∧ AAt CA H y1 x1 zs1 ∧ AAt CA H y2 x2 zs2 ∧ FAt CF H x1 ts ∧ FAt CF H x2 us ∧ TreeOk ts ∧ zs1.length ≤ 60 ∧
  (matB ts us zs1 zs2 = true → ts = us ∧ (∀ z ∈ zs1, Pl ts z) ∧ ∀ z ∈ zs2, Pl ts z) ∧
  C = fun J => ∃ mu : Addr → Prop, (∀ b, mu b → H b = none) ∧ J = itCh (matB ts us zs1 zs2) CM (chT ts zs1 zs2 zs1.length) mu
theorem kpm_all {mu : Addr → Prop} {H H0 H1 : Hp} (m : ∀ b, mu b → H b = none) (s : Same H H0) (k : KpM mu H0 H1) : Same H H1 := fun b u e => k b u (s b u e) fun z => by rw [m b z] at e; cases e
def MuIn (mu : Addr → Prop) (H : Hp) : Prop := ∀ b, mu b → H b ≠ none
theorem MuIn.mono {mu : Addr → Prop} {H H' : Hp} (m : MuIn mu H) (s : Same H H') : MuIn mu H' := fun b h z => m b h (s.free z)
section
variable {P : Program} {w : World} {K : PySem.W.Frag} {mg : Str → Option Value} {base : Heap}
abbrev NCh : List Str := ["one", "other", "above", "user", "place"]
theorem scCh : GScope NCh ["one", "other"] (defScope s_changes) := ⟨rfl, rfl, rfl, by decide +kernel, rfl, by decide +kernel, by decide +kernel⟩
theorem ok_changes {f fM fU fP CF CA CM pF gF pP gP : Addr} {mcA : Value} {fd fdM fdU fdP fd1 fd2 : FuncData} (F : Fun K "changes" "changes" s_changes f fd) (T : Nm mg) (O : FoC K CF) (B : Ac K mg CA mcA)
    (DM : Dn P w K mg base (L2.CX P w) 3 "need_match" ["one", "other"] (spMatchE CF CA CM) fM fdM) (DU : Dn P w K mg base CX0 1 "user_changes" ["user", "path", "goal"] spUserCh fU fdU) (DP : Dn P w K mg base CX0 1 "path_in" ["above", "place"] spPathIn fP fdP)
    (PF : PrN P w K mg base 1 CA "forest" (spAForest CA) pF gF fd1) (PP : PrN P w K mg base 1 CA "places" (spAPlaces CA) pP gP fd2) : GFn2 P w K mg base 4 f fd ["one", "other"] (spCh CF CA CM) := by
  refine okGen F scCh (by decide +kernel) (fun vs H C h => ?_) (fun cdv n A outer os ag g go pa J vs H C hr h hJ => ?_)
  · obtain ⟨y1, y2, x1, x2, ts, us, zs1, zs2, rfl, _⟩ := h
    rfl
  · obtain ⟨y1, y2, x1, x2, ts, us, zs1, zs2, rfl, h1, h2, fa, fb, o, n60, sm, rfl⟩ := h
    obtain ⟨mu, hm, rfl⟩ := hJ
    have nd := scCh.nd
    have hr1 : Room 1 _ := hr.mono (by decide)
    have hr2 : Room 2 _ := hr.mono (by decide)
    have big : 2000 ≤ sizeLine := by decide
    have few := o.few
    refine ⟨_, g2s_cons (g2_ps fun a => ps_expr (pe_call DM.ok hr rfl DM.mgn DM.kp DM.bn .nil (passes_call takes_gz (fun _ _ _ _ h => h)) (pa_cons (pv 0) (pa_cons (pv 1) pa_nil))))
      (g2s_cons (g2_ps fun a => ps_set (i := 2) nd rfl (.inl rfl) (pe_fld (pe_prop (pv 0) B.cl PF.pr PF.fn hr2 PF.bn .nil pass0 (by rfl)) rfl))
      (g2s_cons (g2_for (fun a => pi_enum rfl T.enu (pa_cons (pe_prop (pv 0) B.cl PP.pr PP.fn hr2 PP.bn .nil pass0 (by rfl)) pa_nil)) (fun a => pg_tup rfl (pgs_cons (pg_name (i := 3) nd rfl (.inl rfl)) (pgs_cons (pg_name (i := 4) nd rfl (.inl rfl)) pgs_nil)))
        (g2s_cons (g2_yieldFrom fun a => pe_call DU.ok hr1 rfl DU.mgn DU.kp DU.bn .nil pass0 (pa_cons (pv 3) (pa_cons (pe_call DP.ok hr1 rfl DP.mgn DP.kp DP.bn .nil pass0 (pa_cons (pv 2) (pa_cons (pv 4) pa_nil)))
          (pa_cons (pe_call DP.ok hr1 rfl DP.mgn DP.kp DP.bn .nil pass0 (pa_cons (pv 2) (pa_cons (pe_ix ix_list (pe_prop (pv 1) B.cl PP.pr PP.fn hr2 PP.bn .nil pass0 (by rfl)) (pv 3) (fun _ _ => rfl)) pa_nil))) pa_nil)))) g2s_nil)) g2s_nil)), ?_⟩
    intro s' Hw pc wk
    obtain ⟨km, mt⟩ := wk
    have kw := kpm_all hm Same.refl km
    refine ⟨_, rfl, _, rfl, y1, y2, x1, x2, ts, us, zs1, zs2, rfl, h1.mono kw, h2.mono kw, fa.mono kw, fb.mono kw, ?_⟩
    cases eb : matB ts us zs1 zs2 with
    | false =>
      rw [if_neg (by decide)]
      exact fun H' s' => ⟨rfl, rfl, rfl, s'⟩
    | true =>
    rw [if_pos rfl]
    obtain ⟨e0, pl1, pl2⟩ := sm eb
    subst e0
    have el : zs1.length = zs2.length := by
      unfold matB at eb
      rw [Bool.and_eq_true] at eb
      exact of_decide_eq_true eb.2
    intro H1 s1
    obtain ⟨d1, p1, a1, b1⟩ := id h1
    obtain ⟨d2, p2, a2, b2'⟩ := id h2
    obtain ⟨dx, dq, hx, hd⟩ := id fa
    have k1 := kw.trans s1
    refine ⟨_, rfl, y1, d1, _, rfl, k1 _ _ a1, y1, x1, zs1, rfl, h1.mono k1, x1, CF, dx, _, .ref dq, rfl, k1 _ _ hx, O.cl, O.nA, rfl, ?_⟩
    refine ⟨_, rfl, y1, d1, _, rfl, k1 _ _ a1, y1, x1, zs1, rfl, h1.mono k1, fun l1 n1 => ⟨l1, _, rfl, SqL.of upd_same, ?_⟩⟩
    have t1 := same_new (o := .lst (zs1.map V.str)) n1
    have m1 : ¬ mu l1 := fun z => mt l1 z (s1.free n1)
    obtain ⟨H2, e2⟩ : ∃ X, X = upd H1 l1 (.lst (zs1.map V.str)) := ⟨_, rfl⟩
    rw [← e2] at t1 ⊢
    have hl : H2 l1 = some (.lst (zs1.map V.str)) := by rw [e2]; exact upd_same
    clear e2
    have s02 := s1.trans t1
    refine ⟨fun i m a σ H' => m = zs1.length - i ∧ i ≤ zs1.length ∧ a.i = (chT ts zs1 zs2 i).length ∧ (∃ u3 u4, σ = [some (.ref y1), some (.ref y2), some (.ref dq), u3, u4]) ∧ Same a.H H' ∧ H' l1 = some (.lst (zs1.map V.str)) ∧ Same H H' ∧ MuIn mu H', ⟨zs1.length, by simp, Nat.zero_le _, rfl, ⟨_, _, rfl⟩, s02, hl, k1.trans t1, MuIn.mono mt s02⟩, ?_⟩
    rintro i m a σ Ha ⟨rfl, hi, ai, ⟨u3, u4, rfl⟩, sa, hl1, kh, mh⟩
    by_cases hlt : i < zs1.length
    · refine .inr ⟨walk_enum.goes i Ha (by rw [List.length_map]; exact hlt) (SqL.of hl1), fun a' σ' H' => zs1.length - (i + 1) = zs1.length - (i + 1) ∧ i + 1 ≤ zs1.length ∧ a'.i = (chT ts zs1 zs2 (i + 1)).length ∧ (∃ u3 u4, σ' = [some (.ref y1), some (.ref y2), some (.ref dq), u3, u4]) ∧ Same a'.H H' ∧ H' l1 = some (.lst (zs1.map V.str)) ∧ Same H H' ∧ MuIn mu H',
        fun a' σ' H' z => ⟨zs1.length - (i + 1), by omega, z⟩, fun xv H' yy => ?_⟩
      obtain ⟨T', y0, z0, eT, nT, eH, ey, ez⟩ := (walk_enum (K := K) (a := l1) (xs := zs1.map V.str)).yields i Ha xv H' (by rw [List.length_map]; exact hlt) (SqL.of hl1) yy
      subst eT
      subst eH
      cases ey
      obtain ⟨b, hb, rfl⟩ := map_of (f := V.str) (l := zs1) (show (zs1.map V.str)[i]? = some z0 from ez)
      have sT := same_new (o := .tup [.int (i : Int), .str b]) nT
      obtain ⟨b2, hb2⟩ : ∃ b2, zs2[i]? = some b2 := ⟨_, List.getElem?_eq_getElem (by omega)⟩
      have g1 : zs1.getD i "" = b := by rw [List.getD_eq_getElem?_getD, hb] <;> rfl
      have g2 : zs2.getD i "" = b2 := by rw [List.getD_eq_getElem?_getD, hb2] <;> rfl
      have P1 := pl1 b (List.mem_of_getElem? hb)
      have P2 := pl2 b2 (List.mem_of_getElem? hb2)
      have kT := kh.trans sT
      refine ⟨T', [.int (i : Int), .str b], rfl, .inl (.inl upd_same), rfl, _, _, rfl, _, _, rfl, rfl, ?_⟩
      refine ⟨_, rfl, _, rfl, _, rfl, dq, ts, b, rfl, .inl (kT _ _ hd), o, P1, fun pa H3 s3 npa hpa => ?_⟩
      have k3 := kT.trans s3
      refine ⟨_, rfl, _, rfl, y2, d2, _, rfl, k3 _ _ a2, y2, x2, zs2, rfl, h2.mono k3, fun l2 n2 => ?_⟩
      have t2 := same_new (o := .lst (zs2.map V.str)) n2
      have k4 := k3.trans t2
      refine ⟨_, rfl, l2, _, _, _, rfl, rfl, SqL.of upd_same, atI_nat (by rw [List.getElem?_map, hb2] <;> rfl), dq, ts, b2, rfl, .inl (k4 _ _ hd), o, P2, fun pb H5 s5 npb hpb => ?_⟩
      have lpa := path_len ts b
      have lpb := path_len ts b2
      refine ⟨(i : Int), pa, pb, pathOf ts b, pathOf ts b2, rfl, s5 _ _ (t2 _ _ hpa), hpb, by omega, by omega, fun p rs H6 s6 np hp pr fr => ?_⟩
      have sA6 : Same Ha H6 := (((sT.trans s3).trans t2).trans s5).trans s6
      have eu : userT (i : Int) (pathOf ts b) (pathOf ts b2) = uT ts zs1 zs2 i := by unfold uT; rw [g1, g2]
      rw [eu] at pr
      have lr := pair_lenZ pr
      have sA5 : Same Ha H5 := ((sT.trans s3).trans t2).trans s5
      have pm : ¬ mu p := fun z => mh p z (sA5.free np)
      have fm : ∀ r ∈ rs, ¬ mu r := fun r hr z => mh r z (sA5.free (fr r hr))
      refine ⟨p, rs.map V.ref, rfl, fun j a H' => a.i = (chT ts zs1 zs2 i).length + j ∧ Same a.H H' ∧ H' p = some (.lst (rs.map V.ref)) ∧ H' l1 = some (.lst (zs1.map V.str)) ∧ Same H H' ∧ MuIn mu H' ∧ ∀ (j : Nat) (r : Addr) (z : Tg), rs[j]? = some r → (uT ts zs1 zs2 i)[j]? = some z → RowT H' r z, ⟨ai, sa.trans sA6, hp, sA6 _ _ hl1, kh.trans sA6, mh.mono sA6, fun j r z h1 h2 => ?_⟩, fun j a H' w => ?_⟩
      · obtain ⟨z', h3, h4⟩ := LiI.paired_get pr h1
        rw [h2] at h3
        cases h3
        exact h4
      · obtain ⟨aj, sj, hpj, hlj, kj, mj, rj⟩ := w
        refine ⟨SqL.of hpj, fun xv hx => ?_, fun ej => ?_⟩
        · obtain ⟨r, hr, rfl⟩ := map_of (f := V.ref) (l := rs) hx
          obtain ⟨z, hz, _⟩ := LiI.paired_get pr hr
          refine ⟨⟨rfl, sj, r, z, rfl, by rw [aj]; exact chT_at hlt hz, rj j r z hr hz⟩, fun s'' H'' pc'' wk => ?_⟩
          obtain ⟨km', mt'⟩ := wk
          refine ⟨by show a.i + 1 = _; omega, Same.refl, km' _ _ hpj pm, km' _ _ hlj m1, kpm_all hm kj km', mt', fun j' r' z' h1 h2 => km' _ _ (rj j' r' z' h1 h2) (fm r' (List.mem_of_getElem? h1))⟩
        · refine ⟨rfl, hlt, ?_, ⟨_, _, rfl⟩, sj, hlj, kj, mj⟩
          rw [aj, ej, List.length_map, lr, chT_succ, List.length_append]
    · have e : i = zs1.length := by omega
      refine .inl ⟨?_, rfl, ?_, sa⟩
      · have := (walk_enum (K := K) (a := l1) (xs := zs1.map V.str)).stops Ha (SqL.of hl1)
        rw [List.length_map] at this
        rw [e]
        exact this
      · rw [ai, e]
end
end FT


/-! the drawing state of four items; take, pick, order, names. -/
namespace FT
open PySem L2 TL ClX
/-- the drawing state: at d the list [cells, next, mixed, number], the cells at c -/
def DrawAt (H : Hp) (d c : Addr) : Prop := ∃ (nx mx ct : Int) (cells : List Int), H d = some (.lst [.ref c, .int nx, .int mx, .int ct]) ∧ H c = some (.lst (cells.map V.int)) ∧ cells ≠ [] ∧ cells.length ≤ 63 ∧ (∀ z ∈ cells, 0 ≤ z) ∧ 0 ≤ nx ∧ 0 ≤ mx ∧ mx < 2147483647 ∧ 0 ≤ ct
/-- all that was tracked, but d and c, is as it was -/
def Keep (d c : Addr) (H H' : Hp) : Prop := ∀ b o, b ≠ d → b ≠ c → H b = some o → H' b = some o
theorem Keep.refl {d c : Addr} {H : Hp} : Keep d c H H := fun _ _ _ _ e => e
theorem Keep.trans {d c : Addr} {H H1 H2 : Hp} (a : Keep d c H H1) (b : Keep d c H1 H2) : Keep d c H H2 := fun x o h h' e => b x o h h' (a x o h h' e)
theorem Keep.of_same {d c : Addr} {H H' : Hp} (s : Same H H') : Keep d c H H' := fun b o _ _ e => s b o e
theorem DrawAt.mono {H H' : Hp} {d c : Addr} (s : Same H H') (x : DrawAt H d c) : DrawAt H' d c := by
  obtain ⟨nx, mx, ct, cells, h1, h2, r⟩ := x
  exact ⟨nx, mx, ct, cells, s _ _ h1, s _ _ h2, r⟩
theorem DrawAt.apart {H : Hp} {d c p : Addr} (x : DrawAt H d c) (n : H p = none) : p ≠ d ∧ p ≠ c := by
  obtain ⟨nx, mx, ct, cells, h1, h2, r⟩ := x
  exact ⟨(ne_of_none h1 n).symm, (ne_of_none h2 n).symm⟩
theorem ints_ne {ns : List Int} {c : Addr} {r : List V} : ns.map V.int ≠ V.ref c :: r := by
  cases ns with
  | nil => intro h; cases h
  | cons a t => intro h; cases h
theorem DrawAt.ne {H : Hp} {d c : Addr} (x : DrawAt H d c) : c ≠ d := by
  obtain ⟨_, _, _, _, h1, h2, _⟩ := x
  exact ne_of h2 h1 fun z => ints_ne (HO.lst.inj z)
def spBegin (K : PySem.W.Frag) : Sp := fun vs H Q _ => ∃ (a : Addr) (ns : List Int), vs = [.ref a] ∧ SqL K H a (ns.map V.int) ∧ ns.length ≤ 63 ∧
  ∀ (H' : Hp) (d c : Addr), Same H H' → H d = none → H c = none → DrawAt H' d c → Q (.ref d) H'
def spDraw : Sp := fun vs H Q _ => ∃ (d c : Addr) (n : Int), vs = [.ref d, .int n] ∧ DrawAt H d c ∧ 0 < n ∧ n.natAbs < 2 ^ 200 ∧
  ∀ (k : Int) (H' : Hp), 0 ≤ k → k < n → DrawAt H' d c → Keep d c H H' → Q (.int k) H'
/-- an item of a list, a sign of a text -/
def Items (K : PySem.W.Frag) (H : Hp) (d c : Addr) (v : V) (n : Nat) (P : Nat → V → Prop) : Prop :=
  (∃ (l : Addr) (xs : List V), v = .ref l ∧ l ≠ d ∧ l ≠ c ∧ H l = some (.lst xs) ∧ xs.length = n ∧ ∀ i x, xs[i]? = some x → P i x) ∨
  (∃ z : Str, v = .str z ∧ z.length = n ∧ ∀ i s, z.cps.toList[i]? = some s → P i (.str ⟨#[s]⟩))
def spPick (K : PySem.W.Frag) : Sp := fun vs H Q _ => ∃ (d c : Addr) (v : V) (n : Nat) (P : Nat → V → Prop), vs = [.ref d, v] ∧ DrawAt H d c ∧ Items K H d c v n P ∧ 0 < n ∧ n < 1000 ∧
  ∀ (i : Nat) (x : V) (H' : Hp), P i x → DrawAt H' d c → Keep d c H H' → Q x H'
/-- the list of the magnitudes -/
def mags (ms : List Int) : List Int := ms.map fun i => if i < 0 then -i else i
theorem mags_nn (ms : List Int) : ∀ z ∈ mags ms, 0 ≤ z := fun z h => by
  obtain ⟨i, _, rfl⟩ := List.mem_map.mp h
  split <;> omega
theorem at_mod {cells : List Int} {nx : Int} (ne : cells ≠ []) : ∃ (j : Nat) (z : Int), nx % ((cells.map V.int).length : Int) = (j : Int) ∧ j < cells.length ∧ cells[j]? = some z ∧ z ∈ cells := by
  have l0 : 0 < cells.length := List.length_pos_iff.mpr ne
  rw [List.length_map]
  have h1 : 0 ≤ nx % (cells.length : Int) := Int.emod_nonneg _ (by omega)
  have h2 : nx % (cells.length : Int) < (cells.length : Int) := Int.emod_lt_of_pos _ (by omega)
  refine ⟨(nx % (cells.length : Int)).toNat, cells[(nx % (cells.length : Int)).toNat]'(by omega), by omega, by omega, by simp, List.getElem_mem _⟩
section
variable {P : Program} {w : World} {K : PySem.W.Frag} {mg : Str → Option Value} {base : Heap}
theorem scBegin : FnScope ["_law_script", "_law_cell"] ["_law_script"] (defScope s__law_begin) := ⟨rfl, rfl, rfl, by decide +kernel, rfl, by decide +kernel, by decide +kernel⟩
theorem ok_begin {f : Addr} {fd : FuncData} (F : Fun K "_law_begin" "_law_begin" s__law_begin f fd) (T : Nm mg) : FnOk P w K mg base CX0 1 f fd ["_law_script"] (spBegin K) := by
  refine F.ok scBegin (fun vs H Q E h => ?_) (fun cdv A outer s H vs Q E hr h => ?_)
  · obtain ⟨a, ns, rfl, _⟩ := h
    rfl
  · obtain ⟨a, ns, rfl, hS, hlen, k⟩ := h
    refine ⟨_, pss_one (ps_ret (pe_lst (pa_cons (pe_orT (pe_lc (own := [("_law_cell", 1)]) (g := gName 1) (tt := tYes) rfl scBegin.nd (pi_list (pe_slice sl_list (pv 0) po_none (po_some pe_int))) (blkOk_by (N := ["_law_script", "_law_cell"]) (sc := defScope s__law_begin) (by decide +kernel))
      (fun _ _ _ _ _ => pg_name (i := 1) scBegin.nd rfl (Or.inl rfl)) (fun _ _ _ _ _ => pts_nil) (fun _ _ _ _ _ => pe_callB call_abs (by rfl) T.abs (by decide +kernel) (pa_cons (pv 1) pa_nil))) (pe_one (pe_lst (pa_cons pe_int pa_nil))))
      (pa_cons pe_int (pa_cons pe_int (pa_cons pe_int pa_nil)))))), ?_⟩
    obtain ⟨ms, em, lm⟩ := cut_ints ns none (some 63)
    refine ⟨_, rfl, _, rfl, a, _, rfl, hS, fun p np => ?_⟩
    rw [em]
    have s1 : Same H (upd H p (.lst (ms.map V.int))) := same_new np
    refine ⟨p, rfl, ⟨_, SqL.of upd_same⟩, fun D nD => lc_list (xs := ms.map V.int) (fun i H' => Same (upd H p (.lst (ms.map V.int))) H' ∧ H' D = some (.lst ((mags (ms.take i)).map V.int))) ?_ ?_ ?_ ?_⟩
    · exact ⟨same_new nD, by rw [upd_same, List.take_zero] <;> rfl⟩
    · exact fun i H' _ q => Same.sql q.1 (SqL.of upd_same)
    · intro i x H' hx ⟨q1, q2⟩
      obtain ⟨z, hz, rfl⟩ : ∃ z, ms[i]? = some z ∧ x = V.int z := by
        rw [List.getElem?_map] at hx
        obtain ⟨z, hz, rfl⟩ := Option.map_eq_some_iff.mp hx
        exact ⟨z, hz, rfl⟩
      refine ⟨rfl, ?_⟩
      refine ⟨_, rfl, z, rfl, _, q2, ?_, ?_⟩
      · rw [List.length_map]
        unfold mags
        rw [List.length_map, List.length_take]
        exact Nat.lt_of_le_of_lt (Nat.min_le_right _ _) (Nat.lt_of_le_of_lt (Nat.le_trans lm hlen) (by decide))
      · refine ⟨fun b o e => ?_, ?_⟩
        · rw [upd_ne (ne_of_none e nD)]
          exact q1 b o e
        · rw [upd_same, take_more hz]
          unfold mags
          rw [List.map_append, List.map_append] <;> rfl
    · intro H' ⟨q1, q2⟩
      rw [List.length_map, List.take_length] at q2
      have sH : Same H H' := Same.trans s1 q1
      refine ⟨_, .inl ⟨_, SqL.of q2, rfl⟩, ?_⟩
      have hD : H D = none := Same.free s1 nD
      refine ite2 (fun nz => ?_) (fun nz => ?_)
      · refine ⟨by show 4 ≤ sizeLine; decide, fun d nd => ?_⟩
        have ncd : D ≠ d := ne_of_none q2 nd
        refine k _ d D (Same.trans sH (same_new nd)) (Same.free sH nd) hD ⟨0, 1, 0, mags ms, upd_same, by rw [upd_ne ncd]; exact q2, fun z => ?_, ?_, mags_nn ms, by omega, by omega, by omega, by omega⟩
        · rw [z] at nz
          cases nz
        · unfold mags
          rw [List.length_map]
          exact Nat.le_trans lm hlen
      · refine ⟨by show 1 ≤ sizeLine; decide, fun c nc => ?_⟩
        refine ⟨by show 4 ≤ sizeLine; decide, fun d nd => ?_⟩
        have ncd : c ≠ d := ne_of_none upd_same nd
        have nd' : H' d = none := by
          rw [upd_ne (Ne.symm ncd)] at nd
          exact nd
        exact k _ d c (Same.trans sH (Same.trans (same_new nc) (same_new nd))) (Same.free sH nd') (Same.free sH nc) ⟨0, 1, 0, [7], upd_same, by rw [upd_ne ncd, upd_same] <;> rfl, by simp, by decide, by simp, by omega, by omega, by omega, by omega⟩
theorem scDraw : FnScope ["_law_draw", "_law_size", "_law_cells", "_law_at", "_law_cell"] ["_law_draw", "_law_size"] (defScope s__law_take) := ⟨rfl, rfl, rfl, by decide +kernel, rfl, by decide +kernel, by decide +kernel⟩
theorem ok_draw {f : Addr} {fd : FuncData} (F : Fun K "_law_take" "_law_take" s__law_take f fd) (T : Nm mg) : FnOk P w K mg base CX0 1 f fd ["_law_draw", "_law_size"] spDraw := by
  refine F.ok scDraw (fun vs H Q E h => ?_) (fun cdv A outer s H vs Q E hr h => ?_)
  · obtain ⟨d, c, n, rfl, _⟩ := h
    rfl
  · obtain ⟨d, c, n, rfl, hD, n0, n1, k⟩ := h
    have ncd := hD.ne
    obtain ⟨nx, mx, ct, cells, hd, hc, ne, len, nn, a0, m0, m1, c0⟩ := hD
    refine ⟨_, pss_cons (ps_set (i := 2) scDraw.nd rfl (.inl rfl) (pe_ix ix_list (pv 0) pe_int (fun _ _ => rfl)))
      (pss_cons (ps_set (i := 3) scDraw.nd rfl (.inl rfl) (pe_op op_mod (pe_ix ix_list (pv 0) pe_int (fun _ _ => rfl)) (pe_callB call_len_seq (by rfl) T.len PySem.boot_len (pa_cons (pv 2) pa_nil))))
      (pss_cons (ps_set (i := 4) scDraw.nd rfl (.inl rfl) (pe_ix ix_list (pv 2) (pv 3) (fun _ _ => rfl)))
      (pss_cons (ps_if (pt_cmpR op_ge (pv 4) (pe_op op_pow pe_int pe_int) (nomark _))
        (pss_cons (ps_asg (pe_op op_fdivW (pv 4) (pv 1)) (pg_sub (pv 2) (pv 3) set_list)) (pss_one (ps_ret (pe_op op_mod (pv 4) (pv 1))))) pss_nil)
      (pss_cons (ps_asg (pe_op op_add (pe_ix ix_list (pv 0) pe_int (fun _ _ => rfl)) pe_int) (pg_sub (pv 0) pe_int set_list))
      (pss_cons (ps_asg (pe_op op_add (pe_ix ix_list (pv 0) pe_int (fun _ _ => rfl)) pe_int) (pg_sub (pv 0) pe_int set_list))
      (pss_cons (ps_asg (pe_op op_mod (pe_op op_add (pe_op op_add (pe_op op_add (pe_op op_mul (pe_ix ix_list (pv 0) pe_int (fun _ _ => rfl)) pe_int) (pv 4)) (pe_op op_mul pe_int (pe_ix ix_list (pv 0) pe_int (fun _ _ => rfl)))) pe_int) pe_int) (pg_sub (pv 0) pe_int set_list))
      (pss_one (ps_ret (pe_op op_mod (pe_op op_fdiv (pe_op op_mod (pe_op op_mul (pe_ix ix_list (pv 0) pe_int (fun _ _ => rfl)) (pe_ix ix_list (pv 0) pe_int (fun _ _ => rfl))) pe_int) pe_int) (pv 1)))))))))), ?_⟩
    obtain ⟨j, z, ej, jl, hz, zm⟩ := at_mod (nx := nx) ne
    have z0 := nn z zm
    have l0 : (0 : Int) < ((cells.map V.int).length : Int) := by
      have := List.length_pos_iff.mpr ne
      rw [List.length_map]
      omega
    refine ⟨_, rfl, d, _, 0, .ref c, rfl, rfl, SqL.of hd, rfl, ?_⟩
    refine ⟨_, rfl, d, _, 1, .int nx, rfl, rfl, SqL.of hd, rfl, _, rfl, c, _, rfl, .inl (SqL.of hc), _, _, rfl, rfl, l0, ?_⟩
    refine ⟨_, rfl, _, rfl, c, _, _, .int z, rfl, rfl, SqL.of hc, by rw [ej]; exact atI_nat (map_at hz), ?_⟩
    refine ⟨_, rfl, 10, 18, rfl, rfl, ⟨by decide, by decide, by decide⟩, _, _, rfl, rfl, _, rfl, ?_⟩
    refine ite2 (fun _ => ?_) (fun _ => ?_)
    · refine ⟨_, rfl, _, rfl, _, _, rfl, rfl, wide_div n0 n1 (by decide) (by decide), _, rfl, _, rfl, c, _, _, j, rfl, rfl, hc, by rw [ej]; exact ixN_nat (by rw [List.length_map]; exact jl), ?_⟩
      rw [show (cells.map V.int).set j (.int (z / n)) = (cells.set j (z / n)).map V.int by rw [List.map_set]]
      refine ⟨_, rfl, _, rfl, _, _, rfl, rfl, n0, ?_⟩
      refine k _ _ (Int.emod_nonneg _ (by omega)) (Int.emod_lt_of_pos _ n0) ⟨nx, mx, ct, _, by rw [upd_ne ncd.symm]; exact hd, upd_same, ?_, by rw [List.length_set]; exact len, ?_, a0, m0, m1, c0⟩ (fun b o _ h2 e => by rw [upd_ne h2]; exact e)
      · intro e
        have := congrArg List.length e
        rw [List.length_set] at this
        exact ne (List.length_eq_zero_iff.mp this)
      · intro y hy
        rcases List.mem_or_eq_of_mem_set hy with h | h
        · exact nn y h
        · rw [h]
          exact Int.ediv_nonneg z0 (by omega)
    · refine ⟨_, rfl, d, _, 1, .int nx, rfl, rfl, SqL.of hd, rfl, _, _, rfl, rfl, _, rfl, d, _, 1, 1, rfl, rfl, hd, rfl, ?_⟩
      refine ⟨_, rfl, d, _, 3, .int ct, rfl, rfl, SqL.of upd_same, rfl, _, _, rfl, rfl, _, rfl, d, _, 3, 3, rfl, rfl, upd_same, rfl, ?_⟩
      rw [upd_upd]
      refine ⟨_, rfl, d, _, 2, .int mx, rfl, rfl, SqL.of upd_same, rfl, _, _, rfl, rfl, .inl ⟨by omega, by omega⟩, _, rfl, _, _, rfl, rfl, _, rfl, d, _, 3, .int (ct + 1), rfl, rfl, SqL.of upd_same, rfl, _, _, rfl, rfl, .inl ⟨by decide, by decide⟩,
        _, _, rfl, rfl, _, _, rfl, rfl, _, _, rfl, rfl, (by show (0 : Int) < 2147483647; decide), _, rfl, d, _, 2, 2, rfl, rfl, upd_same, rfl, ?_⟩
      rw [upd_upd]
      obtain ⟨m, em⟩ : ∃ m, m = (mx * 48271 + z + 7919 * (ct + 1) + 12345) % 2147483647 := ⟨_, rfl⟩
      have h0 : 0 ≤ m := by rw [em]; exact Int.emod_nonneg _ (by decide)
      have h1 : m < 2147483647 := by rw [em]; exact Int.emod_lt_of_pos _ (by decide)
      refine ⟨_, rfl, d, _, 2, .int m, rfl, rfl, SqL.of upd_same, by rw [em] <;> rfl, _, rfl, d, _, 2, .int m, rfl, rfl, SqL.of upd_same, by rw [em] <;> rfl, _, _, rfl, rfl, .inl ⟨by omega, by omega⟩, _, _, rfl, rfl, (by show (0 : Int) < 2147483629; decide), _, _, rfl, rfl, ⟨by decide, by decide⟩,
        _, rfl, _, _, rfl, rfl, n0, ?_⟩
      exact k _ _ (Int.emod_nonneg _ (by omega)) (Int.emod_lt_of_pos _ n0) ⟨nx + 1, m, ct + 1, cells, by rw [upd_same, em] <;> rfl, by rw [upd_ne ncd]; exact hc, ne, len, nn, by omega, h0, h1, by omega⟩ (fun b o h2 _ e => by rw [upd_ne h2]; exact e)
theorem scPick : FnScope ["_law_draw", "_law_some"] ["_law_draw", "_law_some"] (defScope s__law_pick) := ⟨rfl, rfl, rfl, by decide +kernel, rfl, by decide +kernel, by decide +kernel⟩
theorem ok_pick {f fT : Addr} {fd fdT : FuncData} (F : Fun K "_law_pick" "_law_pick" s__law_pick f fd) (T : Nm mg) (FT : Fun K "_law_take" "_law_take" s__law_take fT fdT) (bT : Binds K fdT ["_law_draw", "_law_size"] []) (gT : mg "_law_take" = some (.ref fT)) :
    FnOk P w K mg base CX0 2 f fd ["_law_draw", "_law_some"] (spPick K) := by
  have GT : FnOk P w K mg base CX0 1 fT fdT ["_law_draw", "_law_size"] spDraw := ok_draw FT T
  refine F.ok scPick (fun vs H Q E h => ?_) (fun cdv A outer s H vs Q E hr h => ?_)
  · obtain ⟨d, c, v, n, P, rfl, _⟩ := h
    rfl
  · obtain ⟨d, c, v, n, Pr, rfl, hD, it, x0, x1, k⟩ := h
    have hr1 : Room 1 _ := hr.mono (by decide)
    refine ⟨_, pss_one (ps_ret (pe_ix ix_seq (pv 1) (pe_call GT hr1 rfl gT FT.kp bT .nil pass0 (pa_cons (pv 0) (pa_cons (pe_callB call_len (by rfl) T.len PySem.boot_len (pa_cons (pv 1) pa_nil)) pa_nil))) (fun _ _ => rfl))), ?_⟩
    have small : ∀ n : Nat, n < 1000 → ((n : Int)).natAbs < 2 ^ 200 := fun n hn => by
      rw [Int.natAbs_natCast]
      exact Nat.lt_trans hn (by decide)
    rcases it with ⟨l, xs, rfl, nd, nc, hl, en, hp⟩ | ⟨z, rfl, en, hp⟩
    · refine ⟨_, rfl, _, rfl, _, rfl, _, xs.length, rfl, .inl ⟨xs, SqL.of hl, rfl⟩, d, c, _, rfl, hD, by omega, small _ (by omega), fun i H' i0 i1 hD' off => ?_⟩
      have hi : i.toNat < xs.length := by omega
      have e : xs[i.toNat]? = some xs[i.toNat] := List.getElem?_eq_getElem hi
      have e2 := atI_nat e
      rw [show ((i.toNat : Nat) : Int) = i by omega] at e2
      exact .inl ⟨l, xs, i, xs[i.toNat], rfl, rfl, SqL.of (off l _ nd nc hl), e2, k i.toNat _ H' (hp _ _ e) hD' off⟩
    · have zl : z.length ≤ sizeLine := Nat.le_trans (by omega : z.length ≤ 1000) (by decide)
      refine ⟨_, rfl, _, rfl, _, rfl, _, z.length, rfl, ⟨zl, rfl⟩, d, c, _, rfl, hD, by omega, small _ (by omega), fun i H' i0 i1 hD' off => ?_⟩
      have hi : i.toNat < z.cps.toList.length := by
        have : z.length = z.cps.toList.length := by simp [Str.length]
        omega
      have e : z.cps.toList[i.toNat]? = some z.cps.toList[i.toNat] := List.getElem?_eq_getElem hi
      have e2 := atI_nat e
      rw [show ((i.toNat : Nat) : Int) = i by omega] at e2
      exact .inr (.inr ⟨z, i, _, rfl, rfl, zl, e2, k i.toNat _ H' (hp _ _ e) hD' off⟩)
end

/-- list(x): x a list of texts, or a dict of texts -/
def Texts (K : PySem.W.Frag) (H : Hp) (a : Addr) (ts : List Str) : Prop := SqL K H a (ts.map V.str) ∨ ∃ kvs, Rd H a (.dK kvs) ∧ kvs.map (·.1) = ts.map Sum.inr
theorem call_texts {X : Cx} (hcalm : X.calm = true) : CallR X (.type "list") (fun xs H Q => ∃ (a : Addr) (ts : List Str), xs = [.ref a] ∧ Texts X.K H a ts ∧ ∀ p, H p = none → Q (.ref p) (upd H p (.lst (ts.map V.str)))) := by
  intro pins s σ H xs us Q I r h
  obtain ⟨a, ts, rfl, t, q⟩ := h
  rcases t with t | ⟨kvs, t, e⟩
  · exact call_list_of pins s σ H _ us Q I r ⟨a, _, rfl, .inl t, q⟩
  · refine call_listD hcalm pins s σ H _ us Q I r ⟨a, kvs, rfl, t, fun p np => ?_⟩
    have ek : (kvs.map fun kv => kV kv.1) = ts.map V.str := by
      have z := congrArg (List.map kV) e
      rw [List.map_map, List.map_map] at z
      exact z
    rw [ek]
    exact q p np
theorem DrawAt.off {H : Hp} {d c p : Addr} {o : HO} (x : DrawAt H d c) (n1 : p ≠ d) (n2 : p ≠ c) : DrawAt (upd H p o) d c := by
  obtain ⟨nx, mx, ct, cells, h1, h2, r⟩ := x
  exact ⟨nx, mx, ct, cells, by rw [upd_ne n1.symm]; exact h1, by rw [upd_ne n2.symm]; exact h2, r⟩
def spOrder (K : PySem.W.Frag) : Sp := fun vs H Q _ => ∃ (d c a : Addr) (ts : List Str), vs = [.ref d, .ref a] ∧ DrawAt H d c ∧ Texts K H a ts ∧ ts.length < 900 ∧ (∀ t ∈ ts, PyData.strOk t = true) ∧
  ∀ (p : Addr) (ys : List Str) (H' : Hp), ys.Perm ts → H p = none → H' p = some (.lst (ys.map V.str)) → DrawAt H' d c → Keep d c H H' → Q (.ref p) H'
section
variable {P : Program} {w : World} {K : PySem.W.Frag} {mg : Str → Option Value} {base : Heap}
theorem scOrder : FnScope ["_law_draw", "_law_some", "_law_rest", "_law_found"] ["_law_draw", "_law_some"] (defScope s__law_order) := ⟨rfl, rfl, rfl, by decide +kernel, rfl, by decide +kernel, by decide +kernel⟩
theorem ok_order {f fT : Addr} {fd fdT : FuncData} (F : Fun K "_law_order" "_law_order" s__law_order f fd) (T : Nm mg) (FT : Fun K "_law_take" "_law_take" s__law_take fT fdT) (bT : Binds K fdT ["_law_draw", "_law_size"] []) (gT : mg "_law_take" = some (.ref fT)) :
    FnOk P w K mg base CX0 2 f fd ["_law_draw", "_law_some"] (spOrder K) := by
  have GT : FnOk P w K mg base CX0 1 fT fdT ["_law_draw", "_law_size"] spDraw := ok_draw FT T
  refine F.ok scOrder (fun vs H Q E h => ?_) (fun cdv A outer s H vs Q E hr h => ?_)
  · obtain ⟨d, c, a, ts, rfl, _⟩ := h
    rfl
  · obtain ⟨d, c, a, ts, rfl, hD, ht, few, sok, k⟩ := h
    have hr1 : Room 1 _ := hr.mono (by decide)
    refine ⟨_, pss_cons (ps_par (i := 2) (j := 3) rfl scOrder.nd rfl rfl (by decide) rfl rfl (pa_cons (pe_callTy (call_texts rfl) (by rfl) T.lst (by decide +kernel) (pa_cons (pv 1) pa_nil)) (pa_cons (pe_lst pa_nil) pa_nil)) (by rfl))
      (pss_cons (ps_while PassesOwn.never (pt_cmpR (op_neD hr.units) (pv 2) (pe_lst pa_nil) (nomark _))
        (pss_one (ps_expr (pe_bm PySem.F.plainAttrs_list PySem.F.slot_list_append PySem.F.type_list_append mt_append (pv 3) (pa_cons (pe_bm PySem.F.plainAttrs_list PySem.F.slot_list_pop PySem.F.type_list_pop mt_popAt (pv 2) (pa_cons (pe_call GT hr1 rfl gT FT.kp bT .nil pass0 (pa_cons (pv 0) (pa_cons (pe_callB call_len_seq (by rfl) T.len PySem.boot_len (pa_cons (pv 2) pa_nil)) pa_nil))) pa_nil)) pa_nil)))))
      (pss_one (ps_ret (pv 3)))), ?_⟩
    refine ⟨_, rfl, a, ts, rfl, ht, fun r nr => ⟨by show 0 ≤ sizeLine; omega, fun q nq => ⟨_, _, rfl, ?_⟩⟩⟩
    have rq : r ≠ q := ne_of_none upd_same nq
    have rd := hD.apart nr
    have qd := (hD.mono (same_new nr)).apart nq
    refine while_by (fun σ H' => σ = [some (.ref d), some (.ref a), some (.ref r), some (.ref q)] ∧ DrawAt H' d c ∧ Keep d c H H' ∧ ∃ rest found : List Str, H' r = some (.lst (rest.map V.str)) ∧ H' q = some (.lst (found.map V.str)) ∧ (found ++ rest).Perm ts) (fun _ H' => many H' r)
      ⟨rfl, (hD.mono (same_new nr)).mono (same_new nq), Keep.of_same ((same_new nr).trans (same_new nq)), ts, [], by rw [upd_ne rq, upd_same], upd_same, .refl _⟩ ?_ ?_
    · rintro σ H1 ⟨rfl, d1, k1, rest, found, er, eq, pm⟩
      have lens := pm.length_eq
      rw [List.length_append] at lens
      refine ⟨_, rfl, by show 0 ≤ sizeLine; omega, fun e ne => ⟨_, _, .lst (SqL.of (by rw [upd_ne (ne_of_none er ne)]; exact er)) (dps_strs rest), .lst (SqL.of upd_same) .nil, ?_, rfl, ?_⟩⟩
      · exact strs_shaped fun t m => sok t (pm.mem_iff.mp (List.mem_append_right _ m))
      · have s1 := same_new (o := .lst []) ne
        obtain ⟨H2, e2⟩ : ∃ X, X = upd H1 e (.lst []) := ⟨_, rfl⟩
        rw [← e2] at s1 ⊢
        have d2 := d1.mono s1
        refine ⟨_, rfl, ?_⟩
        refine ite2 (fun t => ?_) (fun t => ?_)
        · cases rest with
          | nil => cases t
          | cons y rest =>
            have er2 := s1 _ _ er
            have eq2 := s1 _ _ eq
            refine ⟨_, rfl, .inl ⟨rfl, _, SqL.of eq2⟩, _, rfl, .inl ⟨rfl, _, SqL.of er2⟩, _, rfl, _, rfl, r, _, rfl, .inl (SqL.of er2), d, c, _, rfl, d2, ?_, ?_, fun i H3 i0 i1 d3 k3 => ?_⟩
            · rw [List.length_map, List.length_cons]
              omega
            · rw [List.length_map, List.length_cons, Int.natAbs_natCast]
              rw [List.length_cons] at lens
              exact Nat.lt_trans (by omega : rest.length + 1 < 1000) (by decide)
            · rw [List.length_map] at i1
              have er3 := k3 r _ rd.1 rd.2 er2
              have eq3 := k3 q _ qd.1 qd.2 eq2
              have hi : i.toNat < (y :: rest).length := by omega
              have e0 : ((y :: rest).map V.str)[i.toNat]? = some (V.str (y :: rest)[i.toNat]) := by rw [List.getElem?_map, List.getElem?_eq_getElem hi] <;> rfl
              obtain ⟨sx, _, _, _⟩ := ixN_seq (ixN_nat (n := ((y :: rest).map V.str).length) (j := i.toNat) (by rw [List.length_map]; exact hi))
              rw [show ((i.toNat : Nat) : Int) = i by omega] at sx
              rw [List.length_cons] at lens i1
              refine ⟨r, _, i, i.toNat, _, rfl, rfl, er3, by omega, by omega, sx, e0, ?_⟩
              refine ⟨q, _, _, rfl, rfl, by rw [upd_ne rq.symm]; exact eq3, ?_, ?_⟩
              · rw [List.length_map]
                exact Nat.lt_of_lt_of_le (by omega : found.length < 1000) (by decide)
              · have er4 : (upd (upd H3 r (.lst (((y :: rest).map V.str).eraseIdx i.toNat))) q (.lst (found.map V.str ++ [V.str (y :: rest)[i.toNat]]))) r = some (.lst (((y :: rest).eraseIdx i.toNat).map V.str)) := by
                  rw [upd_ne rq, upd_same, map_erase]
                have pe : ((y :: rest)[i.toNat] :: (y :: rest).eraseIdx i.toNat).Perm (y :: rest) := erase_perm _ _ hi
                refine ⟨⟨rfl, (d3.off rd.1 rd.2).off qd.1 qd.2, fun b o b1 b2 eb => ?_, _, found ++ [(y :: rest)[i.toNat]], er4, by rw [upd_same, List.map_append] <;> rfl, ?_⟩, ?_⟩
                · have n1 : b ≠ r := ne_of_none eb nr
                  have n2 : b ≠ q := ne_of_none (same_new nr b o eb) nq
                  rw [upd_ne n2, upd_ne n1]
                  exact k3 b o b1 b2 (s1 b o (k1 b o b1 b2 eb))
                · rw [List.append_assoc]
                  exact ((List.Perm.refl found).append pe).trans pm
                · show many _ r < many H1 r
                  rw [many_at er4, many_at er, List.length_map, List.length_map, List.length_eraseIdx, if_pos hi, List.length_cons]
                  omega
        · cases rest with
          | cons y rest => exact absurd rfl t
          | nil =>
            have k2 : Keep d c H H2 := k1.trans (Keep.of_same s1)
            rw [List.append_nil] at pm
            have nq0 : H q = none := by
              cases z : H q with
              | none => rfl
              | some o =>
                rw [same_new nr q o z] at nq
                cases nq
            exact ⟨_, rfl, k q found H2 pm nq0 (s1 _ _ eq) d2 k2⟩
    · exact fun σ H Q Q' hm ⟨v, e, z, f⟩ => ⟨v, e, z, fun p np => let ⟨d1, d2, a1, a2, a3, a4, b, eb, q⟩ := f p np; ⟨d1, d2, a1, a2, a3, a4, b, eb, hm _ _ q⟩⟩
end

def pool1 : List Str := ["a", "b", "c", "aa", "ab", "z", "zz", "new", "old", "abcdefgh", "zzzzzzzz", "size", "must", "users", "none"]
def pool2 : List Str := ["a", "b", "c", "d", "e", "f", "g", "h", "i", "j", "k", "l"]
theorem pool_ok : (∀ z ∈ pool1, NameL z) ∧ (∀ z ∈ pool2, NameL z) := by decide +kernel
theorem pool_nd : pool1.Nodup ∧ pool2.Nodup := by decide +kernel
theorem pool_str : (∀ z ∈ pool1, PyData.strOk z = true) ∧ (∀ z ∈ pool2, PyData.strOk z = true) := by decide +kernel
def spNames : Sp := fun vs H Q _ => ∃ (d c : Addr) (n : Nat), vs = [.ref d, .int (n : Int)] ∧ DrawAt H d c ∧ 1 ≤ n ∧ n ≤ 12 ∧
  ∀ (l : Addr) (fs : List Str) (H' : Hp), fs.length = n → fs.Nodup → (∀ z ∈ fs, NameL z) → (∀ z ∈ fs, PyData.strOk z = true) → H l = none → H' l = some (.lst (fs.map V.str)) → DrawAt H' d c → Keep d c H H' → Q (.ref l) H'
theorem Keep.put {d c p : Addr} {H H' : Hp} {o : HO} (k : Keep d c H H') (n : H p = none) : Keep d c H (upd H' p o) := fun b u h1 h2 e => by
  rw [upd_ne (ne_of_none e n)]
  exact k b u h1 h2 e
theorem Keep.free {d c p : Addr} {H H' : Hp} (k : Keep d c H H') (n : H' p = none) (n1 : p ≠ d) (n2 : p ≠ c) : H p = none := by
  cases e : H p with
  | none => rfl
  | some o =>
    rw [k p o n1 n2 e] at n
    cases n
section
variable {P : Program} {w : World} {K : PySem.W.Frag} {mg : Str → Option Value} {base : Heap}
theorem scNames : FnScope ["_law_draw", "_law_many", "_law_pool"] ["_law_draw", "_law_many"] (defScope s__law_names) := ⟨rfl, rfl, rfl, by decide +kernel, rfl, by decide +kernel, by decide +kernel⟩
end
end FT


namespace FT
open PySem L2 TL ClX
def spParents : Sp := fun vs H Q _ => ∃ (d c : Addr) (n : Nat), vs = [.ref d, .int (n : Int)] ∧ DrawAt H d c ∧ 1 ≤ n ∧ n ≤ 12 ∧
  ∀ (q : Addr) (t : List (Str × Str)) (H' : Hp), TreeOk t → t.length = n → H q = none → H' q = some (.dK (prs t)) → DrawAt H' d c → Keep d c H H' → Q (.ref q) H'
def spPath : Sp := fun vs H Q _ => ∃ (q : Addr) (a : Str) (t : List (Str × Str)), vs = [.ref q, .str a] ∧ Rd H q (.dK (prs t)) ∧ TreeOk t ∧ Pl t a ∧ ∀ p H', Same H H' → H p = none → H' p = some (.tup ((pathOf t a).map V.str)) → Q (.ref p) H'
theorem fresh_at {fs l : List Str} {j : Nat} {f : Str} (nd : fs.Nodup) (h : fs[j]? = some f) (e : l = fs.take j) : f ∉ l := by
  rw [e]
  intro hm
  obtain ⟨i, hi⟩ := List.mem_iff_getElem?.mp hm
  have hi2 := (List.getElem?_eq_some_iff.mp hi).1
  have jl := (List.getElem?_eq_some_iff.mp h).1
  rw [List.length_take] at hi2
  rw [List.getElem?_take, if_pos (by omega)] at hi
  have := (List.getElem?_inj (by omega) nd).mp (hi.trans h.symm)
  omega
section
variable {P : Program} {w : World} {K : PySem.W.Frag} {mg : Str → Option Value} {base : Heap}
abbrev NPa : List Str := ["_law_draw", "_law_many", "_law_names_here", "_law_way", "_law_found", "_law_at", "_law_name"]
theorem scPa : FnScope NPa ["_law_draw", "_law_many"] (defScope s__law_parents) := ⟨rfl, rfl, rfl, by decide +kernel, rfl, by decide +kernel, by decide +kernel⟩
end
end FT


/-! feasible sizes, dealt out name by name (plain maths) -/
namespace FT
open PySem L2 TL ClX
/-! ### sizes that are drawn -/
theorem szOf_tbl {l : List Str} {sz : Str → Int} {a : Str} (h : a ∈ l) : szOf (tblI l sz) a = sz a := by
  unfold szOf
  rw [tblI_val h]
theorem kids_sub {t : List (Str × Str)} {p a : Str} (h : a ∈ kids t p) : a ∈ t.map Prod.fst := by
  obtain ⟨q, hq, rfl⟩ := List.mem_map.mp h
  exact List.mem_map.mpr ⟨q, (List.mem_filter.mp hq).1, rfl⟩
theorem resid_congr {t : List (Str × Str)} {n : Int} {sz sz' : Str → Int} {p : Str} (h : ∀ a ∈ t.map Prod.fst, sz a = sz' a) (hp : p = "" ∨ sz p = sz' p) : resid t n sz p = resid t n sz' p := by
  unfold resid
  rw [List.map_congr_left fun a ha => h a (kids_sub ha)]
  by_cases e : p = ""
  · rw [if_pos e, if_pos e]
  · rw [if_neg e, if_neg e, hp.resolve_left e]
/-- feasible sizes for n users -/
structure Fea (t : List (Str × Str)) (n : Int) (sz : Str → Int) : Prop where
  nn : ∀ a ∈ t.map Prod.fst, 0 ≤ sz a
  res : ∀ p ∈ (("" : Str) :: t.map Prod.fst), 0 ≤ resid t n sz p
theorem Fea.perm {t u : List (Str × Str)} {n : Int} {sz : Str → Int} (p : t.Perm u) (f : Fea t n sz) : Fea u n sz :=
  ⟨fun a ha => f.nn a ((p.map _).mem_iff.mpr ha), fun q hq => by rw [← resid_perm p]; exact f.res q ((List.mem_cons.mp hq).elim (fun e => e ▸ List.mem_cons_self ..) fun m => List.mem_cons_of_mem _ ((p.map Prod.fst).mem_iff.mpr m))⟩
theorem Fea.ok {CS : Addr} {ts : List (Str × Str)} {n : Int} {sz : Str → Int} {l : List Str} (f : Fea ts n sz) (p : l.Perm (ts.map Prod.fst)) : feE CS ts n (some (tblI l sz)) = none := by
  have e1 : ∀ a ∈ ts.map Prod.fst, valV (tblI l sz) (Sum.inr a) = some (.int (sz a)) := fun a ha => tblI_val (p.mem_iff.mpr ha)
  have ll := p.length_eq
  rw [List.length_map] at ll
  unfold feE
  rw [feas_some, if_neg (by rw [tblI_len]; exact fun z => z ll), if_neg]
  · have e2 : (ts.map Prod.fst).find? (badKey (tblI l sz)) = none := List.find?_eq_none.mpr fun a ha z => by
      unfold badKey at z
      rw [e1 a ha] at z
      have z' : (!decide ((0 : Int) ≤ sz a)) = true := z
      rw [decide_eq_true (f.nn a ha)] at z'
      cases z'
    rw [e2]
    have e3 : ((("" : Str) :: ts.map Prod.fst).find? fun p => decide (resid ts n (szOf (tblI l sz)) p < 0)) = none := List.find?_eq_none.mpr fun q hq z => by
      have z' := of_decide_eq_true z
      rw [resid_congr (sz' := sz) (fun a ha => szOf_tbl (p.mem_iff.mpr ha)) ((List.mem_cons.mp hq).imp id fun h => szOf_tbl (p.mem_iff.mpr h))] at z'
      have := f.res q hq
      omega
    show Option.map _ (Option.map V.str (List.find? _ _)) = none
    rw [e3] <;> rfl
  · intro z
    have : ((ts.map Prod.fst).all fun a => (valV (tblI l sz) (Sum.inr a)).isSome) = true := List.all_eq_true.mpr fun a ha => by rw [e1 a ha] <;> rfl
    rw [this] at z
    cases z
/-- what has been dealt out -/
structure Dealt (t : List (Str × Str)) (n : Int) (l : List Str) (t' : List (Str × Str)) (sz : Str → Int) : Prop where
  keys : t'.map Prod.fst = l
  sub : ∀ p ∈ t', p ∈ t
  par_ : ∀ p ∈ t', p.2 = "" ∨ p.2 ∈ l
  nn : ∀ a ∈ l, 0 ≤ sz a
  res : ∀ p ∈ (("" : Str) :: l), 0 ≤ resid t' n sz p
  top_ : ∀ p ∈ (("" : Str) :: l), resid t' n sz p ≤ n
theorem Dealt.nil {t : List (Str × Str)} {n : Int} {sz : Str → Int} (n0 : 0 ≤ n) : Dealt t n [] [] sz := by
  refine ⟨rfl, fun p h => (by cases h), fun p h => (by cases h), fun a h => (by cases h), fun p h => ?_, fun p h => ?_⟩
  · rw [List.mem_singleton.mp h]
    show 0 ≤ n - 0
    omega
  · rw [List.mem_singleton.mp h]
    show n - 0 ≤ n
    omega
theorem Dealt.step {t t' : List (Str × Str)} {n : Int} {l : List Str} {sz : Str → Int} (d : Dealt t n l t' sz) {a pa : Str} {z : Int} (na : a ∉ l) (ne : a ≠ "") (mt : (a, pa) ∈ t) (mp : pa = "" ∨ pa ∈ l) (z0 : 0 ≤ z) (z1 : z ≤ resid t' n sz pa) :
    Dealt t n (l ++ [a]) (t' ++ [(a, pa)]) (fun x => if x = a then z else sz x) ∧
    (∀ p ∈ (("" : Str) :: (l ++ [a])), resid (t' ++ [(a, pa)]) n (fun x => if x = a then z else sz x) p = if p = pa then resid t' n sz pa - z else if p = a then z else resid t' n sz p) := by
  have kid : kids t' a = [] := by
    unfold kids
    rw [List.filter_eq_nil_iff.mpr fun q hq z => ?_] <;> try rfl
    have e := of_decide_eq_true z
    rcases d.par_ q hq with h | h
    · exact ne (e.symm.trans h)
    · exact na (by rw [← e]; exact h)
  have pne : pa ≠ a := fun e => mp.elim (fun h => ne (e.symm.trans h)) fun h => na (by rw [← e]; exact h)
  have old : ∀ p, p ≠ a → resid t' n (fun x => if x = a then z else sz x) p = resid t' n sz p := fun p hp =>
    resid_congr (fun x hx => if_neg fun e => na (by rw [← e, ← d.keys]; exact hx)) (.inr (if_neg hp))
  have eq : ∀ p ∈ (("" : Str) :: (l ++ [a])), resid (t' ++ [(a, pa)]) n (fun x => if x = a then z else sz x) p = if p = pa then resid t' n sz pa - z else if p = a then z else resid t' n sz p := fun p _ => by
    rw [resid_snoc]
    by_cases h1 : p = pa
    · rw [if_pos h1.symm, if_pos h1, old p (by rw [h1]; exact pne), h1]
      show _ - (if a = a then z else sz a) = _
      rw [if_pos rfl]
    · rw [if_neg (fun e => h1 e.symm), if_neg h1]
      by_cases h2 : p = a
      · rw [if_pos h2, h2]
        unfold resid
        rw [kid, if_neg ne]
        show (if a = a then z else sz a) - 0 = z
        rw [if_pos rfl]
        omega
      · rw [if_neg h2, old p h2]
  refine ⟨⟨by rw [List.map_append, d.keys] <;> rfl, fun p hp => ?_, fun p hp => ?_, fun x hx => ?_, fun p hp => ?_, fun p hp => ?_⟩, eq⟩
  · rcases List.mem_append.mp hp with h | h
    · exact d.sub p h
    · rw [List.mem_singleton.mp h]
      exact mt
  · rcases List.mem_append.mp hp with h | h
    · exact (d.par_ p h).imp id fun m => List.mem_append_left _ m
    · rw [List.mem_singleton.mp h]
      exact mp.imp id fun m => List.mem_append_left _ m
  · show 0 ≤ if x = a then z else sz x
    by_cases e : x = a
    · rw [if_pos e]
      exact z0
    · rw [if_neg e]
      exact d.nn x ((List.mem_append.mp hx).resolve_right fun m => e (List.mem_singleton.mp m))
  · rw [eq p hp]
    by_cases h1 : p = pa
    · rw [if_pos h1]
      omega
    · rw [if_neg h1]
      by_cases h2 : p = a
      · rw [if_pos h2]
        exact z0
      · rw [if_neg h2]
        refine d.res p ((List.mem_cons.mp hp).elim (fun e => e ▸ List.mem_cons_self ..) fun m => List.mem_cons_of_mem _ ?_)
        exact (List.mem_append.mp m).resolve_right fun m => h2 (List.mem_singleton.mp m)
  · rw [eq p hp]
    have tp := d.top_ pa (List.mem_cons.mpr mp)
    by_cases h1 : p = pa
    · rw [if_pos h1]
      omega
    · rw [if_neg h1]
      by_cases h2 : p = a
      · rw [if_pos h2]
        omega
      · rw [if_neg h2]
        refine d.top_ p ((List.mem_cons.mp hp).elim (fun e => e ▸ List.mem_cons_self ..) fun m => List.mem_cons_of_mem _ ?_)
        exact (List.mem_append.mp m).resolve_right fun m => h2 (List.mem_singleton.mp m)
end FT


/-! Own: repr over the layer. repr asks what calls of repr are under way (A.guards), and the layer's contracts do not tell it: a contract FnG that tells it too, its rule for a def's body, its call, the end. -/
namespace L2
open PySem PySem.Spec PyProof.Rows
/-- no repr is under way -/
abbrev Clr (A : Around) : Prop := A.guards = some []
theorem Clr.deeper {A : Around} {env : Env} (h : Clr A) : Clr (A.deeper env) := by
  have h' : A.guards = some [] := h
  show (A.deeper env).guards = some []
  first
    | exact h'
    | (simp [Around.deeper, h', pushGuards, Code.guards, Code.isGuard])
structure FnG (P : Program) (w : World) (K : PySem.W.Frag) (mg : Str → Option Value) (base : Heap) (CX : CXT) (k : Nat) (f : Addr) (fd : FuncData) (ps : List Str) (sp : Sp) : Prop where
  len : ∀ vs H Q E, sp vs H Q E → vs.length = ps.length
  run : ∀ (A : Around) (outer : List Env) (s : Shared) (H : Hp) (args : Args) (us : List Value) (vs : List V) (Q : VK) (E : XK), Clr A → Room k A → Env0 P w K mg base A outer s H → BindsTo s fd args (ps.zip us) → Vals vs us → sp vs H Q E →
    codeAny (model P w) A (.call (.ref f) args) (CR CX outer P w H s Q E) s
theorem FnOk.g {P : Program} {w : World} {K : PySem.W.Frag} {mg : Str → Option Value} {base : Heap} {CX : CXT} {k : Nat} {f : Addr} {fd : FuncData} {ps : List Str} {sp : Sp} (F : FnOk P w K mg base CX k f fd ps sp) : FnG P w K mg base CX k f fd ps sp :=
  ⟨F.len, fun A outer s H args us vs Q E _ => F.run A outer s H args us vs Q E⟩
section
variable {P : Program} {w : World} {K : PySem.W.Frag} {mg : Str → Option Value} {base : Heap}
/-- a def by its body, where nothing is raised out of it -/
theorem Fun.okG {x qual : Str} {st : Stmt} {f : Addr} {fd : FuncData} {N ps : List Str} {k : Nat} {sp : Sp} (F : Fun K x qual st f fd) (S : FnScope N ps (defScope st)) (len : ∀ vs H Q E, sp vs H Q E → vs.length = ps.length)
    (body : ∀ (cdv : Value) (A : Around) (outer : List Env) (s : Shared) (H : Hp) (vs : List V) (Q : VK) (E : XK), Clr A → Room k (A.deeper (envOfC qual (defScope st) s.heap.objs.size f cdv)) → sp vs H Q E →
      ∃ t, PSs (cxOf CX0 P w K mg base N qual (defScope st) f cdv A outer s H E).nox (defBody st) t ∧ t { nx := fun _ H' => Q .non H', rt := Q } (start N vs) H) : FnG P w K mg base CX0 (k + 1) f fd ps sp := by
  obtain ⟨oc, od, kV, doc, pm, an, cdv, ct, osl, rfl, lk, code⟩ := F.ex
  refine ⟨len, fun A outer s H args us vs Q E clr room e0 binds rel want => ?_⟩
  have nps := len _ _ _ _ want
  have KX : K.In s.heap := e0.mod.kin.keeps fun b o e => (e0.bs b o e).1
  have lim : s.heap.NoLimit := e0.mod.nolimit.keeps fun b o e => (e0.bs b o e).1
  refine codeAny_call_function room.depth (KX _ _ lk) rfl S.co S.gen rfl (PySem.W.codeRec_of KX code) (binds _ _ _ _ (wpAny_newFunctionEnv_cells S.kind (fun y hy => ?_) fun env he s1 x => ?_))
  · obtain ⟨n, v⟩ := y
    exact (S.par n (List.of_mem_zip hy).1).elim .inl fun q => .inr ⟨q, PySem.W.cellsFrom_some _ _ _ (.inl q)⟩
  · subst he
    obtain ⟨t, term, q⟩ := body cdv A outer s H vs Q E clr (room.deeper _) want
    have I : Inv (cxOf CX0 P w K mg base N qual (defScope st) f cdv A outer s H E) [] (start N vs) H s1 := inv_start S room.hd e0 nps rel x
    refine ⟨lim.keeps x.toInCall.keep, codeAny_func (wpAny_mono (term.nox.run [] s1 (start N vs) H _ I q) (fun fl s' z => ?_) fun _ _ z => z)⟩
    match fl, z with
    | .ret u, ⟨v, _, H', J, rv, q⟩ => exact ⟨v, H', J.os, J.bare, J.base, J.hok, rv, q⟩
    | .next, ⟨_, H', J, q⟩ => exact ⟨.non, H', J.os, J.bare, J.base, J.hok, rfl, q⟩
    | .brk, ⟨_, _, _, q⟩ => exact q.elim
    | .cont, ⟨_, _, _, q⟩ => exact q.elim
end
section
variable {X : Cx} {CX : CXT} {k : Nat} {f : Addr} {fd : FuncData} {ps : List Str} {sp : Sp} {dvs : List V} {ds : List Value} {E : XK} {x : Str} {p pos : Pos} {e : Expr} {es : List Expr} {t : TA}
/-! ### repr -/
/-- what is shown: data without dicts, or the empty dict -/
def Shw (K : PySem.W.Frag) (H : Hp) (x : V) (d : PyData) : Prop := (Dp K H x d ∧ d.hasDict = false) ∨ ∃ a, x = .ref a ∧ H a = some (.dK []) ∧ d = .dict []
def rRepr (K : PySem.W.Frag) : List V → Hp → VK → Prop := fun xs H Q => ∃ (x : V) (d : PyData), xs = [x] ∧ Shw K H x d ∧ d.showable = true ∧ d.depth ≤ 60 ∧ d.shown.length ≤ sizeLine ∧ Q (.str d.shown) H
theorem Shw.reads {pins : List (Addr × Obj)} {σ : St} {H : Hp} {s : Shared} {x : V} {u : Value} {d : PyData} (h : Shw X.K H x d) (I : Inv X pins σ H s) (r : RelV x u) : ∃ as, Reads s.heap u d as ∧ (d.hasDict = true → sysModules ∉ as) := by
  rcases h with ⟨h, nd⟩ | ⟨a, rfl, e, rfl⟩
  · obtain ⟨as, q⟩ := Dp.reads I d x u h r
    exact ⟨as, q, PyData.noDict_hsm nd⟩
  · obtain rfl : u = Value.ref a := r
    obtain ⟨_, ns, vs, kv, o, es, ep, h1, h2, h3, h4⟩ := (show ObjOk X.prog X.w H s.heap a (.dK []) from I.hok a _ e)
    cases kv
    have hes : es.toList = [] := by
      obtain ⟨_, h5, _⟩ := h4
      revert h5
      generalize es.toList = l
      intro h5
      cases h5
      rfl
    refine ⟨a :: [] ++ [], .dict h1 h2.1 h3 (by rw [hes]; exact .nil) (by rw [hes]; exact .nil), fun _ hm => ?_⟩
    have hm' : sysModules = a := by simpa using hm
    rw [hm'] at ns
    simp at ns
theorem call_repr (clr : Clr X.A) (hu : X.A.units + 64 < cLine) : CallR X (.builtin "repr") (rRepr X.K) := by
  intro pins s σ H xs us Q I r h
  obtain ⟨x, d, rfl, sh, ok, dep, few, q⟩ := h
  obtain ⟨u, rfl, ru⟩ := vals1 r
  obtain ⟨as, rd, sm⟩ := sh.reads I ru
  have fin : ∀ h' (t : Tok) tk, (∀ b o, s.heap.get? b = some o → h'.get? b = some o) → EP X pins σ Q (.str d.shown t) { s with heap := h', toks := tk } := fun h' t tk kp => ⟨.str d.shown, H, I.kept kp, ⟨t, rfl⟩, q⟩
  cases u with
  | ref a => exact repr_of_reads' rd ok sm clr (by omega) (fun _ _ z => z) fin few
  | none => cases rd; exact PySem.P.repr_of_none (fin _ _ _ fun _ _ z => z)
  | bool b => cases rd; exact PySem.P.repr_of_bool (fin _ _ _ fun _ _ z => z)
  | int i t => cases rd; exact PySem.P.repr_of_int (by simpa [PyData.showable] using ok) (fin _ _ _ fun _ _ z => z)
  | str y t => cases rd; exact PySem.P.repr_of_str (fin _ _ _ fun _ _ z => z) few
  | _ => cases rd
end
end L2


/-! Own: the end of a law's row from a contract FnG (the library's walk_of asks FnOk). -/
namespace L2
open PySem PySem.Spec PyProof.Rows
section
variable {P : Program} {w : World} {K : PySem.W.Frag} {mg mb : Str → Option Value} {k : Nat} {fa a : Addr} {fd : FuncData} {x : Str} {sp : Sp} {s : Shared} {vs : List Value} {ns : List Int}
/-- the abstract heap at the law's entry: the script alone, locked; or nothing, where the script is the module's own -/
abbrev Entry (K : PySem.W.Frag) (a : Addr) (H : Hp) : Prop := (∀ b, H b ≠ none → b = a) ∧ (H a ≠ none → K.lookup a = none)
end
end L2


/-! Own: defs that make lambdas (their code object known), and the end of a law's row from a contract FnG with tables of code objects. -/
namespace L2
open PySem PySem.Spec PyProof.Rows LamX
/-- as Fun, the code object's place told -/
structure FunC (K : PySem.W.Frag) (x qual : Str) (st : Stmt) (f : Addr) (fd : FuncData) (c : Addr) : Prop where
  ex : ∃ (oc : Value) (od : Option Addr) (kV doc pm : Value) (an : Option Addr) (ct : Value) (osl : Array (Option Value)),
    fd = PySem.W.fnOf x qual (defArgs st) (defBody st) (defScope st) .none kV doc pm an (.ref c) ct ∧ K.lookup f = some ⟨oc, od, .func fd, osl⟩ ∧ PySem.W.codeIn K (.ref c) qual = true
  kp : PySem.W.keepIn K (.ref f) = true
theorem FunC.fun {K : PySem.W.Frag} {x qual : Str} {st : Stmt} {f c : Addr} {fd : FuncData} (F : FunC K x qual st f fd c) : Fun K x qual st f fd :=
  let ⟨oc, od, kV, doc, pm, an, ct, osl, e1, e2, e3⟩ := F.ex
  ⟨⟨oc, od, kV, doc, pm, an, .ref c, ct, osl, e1, e2, e3⟩, F.kp⟩
theorem funC_mk {K : PySem.W.Frag} {x qual : Str} {st : Stmt} {f c : Addr} {oc : Value} {od an : Option Addr} {osl : Array (Option Value)} {kV doc pm ct : Value} (l : K.lookup f = some ⟨oc, od, .func (PySem.W.fnOf x qual (defArgs st) (defBody st) (defScope st) .none kV doc pm an (.ref c) ct), osl⟩)
    (e : PySem.W.codeIn K (.ref c) qual = true) (k : PySem.W.keepIn K (.ref f) = true) : FunC K x qual st f (PySem.W.fnOf x qual (defArgs st) (defBody st) (defScope st) .none kV doc pm an (.ref c) ct) c := ⟨⟨oc, od, kV, doc, pm, an, ct, osl, rfl, l, e⟩, k⟩
section
variable {P : Program} {w : World} {K : PySem.W.Frag} {mg : Str → Option Value} {base : Heap}
theorem FunC.ok {x qual : Str} {st : Stmt} {f c : Addr} {fd : FuncData} {N ps : List Str} {k : Nat} {sp : Sp} (F : FunC K x qual st f fd c) (S : FnScope N ps (defScope st)) (len : ∀ vs H Q E, sp vs H Q E → vs.length = ps.length)
    (body : ∀ (A : Around) (outer : List Env) (s : Shared) (H : Hp) (vs : List V) (Q : VK) (E : XK), Room k (A.deeper (envOfC qual (defScope st) s.heap.objs.size f (.ref c))) → sp vs H Q E →
      ∃ t, PSs (cxOf CX0 P w K mg base N qual (defScope st) f (.ref c) A outer s H E).nox (defBody st) t ∧ t { nx := fun _ H' => Q .non H', rt := Q } (start N vs) H) : FnOk P w K mg base CX0 (k + 1) f fd ps sp := by
  obtain ⟨oc, od, kV, doc, pm, an, ct, osl, rfl, lk, code⟩ := F.ex
  refine fn_of lk code S len fun A outer s H vs Q E room want => ?_
  obtain ⟨t, h, q⟩ := body A outer s H vs Q E room want
  exact ⟨t, h.nox, q⟩
theorem FunC.okG {x qual : Str} {st : Stmt} {f c : Addr} {fd : FuncData} {N ps : List Str} {k : Nat} {sp : Sp} (F : FunC K x qual st f fd c) (S : FnScope N ps (defScope st)) (len : ∀ vs H Q E, sp vs H Q E → vs.length = ps.length)
    (body : ∀ (A : Around) (outer : List Env) (s : Shared) (H : Hp) (vs : List V) (Q : VK) (E : XK), Clr A → Room k (A.deeper (envOfC qual (defScope st) s.heap.objs.size f (.ref c))) → sp vs H Q E →
      ∃ t, PSs (cxOf CX0 P w K mg base N qual (defScope st) f (.ref c) A outer s H E).nox (defBody st) t ∧ t { nx := fun _ H' => Q .non H', rt := Q } (start N vs) H) : FnG P w K mg base CX0 (k + 1) f fd ps sp := by
  obtain ⟨oc, od, kV, doc, pm, an, ct, osl, rfl, lk, code⟩ := F.ex
  refine ⟨len, fun A outer s H args us vs Q E clr room e0 binds rel want => ?_⟩
  have nps := len _ _ _ _ want
  have KX : K.In s.heap := e0.mod.kin.keeps fun b o e => (e0.bs b o e).1
  have lim : s.heap.NoLimit := e0.mod.nolimit.keeps fun b o e => (e0.bs b o e).1
  refine codeAny_call_function room.depth (KX _ _ lk) rfl S.co S.gen rfl (PySem.W.codeRec_of KX code) (binds _ _ _ _ (wpAny_newFunctionEnv_cells S.kind (fun y hy => ?_) fun env he s1 x => ?_))
  · obtain ⟨n, v⟩ := y
    exact (S.par n (List.of_mem_zip hy).1).elim .inl fun q => .inr ⟨q, PySem.W.cellsFrom_some _ _ _ (.inl q)⟩
  · subst he
    obtain ⟨t, term, q⟩ := body A outer s H vs Q E clr (room.deeper _) want
    have I : Inv (cxOf CX0 P w K mg base N qual (defScope st) f (.ref c) A outer s H E) [] (start N vs) H s1 := inv_start S room.hd e0 nps rel x
    refine ⟨lim.keeps x.toInCall.keep, codeAny_func (wpAny_mono (term.nox.run [] s1 (start N vs) H _ I q) (fun fl s' z => ?_) fun _ _ z => z)⟩
    match fl, z with
    | .ret u, ⟨v, _, H', J, rv, q⟩ => exact ⟨v, H', J.os, J.bare, J.base, J.hok, rv, q⟩
    | .next, ⟨_, H', J, q⟩ => exact ⟨.non, H', J.os, J.bare, J.base, J.hok, rfl, q⟩
    | .brk, ⟨_, _, _, q⟩ => exact q.elim
    | .cont, ⟨_, _, _, q⟩ => exact q.elim
end
section
variable {P : Program} {w : World} {K : PySem.W.Frag} {mg mb : Str → Option Value} {k : Nat} {fa a : Addr} {fd : FuncData} {x : Str} {sp : Sp} {s : Shared} {vs : List Value} {ns : List Int} {cs : List (Addr × Addr)}
/-- the code objects and their tables: empty, not of the written part -/
abbrev TabsIn (K : PySem.W.Frag) (h : Heap) (cs : List (Addr × Addr)) : Prop := ∀ p ∈ cs, PySem.W.CodeHd h p.1 p.2 ∧ h.get? p.2 = some (PySem.W.tabObj #[]) ∧ K.lookup p.2 = none
/-- the abstract heap at the law's entry: the tables, and the script, locked, or where it is the module's own the tables alone -/
structure EntT (K : PySem.W.Frag) (cs : List (Addr × Addr)) (a : Addr) (vs : List Value) (ns : List Int) (H : Hp) : Prop where
  tab : ∀ p ∈ cs, H p.2 = some (.tbl #[])
  dom : ∀ b u, H b = some u → (b = a ∧ u = .frz { cls := .type "list", data := .seq vs.toArray } (.lst (ns.map V.int))) ∨ ∃ p ∈ cs, b = p.2
  own : H a ≠ none → K.lookup a = none
theorem entT_run (KX : K.In s.heap) (hns : s.heap.Ns mainGlobals mg) (hb : s.heap.Ns builtinsNs mb) (hbb : ∀ y : Str, y ≠ "__name__" → mb y = bootBuiltins y) (lim : s.heap.NoLimit) (gens : s.gens = #[]) (ti : TabsIn K s.heap cs)
    (bmain : ∃ (bm : Addr) (ob : Obj), mg "__builtins__" = some (.ref bm) ∧ bm ≠ builtinsNs ∧ s.heap.get? bm = some ob ∧ ob.cls = .type "module" ∧ ob.dict = some builtinsNs ∧ ob.data = .plain)
    (oa : s.heap.get? a = some { cls := .type "list", data := .seq vs.toArray }) (rv : Vals (ns.map V.int) vs) (few : ns.length ≤ sizeLine) (room : Room k callerA)
    (F : ∀ base : Heap, K.In base → base.Ns mainGlobals mg → (∀ p ∈ cs, TabB base mg p.1 p.2) → FnG P w K mg base CX0 k fa fd [x] sp)
    (bind : ∀ (s : Shared) (u : Value), BindsTo s fd ⟨[u], []⟩ [(x, u)]) {H : Hp} (en : EntT K cs a vs ns H) (want : sp [.ref a] H (fun v _ => v = .bl true) fun _ _ _ => False) :
    codeAny (model P w) callerA (.call (.ref fa) ⟨[.ref a], []⟩) (fun r s' => r = .ok (.ret (.bool true)) ∧ OldK s.heap s'.heap ∧ s'.os = s.os ∧ AllBare s'.gens) s := by
  -- what is tracked: a list or a table
  have kinds : ∀ {b : Addr} {o : Obj}, s.heap.get? b = some o → H b ≠ none → o = { cls := .type "list", data := .seq vs.toArray } ∨ o = PySem.W.tabObj #[] := fun {b o} q n => by
    cases r : H b with
    | none => exact absurd r n
    | some u =>
      rcases en.dom b u r with ⟨rfl, _⟩ | ⟨p, hp, rfl⟩
      · rw [oa] at q
        exact .inl (Option.some.inj q).symm
      · rw [(ti p hp).2.1] at q
        exact .inr (Option.some.inj q).symm
  have loose : ∀ {b : Addr} {o : Obj}, s.heap.get? b = some o → (∀ vs n, o.data ≠ .seq vs n) → (o.data = .fields #[] → False) → H b = none := fun {b o} q h1 h2 => by
    refine Decidable.byContradiction fun n => ?_
    rcases kinds q n with e | e
    · exact h1 _ _ (by rw [e])
    · exact h2 (by rw [e])
  have seen : ∀ {b : Addr} {o : Obj}, s.heap.get? b = some o → H b = none → (hidT s.heap H).get? b = some o := fun q n => hidT_get q n
  have dict : ∀ {b : Addr} {o : Obj} {es : Array DictEntry} {ep : Nat}, s.heap.get? b = some o → o.data = .dict es ep → (hidT s.heap H).get? b = some o := fun q d => seen q (loose q (fun vs n z => nomatch d.symm.trans z) fun z => nomatch d.symm.trans z)
  have nsT : ∀ {b : Addr} {m : Str → Option Value}, s.heap.Ns b m → (hidT s.heap H).Ns b m := fun ⟨o, es, ep, q, d, r⟩ => ⟨o, es, ep, dict q d, d, r⟩
  have KT : K.In (hidT s.heap H) := fun b o q => seen (KX b o q) (Decidable.byContradiction fun n => by
    cases r : H b with
    | none => exact n r
    | some u =>
      rcases en.dom b u r with ⟨rfl, _⟩ | ⟨p, hp, rfl⟩
      · rw [en.own n] at q
        cases q
      · rw [(ti p hp).2.2] at q
        cases q)
  have isTab : ∀ b u, H b = some u → ∀ q, u = .tbl q → s.heap.get? b = some (PySem.W.tabObj #[]) ∧ q = #[] := fun b u r q e => by
    rcases en.dom b u r with ⟨_, z⟩ | ⟨p, hp, rfl⟩
    · rw [e] at z
      cases z
    · refine ⟨(ti p hp).2.1, ?_⟩
      have z := en.tab p hp
      rw [r, e] at z
      cases z
      rfl
  have ok : HOk P w H s.heap := fun b u r => by
    rcases en.dom b u r with ⟨rfl, rfl⟩ | ⟨p, hp, rfl⟩
    · exact ⟨oa, by rw [List.length_map]; exact few, vs, _, rv, oa⟩
    · rw [en.tab p hp] at r
      cases r
      exact (ti p hp).2.1
  have TB : ∀ p ∈ cs, TabB (hidT s.heap H) mg p.1 p.2 := fun p hp => by
    obtain ⟨C, tp, _⟩ := ti p hp
    refine ⟨?_, ?_, fun z => ?_⟩
    · obtain ⟨o, us, file, tf, flags, tg, inF, text, tt, e1, r1, r2, r3, r⟩ := C
      refine ⟨o, us, file, tf, flags, tg, inF, text, tt, seen e1 (loose e1 (fun vs n z => nomatch r2.symm.trans z) fun z => ?_), r1, r2, r3, r⟩
      have e := r2.symm.trans z
      cases e
      simp at r3
    · obtain ⟨bm, ob, b1, b2, b3, b4, b5, b6⟩ := bmain
      refine ⟨bm, ob, b1, b2, fun q => ?_, fun q => ?_, seen b3 (loose b3 (fun vs n z => nomatch b6.symm.trans z) fun z => nomatch b6.symm.trans z), b4, b5, b6⟩
      · obtain ⟨o, es, ep, e, hd, _⟩ := hns
        rw [q, e] at b3
        cases b3
        cases hd.symm.trans b6
      · rw [q, tp] at b3
        cases b3
        cases b6
    · obtain ⟨o, es, ep, e, hd, _⟩ := hns
      rw [z, tp] at e
      cases e
      cases hd
  have e0 : Env0 P w K mg (hidT s.heap H) callerA [] s H :=
    ⟨rfl, ⟨KT, nsT hns, ⟨mb, nsT hb, hbb⟩, let ⟨m, z1, z2⟩ := lim; ⟨m, nsT z1, z2⟩⟩, fun b o q => of_hidT q, Nat.le_of_eq (hidT_size _ _), trivial, fun b z => absurd (show b ∈ ([] : List Addr) from z) (by simp), ok, .of_eq gens⟩
  refine codeAny_mono ((F _ KT (nsT hns) TB).run callerA [] s H ⟨[.ref a], []⟩ [.ref a] [.ref a] _ _ rfl room e0 (bind s (.ref a)) (.cons rfl .nil) want) fun r s' z => ?_
  match r, z with
  | .error _, z => exact z.elim
  | .ok .next, z => exact z.elim
  | .ok .brk, z => exact z.elim
  | .ok .cont, z => exact z.elim
  | .ok (.ret u), ⟨v, H', os, bare, un, ok', rv', q⟩ =>
    obtain rfl : v = .bl true := q
    obtain rfl : u = Value.bool true := rv'
    -- an object stays, or is a table that has grown
    have way : ∀ b o, s.heap.get? b = some o → s'.heap.get? b = some o ∨ ∃ p ∈ cs, b = p.2 ∧ ∃ more : Array Value, s'.heap.get? b = some (PySem.W.tabObj more) := fun b o q => by
      cases r : H b with
      | none => exact .inl (un.keep b o q r (fun z => absurd (show b ∈ ([] : List Addr) from z) (by simp)) (by simp))
      | some u =>
        rcases en.dom b u r with ⟨rfl, rfl⟩ | ⟨p, hp, rfl⟩
        · have q1 := (ok b _ r).1
          rw [q] at q1
          cases q1
          exact .inl (ok' b _ (un.frzs b _ _ r)).1
        · obtain ⟨more, z⟩ := un.tbls p.2 #[] (en.tab p hp)
          exact .inr ⟨p, hp, rfl, _, ok' p.2 _ z⟩
    refine ⟨rfl, ⟨fun b o q => ?_, fun b o q => ?_⟩, os, bare⟩
    · rcases way b o q with z | ⟨p, hp, rfl, more, z⟩
      · exact .inl z
      · obtain ⟨C, tp, _⟩ := ti p hp
        rw [tp] at q
        cases q
        exact .inr (.inl ⟨(C.tab tp).isCodeTable, rfl, #[], more, rfl, by rw [Array.empty_append]; exact z⟩)
    · rcases way b o q with z | ⟨_, _, _, more, z⟩
      · exact ⟨o, z⟩
      · exact ⟨_, z⟩
end
/-- the law's promise with its tables -/
def LawTG (l : PySem.W.OpenLaw) (w : World) (K : PySem.W.Frag) (k n : Nat) (x : Str) (mg : Str → Option Value) (fa : Addr) (h : Heap) : Prop :=
  ∃ (fd : FuncData) (cs : List (Addr × Addr)) (sp : Sp), TabsIn K h cs ∧ (∀ (s : Shared) (u : Value), BindsTo s fd ⟨[u], []⟩ [(x, u)]) ∧
    (∀ (H : Hp) (a : Addr) (ns : List Int), ns.length ≤ n → (∀ p ∈ cs, H p.2 = some (.tbl #[])) → SqL K H a (ns.map V.int) → sp [.ref a] H (fun v _ => v = .bl true) fun _ _ _ => False) ∧
    ∀ base : Heap, K.In base → base.Ns mainGlobals mg → (∀ p ∈ cs, TabB base mg p.1 p.2) → FnG l.prog w K mg base CX0 k fa fd [x] sp
/-- what the head tells of a def's table -/
abbrev TabsOf (q : Program) (K : PySem.W.Frag) (h : Heap) : Prop := ∀ (y : Str) (c P : Addr), ((recsOf q).find? (fun e => e.name == y)).isSome = true → PySem.W.tabIn K y = some (c, P) → PySem.W.CodeHd h c P ∧ h.get? P = some (PySem.W.tabObj #[])
/-- the goal behind the head, from such a promise -/
theorem walk_tabG {l : PySem.W.OpenLaw} {n k : Nat} {q : Program} {loose : List Str} {XP : (Str → Option Value) → Heap → Prop} {YP : World → Heap → Prop} {d : DefRec} {K : Params → PySem.W.Frag} {x : Str}
    (most : l.most = some n) (few : n ≤ sizeLine) (nodf : d.params.defaults = []) (room : Room k callerA) (hY : ∀ (w : World) (h : Heap), YP w h → (K w.params).In h)
    (F : ∀ (w : World) (mg : Str → Option Value) (fa : Addr) (h : Heap), (K w.params).In h → h.Ns mainGlobals mg → mg d.name = some (.ref fa) → TabsOf q (K w.params) h → XP mg h → LawTG l w (K w.params) k n x mg fa h) :
    PySem.W.WalkO q loose XP YP l.row.toRowW d [] (fun f vs => PySem.call f vs) :=
  Att.attach_call most nodf fun w _ s mg mb fa _ _ _ _ a vs ns G Y _ _ _ hmg hobj hints hlen hg => by
    have KX := hY w _ Y
    obtain ⟨fd, cs, sp, ti, bind, hsp, hF⟩ := F w mg fa _ KX G.T.g hmg (fun y c P hr ht => let ⟨d', hd⟩ := Option.isSome_iff_exists.mp hr; PySem.W.tab_of G.T KX hd ht) G.X
    have rv := vals_ints hints
    have len := hints.length
    have tne : ∀ p ∈ cs, p.2 ≠ a := fun p hp z => by
      have e := (ti p hp).2.1
      rw [z, hobj] at e
      cases e
    cases own : (K w.params).lookup a with
    | some o =>
      have e := KX a o own
      rw [hobj] at e
      cases e
      obtain ⟨H, eH⟩ : ∃ H : Hp, H = fun b => if b ∈ cs.map (·.2) then some (.tbl #[]) else none := ⟨_, rfl⟩
      have inT : ∀ p ∈ cs, H p.2 = some (.tbl #[]) := fun p hp => by
        rw [eH]
        exact if_pos (List.mem_map.mpr ⟨p, hp, rfl⟩)
      have outT : ∀ b, b ∉ cs.map (·.2) → H b = none := fun b n => by
        rw [eH]
        exact if_neg n
      have na : a ∉ cs.map (·.2) := fun m => by
        obtain ⟨p, hp, e⟩ := List.mem_map.mp m
        exact tne p hp e
      refine entT_run KX G.T.g G.T.b G.T.builtins G.T.nolimit hg ti G.T.bmain hobj rv (Nat.le_trans hlen few) room hF bind (H := H) ⟨inT, fun b u r => .inr ?_, fun z => absurd (outT a na) z⟩
        (hsp H a ns hlen inT (.inr ⟨_, vs.toArray, _, own, rfl, rfl, rfl, by rw [List.size_toArray, len]; exact Nat.le_trans hlen few, by simpa using rv⟩))
      refine Decidable.byContradiction fun n => ?_
      rw [outT b fun m => n (let ⟨p, hp, e⟩ := List.mem_map.mp m; ⟨p, hp, e.symm⟩)] at r
      cases r
    | none =>
      obtain ⟨H, eH⟩ : ∃ H : Hp, H = fun b => if b = a then some (.frz { cls := .type "list", data := .seq vs.toArray } (.lst (ns.map V.int))) else if b ∈ cs.map (·.2) then some (.tbl #[]) else none := ⟨_, rfl⟩
      have atA : H a = some (.frz { cls := .type "list", data := .seq vs.toArray } (.lst (ns.map V.int))) := by rw [eH]; exact if_pos rfl
      have inT : ∀ p ∈ cs, H p.2 = some (.tbl #[]) := fun p hp => by
        rw [eH]
        exact (if_neg (tne p hp)).trans (if_pos (List.mem_map.mpr ⟨p, hp, rfl⟩))
      refine entT_run KX G.T.g G.T.b G.T.builtins G.T.nolimit hg ti G.T.bmain hobj rv (Nat.le_trans hlen few) room hF bind (H := H) ⟨inT, fun b u r => ?_, fun _ => own⟩ (hsp H a ns hlen inT (.inl (.inr ⟨_, atA⟩)))
      by_cases n : b = a
      · subst n
        rw [atA] at r
        exact .inl ⟨rfl, (Option.some.inj r).symm⟩
      · refine .inr (Decidable.byContradiction fun m => ?_)
        rw [eH] at r
        have r' := (if_neg n).symm.trans r
        rw [if_neg fun z => m (let ⟨p, hp, e⟩ := List.mem_map.mp z; ⟨p, hp, e.symm⟩)] at r'
        cases r'
end L2


namespace FT
open PySem L2 TL ClX LamX NdefX
/-! ### tables -/
/-- as Keep, but for the tables of code objects -/
abbrev lamQ (x : Str) : Str := x ++ ".<locals>." ++ "<lambda>"
def KeepN (d c : Addr) (H H' : Hp) : Prop := ∀ b o, b ≠ d → b ≠ c → H b = some o → (∀ ps, o ≠ .tbl ps) → H' b = some o
theorem KeepN.trans {d c : Addr} {H H1 H2 : Hp} (a : KeepN d c H H1) (b : KeepN d c H1 H2) : KeepN d c H H2 := fun x o h h' e n => b x o h h' (a x o h h' e n) n
theorem Keep.n {d c : Addr} {H H' : Hp} (k : Keep d c H H') : KeepN d c H H' := fun b o h h' e _ => k b o h h' e
theorem KeepN.of_ext {d c : Addr} {H H' : Hp} (e : ExtN H H') : KeepN d c H H' := fun b o _ _ q n => e b o q n
theorem KeepN.free {d c p : Addr} {H H' : Hp} (k : KeepN d c H H') (n : H' p = none) (n1 : p ≠ d) (n2 : p ≠ c) (t : ∀ ps, H p ≠ some (.tbl ps)) : H p = none := by
  cases e : H p with
  | none => rfl
  | some o =>
    rw [k p o n1 n2 e (fun ps z => t ps (by rw [e, z]))] at n
    cases n
theorem tabs_keep {T : List (Addr × Str)} {d c : Addr} {H H' : Hp} (t : Tabs T H) (dr : DrawAt H d c) (k : Keep d c H H') : Tabs T H' := fun p hp => by
  obtain ⟨nx, mx, ct, cells, h1, h2, _⟩ := dr
  obtain ⟨ps, e1, e2, e3⟩ := t p hp
  have off : ∀ {b : Addr} {o : HO}, H b = some o → (∀ xs, o ≠ .lst xs) → H' b = some o := fun {b o} e n => k b o (fun z => by
    rw [z, h1] at e
    exact n _ (Option.some.inj e).symm) (fun z => by
    rw [z, h2] at e
    exact n _ (Option.some.inj e).symm) e
  refine ⟨ps, off e1 (fun xs z => nomatch z), e2, fun pos cv hc => ?_⟩
  obtain ⟨c', q1, q2⟩ := e3 pos cv hc
  exact ⟨c', q1, off q2 (fun xs z => by unfold CodeO at z; cases z)⟩
/-- neither a table nor a code object -/
def NTab (u : HO) : Prop := (∀ ps, u ≠ .tbl ps) ∧ ∀ c q, u ≠ CodeO c q
theorem NTab.dK {kvs : List (Key × V)} : NTab (.dK kvs) := ⟨fun ps z => (nomatch z), fun c q z => (by unfold CodeO at z; cases z)⟩
theorem NTab.dT {kvs : List (List Key × V)} : NTab (.dT kvs) := ⟨fun ps z => (nomatch z), fun c q z => (by unfold CodeO at z; cases z)⟩
theorem NTab.lst {xs : List V} : NTab (.lst xs) := ⟨fun ps z => (nomatch z), fun c q z => (by unfold CodeO at z; cases z)⟩
theorem NTab.ins {C dx : Addr} {fs : List (Str × V)} : NTab (.ins C dx fs) := ⟨fun ps z => (nomatch z), fun c q z => (by unfold CodeO at z; cases z)⟩
theorem DrawAt.ext {H H' : Hp} {d c : Addr} (x : DrawAt H d c) (e : ExtN H H') : DrawAt H' d c := by
  obtain ⟨nx, mx, ct, cells, h1, h2, r⟩ := x
  exact ⟨nx, mx, ct, cells, e _ _ h1 (fun ps z => nomatch z), e _ _ h2 (fun ps z => nomatch z), r⟩
def rLenS (K : PySem.W.Frag) : List V → Hp → VK → Prop := fun xs H Q => ∃ p ys, xs = [.ref p] ∧ (SqL K H p ys ∨ SqT K H p ys) ∧ Q (.int ys.length) H
def spSizes (T : List (Addr × Str)) : Sp := fun vs H Q _ => ∃ (d c q : Addr) (n : Int) (t : List (Str × Str)), vs = [.ref d, .ref q, .int n] ∧ DrawAt H d c ∧ H q = some (.dK (prs t)) ∧ TreeOk t ∧ 0 ≤ n ∧ n ≤ 10 ^ 30 ∧ Tabs T H ∧
  ∀ (p : Addr) (l : List Str) (sz : Str → Int) (H' : Hp), l.Perm (t.map Prod.fst) → Fea t n sz → (∀ b o, H b = some o → (∀ ps, o ≠ .tbl ps) → b ≠ p) → H' p = some (.dK (tblI l sz)) → DrawAt H' d c → Tabs T H' → KeepN d c H H' → Q (.ref p) H'
section
variable {P : Program} {w : World} {K : PySem.W.Frag} {mg : Str → Option Value} {base : Heap}
theorem scPath : FnScope ["_law_above", "_law_spot", "_law_way"] ["_law_above", "_law_spot"] (defScope s__law_path) := ⟨rfl, rfl, rfl, by decide +kernel, rfl, by decide +kernel, by decide +kernel⟩
def rankP (t : List (Str × Str)) (rk : Str → Nat) (σ : St) : Nat := match σ[1]? with
  | some (some (V.str a)) => if a ∈ t.map Prod.fst then rk a + 1 else 0
  | _ => 0
theorem ok_path {f : Addr} {fd : FuncData} (F : Fun K "_law_path" "_law_path" s__law_path f fd) : FnOk P w K mg base CX0 1 f fd ["_law_above", "_law_spot"] spPath := by
  refine F.ok scPath (fun vs H Q E h => ?_) (fun cdv A outer s H vs Q E hr h => ?_)
  · obtain ⟨q, a, t, rfl, _⟩ := h
    rfl
  · obtain ⟨q, a, t, rfl, hq, o, pl, k⟩ := h
    have hu := hu_of hr
    obtain ⟨rk, r⟩ := o.up
    refine ⟨_, pss_cons (ps_set (i := 2) scPath.nd rfl (.inl rfl) (pe_tup pa_nil))
      (pss_cons (ps_while PassesOwn.never (pt_cmpR op_ne (pv 1) pe_str (nomark _))
        (pss_cons (ps_set (i := 2) scPath.nd rfl (.inl rfl) (pe_op op_catT (pe_tup (pa_cons (pv 1) pa_nil)) (pv 2)))
        (pss_one (ps_set (i := 1) scPath.nd rfl (.inl rfl) (pe_dget hu (pv 0) (pv 1) (fun _ _ => rfl))))))
      (pss_one (ps_ret (pv 2)))), ?_⟩
    have big : 1000 ≤ sizeLine := by decide
    have few := o.few
    have rdm : ∀ {H'}, Same H H' → Rd H' q (.dK (prs t)) := fun s => hq.imp (s _ _) fun ⟨ob, e⟩ => ⟨ob, s _ _ e⟩
    refine ⟨by show 0 ≤ sizeLine; omega, fun p0 n0 => ?_⟩
    refine while_by (fun σ H' => ∃ (x : Str) (pw : Addr) (ws : List Str), σ = [some (.ref q), some (.str x), some (.ref pw)] ∧ Same H H' ∧ H pw = none ∧ H' pw = some (.tup (ws.map V.str)) ∧ Pl t x ∧ pathOf t a = pathOf t x ++ ws)
      (fun σ _ => rankP t rk σ) ⟨a, p0, [], rfl, same_new n0, n0, upd_same, pl, by rw [List.append_nil]⟩ ?_ ?_
    · rintro σ H1 ⟨x, pw, ws, rfl, s1, npw, aw, px, epath⟩
      refine ⟨_, rfl, rfl, _, rfl, ?_⟩
      have lws : ws.length ≤ 12 := by
        have z := congrArg List.length epath
        rw [List.length_append] at z
        have := path_len t a
        omega
      by_cases e : x = ""
      · rw [decide_eq_true (show V.str x = V.str "" by rw [e])]
        refine iteF ?_
        rw [e, path_root, List.nil_append] at epath
        exact ⟨_, rfl, k pw H1 s1 npw (by rw [epath]; exact aw)⟩
      · rw [decide_eq_false (show ¬ V.str x = V.str "" from fun z => e (V.str.inj z))]
        show if true = true then _ else _
        rw [if_pos rfl]
        have mx := px.resolve_left e
        obtain ⟨pa, ep, hpa, lx⟩ := o.step r mx
        have st := path_step o mx ep
        have fin : ∀ (p3 : Addr) (H3 : Hp), Same H1 H3 → H p3 = none → H3 p3 = some (.tup ((x :: ws).map V.str)) →
            DGet H3 q (.str x) (some (.str pa)) ∧ (∃ (x' : Str) (pw' : Addr) (ws' : List Str), ([some (.ref q), some (.str pa), some (.ref p3)] : St) = [some (.ref q), some (.str x'), some (.ref pw')] ∧ Same H H3 ∧ H pw' = none ∧ H3 pw' = some (.tup (ws'.map V.str)) ∧ Pl t x' ∧ pathOf t a = pathOf t x' ++ ws') ∧
            rankP t rk [some (.ref q), some (.str pa), some (.ref p3)] < rankP t rk [some (.ref q), some (.str x), some (.ref pw)] := fun p3 H3 s3 n3 a3 => by
          refine ⟨.inl ⟨_, Sum.inr x, rdm (s1.trans s3), rfl, by rw [val_prs, ep] <;> rfl⟩, ⟨pa, p3, x :: ws, rfl, s1.trans s3, n3, a3, hpa.imp id And.left, by rw [epath, st, List.append_assoc] <;> rfl⟩, ?_⟩
          have e1 : rankP t rk [some (.ref q), some (.str x), some (.ref pw)] = rk x + 1 := if_pos mx
          rw [e1]
          rcases hpa with z | ⟨mp, lp⟩
          · have e2 : rankP t rk [some (.ref q), some (.str pa), some (.ref p3)] = 0 := if_neg (by rw [z]; exact o.root)
            show rankP t rk [some (.ref q), some (.str pa), some (.ref p3)] < _
            rw [e2]
            omega
          · have e2 : rankP t rk [some (.ref q), some (.str pa), some (.ref p3)] = rk pa + 1 := if_pos mp
            show rankP t rk [some (.ref q), some (.str pa), some (.ref p3)] < _
            rw [e2]
            omega
        refine ⟨_, rfl, by show 1 ≤ sizeLine; omega, fun p2 n2 => ⟨_, rfl, p2, pw, [.str x], ws.map V.str, rfl, rfl, .inl (.inl upd_same), .inl (.inl (by rw [upd_ne (ne_of_none aw n2)]; exact aw)), by simp, by rw [List.length_map]; show 1 + _ ≤ sizeLine; omega, fun ew => ?_, fun _ p3 n3 => ?_⟩⟩
        · have ew' : ws = [] := List.map_eq_nil_iff.mp ew
          obtain ⟨f1, f2, f3⟩ := fin p2 _ (same_new n2) (s1.free n2) (by rw [upd_same, ew'] <;> rfl)
          exact ⟨_, rfl, _, rfl, q, .str pa, rfl, f1, f2, f3⟩
        · obtain ⟨f1, f2, f3⟩ := fin p3 _ ((same_new n2).trans (same_new n3)) (s1.free ((same_new n2).free n3)) upd_same
          exact ⟨_, rfl, _, rfl, q, .str pa, rfl, f1, f2, f3⟩
    · rintro σ H' Qa Qb h ⟨v, e1, e2, b, e3, z⟩
      exact ⟨v, e1, e2, b, e3, h _ _ z⟩
end
end FT


/-! the law's toggles, in order -/
namespace FT
open PySem L2 TL ClX LiI
theorem userT_len {u : Int} {ps gs : List Str} : (userT u ps gs).length ≤ ps.length + gs.length := by
  unfold userT
  rw [List.length_append]
  have k1 := selT_len (u := u) (b := false) (bs := gs) (ks := ps.reverse)
  have k2 := selT_len (u := u) (b := true) (bs := ps) (ks := gs)
  rw [List.length_reverse] at k1
  omega
theorem uT_len {ts : List (Str × Str)} {zs1 zs2 : List Str} {i : Nat} (few : ts.length ≤ 12) : (uT ts zs1 zs2 i).length ≤ 24 := by
  have := userT_len (u := (i : Int)) (ps := pathOf ts (zs1.getD i "")) (gs := pathOf ts (zs2.getD i ""))
  have l1 := path_len ts (zs1.getD i "")
  have l2 := path_len ts (zs2.getD i "")
  unfold uT
  omega
theorem chT_len {ts : List (Str × Str)} {zs1 zs2 : List Str} (few : ts.length ≤ 12) : ∀ n, (chT ts zs1 zs2 n).length ≤ 24 * n
  | 0 => Nat.zero_le _
  | n + 1 => by
    rw [chT_succ, List.length_append]
    have := chT_len (zs1 := zs1) (zs2 := zs2) few n
    have := uT_len (zs1 := zs1) (zs2 := zs2) (i := n) few
    omega
def spDue : Sp := fun vs H Q _ => ∃ (q l1 l2 : Addr) (t : List (Str × Str)) (zs1 zs2 : List Str), vs = [.ref q, .ref l1, .ref l2] ∧ H q = some (.dK (prs t)) ∧ TreeOk t ∧ H l1 = some (.lst (zs1.map V.str)) ∧ H l2 = some (.lst (zs2.map V.str)) ∧ zs1.length = zs2.length ∧ zs1.length ≤ 60 ∧ (∀ z ∈ zs1, Pl t z) ∧ (∀ z ∈ zs2, Pl t z) ∧
  ∀ (p : Addr) (rs : List Addr) (H' : Hp), Same H H' → H p = none → H' p = some (.lst (rs.map V.ref)) → Paired (RowT H') rs (chT t zs1 zs2 zs1.length) → Q (.ref p) H'
section
variable {P : Program} {w : World} {K : PySem.W.Frag} {mg : Str → Option Value} {base : Heap}
abbrev NDu : List Str := ["_law_above", "_law_here", "_law_there", "_law_found", "_law_user", "_law_spot", "_law_way", "_law_goal", "_law_name"]
theorem scDu : FnScope NDu ["_law_above", "_law_here", "_law_there"] (defScope s__law_due) := ⟨rfl, rfl, rfl, by decide +kernel, rfl, by decide +kernel, by decide +kernel⟩
theorem ok_dueT {f fP : Addr} {fd fdP : FuncData} (F : Fun K "_law_due" "_law_due" s__law_due f fd) (T : Nm mg) (DP : Dn P w K mg base CX0 1 "_law_path" ["_law_above", "_law_spot"] spPath fP fdP) : FnOk P w K mg base CX0 2 f fd ["_law_above", "_law_here", "_law_there"] spDue := by
  refine F.ok scDu (fun vs H Q E h => ?_) (fun cdv A outer s H vs Q E hr h => ?_)
  · obtain ⟨q, l1, l2, t, zs1, zs2, rfl, _⟩ := h
    rfl
  · obtain ⟨q, l1, l2, t, zs1, zs2, rfl, hq, o, hl1, hl2, el, n60, pl1, pl2, k⟩ := h
    have hu := hu_of hr
    have nd := scDu.nd
    have big : 4000 ≤ sizeLine := by decide
    have few := o.few
    refine ⟨_, pss_cons (ps_set (i := 3) nd rfl (.inl rfl) (pe_lst pa_nil))
      (pss_cons (ps_for PassesOwn.never rfl (pi_enum rfl T.enu (pa_cons (pv 1) pa_nil)) (pg_tup rfl (pgs_cons (pg_name (i := 4) nd rfl (.inr rfl)) (pgs_cons (pg_name (i := 5) nd rfl (.inl rfl)) pgs_nil)))
        (pss_cons (ps_asg (pe_tup (pa_cons (pe_call DP.ok hr rfl DP.mgn DP.kp DP.bn .nil pass0 (pa_cons (pv 0) (pa_cons (pv 5) pa_nil))) (pa_cons (pe_call DP.ok hr rfl DP.mgn DP.kp DP.bn .nil pass0 (pa_cons (pv 0) (pa_cons (pe_ix ix_list (pv 2) (pv 4) (fun _ _ => rfl)) pa_nil))) pa_nil)))
          (pg_tup rfl (pgs_cons (pg_name (i := 6) nd rfl (.inr rfl)) (pgs_cons (pg_name (i := 7) nd rfl (.inr rfl)) pgs_nil))))
        (pss_cons (ps_set (i := 3) nd rfl (.inl rfl) (pe_op op_cat (pv 3) (pe_lc (own := [("_law_name", 8)]) (g := gName 8) (tt := tTest (tOp (rIn K true) (tVar 8) (tVar 7))) (te := tTup (tCons (tVar 4) (tCons (tVar 8) (tCons (tC (.bl false)) tNil)))) rfl nd (pi_tup (pe_revT (pv 6)))
          (blkOk_by (N := NDu) (sc := defScope s__law_due) (by decide +kernel)) (fun _ _ _ _ _ => pg_name (i := 8) nd rfl (Or.inl rfl)) (fun _ _ _ _ _ => pts_one (pt_cmpR op_notIn_seq (pv 8) (pv 7) rfl)) (fun _ _ _ _ _ => pe_tup (pa_cons (pv 4) (pa_cons (pv 8) (pa_cons pe_bl pa_nil)))))))
        (pss_one (ps_set (i := 3) nd rfl (.inl rfl) (pe_op op_cat (pv 3) (pe_lc (own := [("_law_name", 8)]) (g := gName 8) (tt := tTest (tOp (rIn K true) (tVar 8) (tVar 6))) (te := tTup (tCons (tVar 4) (tCons (tVar 8) (tCons (tC (.bl true)) tNil)))) rfl nd (pi_tup (pv 7))
          (blkOk_by (N := NDu) (sc := defScope s__law_due) (by decide +kernel)) (fun _ _ _ _ _ => pg_name (i := 8) nd rfl (Or.inl rfl)) (fun _ _ _ _ _ => pts_one (pt_cmpR op_notIn_seq (pv 8) (pv 6) rfl)) (fun _ _ _ _ _ => pe_tup (pa_cons (pv 4) (pa_cons (pv 8) (pa_cons pe_bl pa_nil)))))))))))
      (pss_one (ps_ret (pv 3)))), ?_⟩
    refine ⟨by show 0 ≤ sizeLine; omega, fun d0 nd0 => ?_⟩
    have s00 := same_new (o := .lst ([] : List V)) nd0
    refine ⟨_, rfl, l1, _, rfl, SqL.of (s00 _ _ hl1), ?_⟩
    refine for_it walk_enum (fun j σ' H' => ∃ (D : Addr) (rs : List Addr) (u4 u5 u6 u7 : Option V), σ' = [some (.ref q), some (.ref l1), some (.ref l2), some (.ref D), u4, u5, u6, u7, none] ∧ Same H H' ∧ H D = none ∧ H' D = some (.lst (rs.map V.ref)) ∧ Paired (RowT H') rs (chT t zs1 zs2 j))
      ⟨d0, [], _, _, _, _, rfl, s00, nd0, upd_same, .nil⟩ (fun j σ' H' _ ⟨_, _, _, _, _, _, _, z, _⟩ => SqL.of (z _ _ hl1)) ?_ ?_
    · intro j TT σ' Hz Ha hj ⟨D, rs, u4, u5, u6, u7, eσ, sa, nD0, hD, pr⟩ ⟨T', y0, z0, eT, nT, eH, ey, ez⟩
      subst eσ
      subst eT
      subst eH
      cases ey
      obtain ⟨b, hb, rfl⟩ := map_of (f := V.str) (l := zs1) (show (zs1.map V.str)[j]? = some z0 from ez)
      have jl := (List.getElem?_eq_some_iff.mp hb).1
      have sT := same_new (o := .tup [.int (j : Int), .str b]) nT
      obtain ⟨b2, hb2⟩ : ∃ b2, zs2[j]? = some b2 := ⟨_, List.getElem?_eq_getElem (by omega)⟩
      have g1 : zs1.getD j "" = b := by rw [List.getD_eq_getElem?_getD, hb] <;> rfl
      have g2 : zs2.getD j "" = b2 := by rw [List.getD_eq_getElem?_getD, hb2] <;> rfl
      have P1 := pl1 b (List.mem_of_getElem? hb)
      have P2 := pl2 b2 (List.mem_of_getElem? hb2)
      have kT := sa.trans sT
      refine ⟨T', [.int (j : Int), .str b], rfl, .inl (.inl upd_same), rfl, _, _, rfl, _, _, rfl, rfl, ?_⟩
      refine ⟨_, rfl, _, rfl, q, b, t, rfl, .inl (kT _ _ hq), o, P1, fun pa H3 s3 npa hpa => ?_⟩
      have k3 := kT.trans s3
      refine ⟨_, rfl, _, rfl, _, rfl, l2, _, _, _, rfl, rfl, SqL.of (k3 _ _ hl2), atI_nat (by rw [List.getElem?_map, hb2] <;> rfl), q, b2, t, rfl, .inl (k3 _ _ hq), o, P2, fun pb H5 s5 npb hpb => ?_⟩
      have lpa := path_len t b
      have lpb := path_len t b2
      refine ⟨by show 2 ≤ sizeLine; omega, fun tp ntp => ⟨tp, _, rfl, .inl (.inl upd_same), rfl, _, _, rfl, _, _, rfl, rfl, ?_⟩⟩
      have tt := same_new (o := .tup [.ref pa, .ref pb]) ntp
      obtain ⟨H6, e6⟩ : ∃ X, X = upd H5 tp (.tup [.ref pa, .ref pb]) := ⟨_, rfl⟩
      rw [← e6] at tt ⊢
      clear e6
      have hpa6 := tt _ _ (s5 _ _ hpa)
      have hpb6 := tt _ _ hpb
      have kz6 : Same Hz H6 := ((sT.trans s3).trans s5).trans tt
      have hD6 := kz6 _ _ hD
      have lr := pair_lenZ pr
      have lc := chT_len (zs1 := zs1) (zs2 := zs2) few j
      have ek : uT t zs1 zs2 j = selT (j : Int) false (pathOf t b2) (pathOf t b).reverse ++ selT (j : Int) true (pathOf t b) (pathOf t b2) := by
        unfold uT userT
        rw [g1, g2]
      have k1 := selT_len (u := (j : Int)) (b := false) (bs := pathOf t b2) (ks := (pathOf t b).reverse)
      have k2 := selT_len (u := (j : Int)) (b := true) (bs := pathOf t b) (ks := pathOf t b2)
      rw [List.length_reverse] at k1
      -- lost
      refine ⟨_, rfl, _, rfl, pa, _, rfl, .inl (.inl hpa6), fun qr nqr => ⟨qr, rfl, ⟨_, .inl (.inl upd_same)⟩, fun D1 nD1 => ?_⟩⟩
      rw [← List.map_reverse] at nD1 ⊢
      have s67 := same_new (o := .tup ((pathOf t b).reverse.map V.str)) nqr
      obtain ⟨H7, e7⟩ : ∃ X, X = upd H6 qr (.tup ((pathOf t b).reverse.map V.str)) := ⟨_, rfl⟩
      have hqr : H7 qr = some (.tup ((pathOf t b).reverse.map V.str)) := by rw [e7]; exact upd_same
      rw [← e7] at s67 nD1 ⊢
      clear e7
      refine lc_it walk_tup (fun i H' => SelAt H7 D1 (selT (j : Int) false (pathOf t b2) ((pathOf t b).reverse.take i)) H') (SelAt.nil nD1) (fun i H' _ z => .inl (.inl (z.1 _ _ hqr))) ?_ ?_
      · intro i y Hx Hy hi q1 ⟨eb, ex⟩
        subst eb
        obtain ⟨a, ha, rfl⟩ := map_of ex
        refine ⟨rfl, ?_⟩
        refine ⟨_, rfl, _, rfl, pb, _, rfl, .inr (.inl (.inl (q1.1 _ _ (s67 _ _ hpb6)))), rfl, flat_strs _, _, rfl, ?_⟩
        rw [show (if true = true then !inV (V.str a) ((pathOf t b2).map V.str) else inV (V.str a) ((pathOf t b2).map V.str)) = decide (a ∉ pathOf t b2) from (congrArg (!·) (inV_strs a _)).trans (by simp)]
        have more := selT_more (u := (j : Int)) (b := false) (bs := pathOf t b2) ha
        refine ite2 (fun yes => ?_) (fun no => ?_)
        · have yes : a ∉ pathOf t b2 := of_decide_eq_true yes
          rw [if_pos yes] at more
          refine ⟨_, rfl, _, rfl, by show 3 ≤ sizeLine; omega, fun tp ntp => ?_⟩
          rw [more]
          exact q1.more (z := ((j : Int), a, false)) nD1 ntp (by have := selT_len (u := (j : Int)) (b := false) (bs := pathOf t b2) (ks := (pathOf t b).reverse.take i); rw [List.length_take, List.length_reverse] at this; omega)
        · have no : ¬ a ∉ pathOf t b2 := fun z => no (decide_eq_true z)
          rw [if_neg no, List.append_nil] at more
          rw [more]
          exact q1
      intro H8 q1
      rw [List.length_map, List.take_length] at q1
      obtain ⟨s8, rs1, hD1, pr1, fr1⟩ := q1
      have lr1 := pair_lenZ pr1
      have kz8 := (kz6.trans s67).trans s8
      refine ⟨D, D1, _, _, rfl, rfl, kz8 _ _ hD, hD1, by rw [List.length_map, List.length_map]; omega, fun D2 nD2 => ?_⟩
      have s89 := same_new (o := .lst (rs.map V.ref ++ rs1.map V.ref)) nD2
      obtain ⟨H9, e9⟩ : ∃ X, X = upd H8 D2 (.lst (rs.map V.ref ++ rs1.map V.ref)) := ⟨_, rfl⟩
      have hD2 : H9 D2 = some (.lst ((rs ++ rs1).map V.ref)) := by rw [e9, upd_same, List.map_append]
      rw [← e9] at s89 ⊢
      clear e9
      have kz9 := kz8.trans s89
      have pr9 : Paired (RowT H9) (rs ++ rs1) (chT t zs1 zs2 j ++ selT (j : Int) false (pathOf t b2) (pathOf t b).reverse) := pair_appW (RowT.same kz9 pr) (RowT.same s89 pr1)
      have hpa9 := s89 _ _ (s8 _ _ (s67 _ _ hpa6))
      have hpb9 := s89 _ _ (s8 _ _ (s67 _ _ hpb6))
      -- gained
      refine ⟨_, rfl, _, rfl, pb, rfl, ⟨_, .inl (.inl hpb9)⟩, fun D3 nD3 => ?_⟩
      refine lc_it walk_tup (fun i H' => SelAt H9 D3 (selT (j : Int) true (pathOf t b) ((pathOf t b2).take i)) H') (SelAt.nil nD3) (fun i H' _ z => .inl (.inl (z.1 _ _ hpb9))) ?_ ?_
      · intro i y Hx Hy hi q1 ⟨eb, ex⟩
        subst eb
        obtain ⟨a, ha, rfl⟩ := map_of ex
        refine ⟨rfl, ?_⟩
        refine ⟨_, rfl, _, rfl, pa, _, rfl, .inr (.inl (.inl (q1.1 _ _ hpa9))), rfl, flat_strs _, _, rfl, ?_⟩
        rw [show (if true = true then !inV (V.str a) ((pathOf t b).map V.str) else inV (V.str a) ((pathOf t b).map V.str)) = decide (a ∉ pathOf t b) from (congrArg (!·) (inV_strs a _)).trans (by simp)]
        have more := selT_more (u := (j : Int)) (b := true) (bs := pathOf t b) ha
        refine ite2 (fun yes => ?_) (fun no => ?_)
        · have yes : a ∉ pathOf t b := of_decide_eq_true yes
          rw [if_pos yes] at more
          refine ⟨_, rfl, _, rfl, by show 3 ≤ sizeLine; omega, fun tp ntp => ?_⟩
          rw [more]
          exact q1.more (z := ((j : Int), a, true)) nD3 ntp (by have := selT_len (u := (j : Int)) (b := true) (bs := pathOf t b) (ks := (pathOf t b2).take i); rw [List.length_take] at this; omega)
        · have no : ¬ a ∉ pathOf t b := fun z => no (decide_eq_true z)
          rw [if_neg no, List.append_nil] at more
          rw [more]
          exact q1
      intro HA q2
      rw [List.length_map, List.take_length] at q2
      obtain ⟨sA, rs2, hD3, pr2, fr2⟩ := q2
      have lr2 := pair_lenZ pr2
      have lr9 : (rs ++ rs1).length = rs.length + rs1.length := List.length_append
      refine ⟨D2, D3, _, _, rfl, rfl, sA _ _ hD2, hD3, by rw [List.length_map, List.length_map]; omega, fun D4 nD4 => ?_⟩
      have sAB := same_new (o := .lst ((rs ++ rs1).map V.ref ++ rs2.map V.ref)) nD4
      have kzB := (kz9.trans sA).trans sAB
      refine ⟨D4, (rs ++ rs1) ++ rs2, _, _, _, _, rfl, sa.trans kzB, (sa.trans (kz9.trans sA)).free nD4, by rw [upd_same, List.map_append (l₁ := rs ++ rs1)], ?_⟩
      rw [chT_succ, ek, ← List.append_assoc]
      exact pair_appW (RowT.same (sA.trans sAB) pr9) (RowT.same sAB pr2)
    · intro σ' H' ⟨D, rs, u4, u5, u6, u7, eσ, sa, nD, hD, pr⟩
      subst eσ
      rw [List.length_map] at pr
      exact ⟨_, rfl, k D rs H' sa nD hD pr⟩
end
end FT


/-! toggles as data -/
namespace FT
open PySem L2 TL ClX LiI
def tgD (z : Tg) : PyData := .tuple [.int z.1, .str z.2.1, .bool z.2.2]
def TgOk (z : Tg) : Prop := 0 ≤ z.1 ∧ z.1 ≤ 100 ∧ NameL z.2.1
theorem tgs_show : ∀ {zs : List Tg}, (∀ z ∈ zs, TgOk z) → PyData.showableAll (zs.map tgD) = true ∧ PyData.leavesShortAll 8 (zs.map tgD) = true ∧ PyData.depthAll (zs.map tgD) ≤ 1 ∧ PyData.bulkAll (zs.map tgD) ≤ 20 * zs.length ∧ PyData.hasDictAll (zs.map tgD) = false ∧ PyData.canLayAll0 (zs.map tgD) = true
  | [], _ => ⟨rfl, rfl, Nat.zero_le _, Nat.zero_le _, rfl, rfl⟩
  | (u, a, b) :: zs, h => by
    obtain ⟨h1, h2, h3, h4, h5, h6⟩ := tgs_show (zs := zs) fun v hv => h v (List.mem_cons_of_mem _ hv)
    obtain ⟨u0, u1, na⟩ := h (u, a, b) (List.mem_cons_self ..)
    obtain ⟨g1, g2⟩ := int_small' u0 u1
    have sa := strOk_name na
    have bs : (PyData.shown (.bool b)).length ≤ 8 ∧ PyData.showable (.bool b) = true := by cases b <;> decide +kernel
    refine ⟨?_, ?_, ?_, ?_, ?_, ?_⟩
    · show ((PyData.showable (.int u) && (true && (PyData.showable (.bool b) && true))) && PyData.showableAll (zs.map tgD)) = true
      rw [g2, bs.2, h1] <;> rfl
    · show ((decide ((PyData.shown (.int u)).length ≤ 8) && (PyData.leavesShort 8 (.str a) && (PyData.leavesShort 8 (.bool b) && true))) && PyData.leavesShortAll 8 (zs.map tgD)) = true
      rw [str_leaf8 sa, decide_eq_true g1, h2]
      cases b <;> decide +kernel
    · show max (max 0 (max 0 (max 0 0)) + 1) (PyData.depthAll (zs.map tgD)) ≤ 1
      omega
    · show ((0 + 1 + (a.cps.size + 1 + (0 + 1 + 0))) + 1) + PyData.bulkAll (zs.map tgD) ≤ 20 * ((u, a, b) :: zs).length
      have : a.cps.size = a.length := rfl
      have l8 : a.length ≤ 8 := na.len.2
      rw [List.length_cons]
      omega
    · show (false || PyData.hasDictAll (zs.map tgD)) = false
      rw [h5] <;> rfl
    · show ((true && (PyData.strOk a && (true && true))) && PyData.canLayAll0 (zs.map tgD)) = true
      rw [sa, h6] <;> rfl
theorem tgs_dps {K : PySem.W.Frag} {H : Hp} : ∀ {rs : List Addr} {zs : List Tg}, Paired (RowT H) rs zs → DpAll K H (rs.map V.ref) (zs.map tgD)
  | [], [], .nil => .nil
  | r :: rs, z :: zs, .cons h t => .cons (.tup (SqT.of h) (.cons (.int _) (.cons (.str _) (.cons (.bl _) .nil)))) (tgs_dps t)
theorem tgs_fit {zs : List Tg} (h : ∀ z ∈ zs, TgOk z) (few : zs.length ≤ 2000) : (PyData.list (zs.map tgD)).hasDict = false ∧ (PyData.list (zs.map tgD)).showable = true ∧ (PyData.list (zs.map tgD)).depth ≤ 60 ∧ (PyData.list (zs.map tgD)).shown.length ≤ sizeLine ∧ SeqAt.shaped (.list (zs.map tgD)) = true ∧ (PyData.list (zs.map tgD)).canLay0 = true := by
  obtain ⟨h1, h2, h3, h4, h5, h6⟩ := tgs_show h
  refine ⟨h5, h1, by show PyData.depthAll (zs.map tgD) + 1 ≤ 60; omega, PyData.shown_fits_bulk (B := 8) (by decide) (by decide) h2 ?_, ?_, h6⟩
  · show PyData.bulkAll (zs.map tgD) ≤ 2 ^ 20
    omega
  · unfold SeqAt.shaped
    have c : (PyData.list (zs.map tgD)).canLay0 = true := h6
    rw [c]
    have d : (PyData.list (zs.map tgD)).depth ≤ 64 := by
      show PyData.depthAll _ + 1 ≤ 64
      omega
    rw [decide_eq_true d] <;> rfl
theorem selT_ok {u : Int} {b : Bool} {bs ks : List Str} (u0 : 0 ≤ u) (u1 : u ≤ 100) (h : ∀ a ∈ ks, NameL a) : ∀ z ∈ selT u b bs ks, TgOk z := fun z hz => by
  obtain ⟨a, ha, rfl⟩ := List.mem_map.mp hz
  exact ⟨u0, u1, h a (List.mem_filter.mp ha).1⟩
theorem chT_ok {ts : List (Str × Str)} (o : TreeOk ts) {zs1 zs2 : List Str} (pl1 : ∀ z ∈ zs1, Pl ts z) (pl2 : ∀ z ∈ zs2, Pl ts z) {n : Nat} (hn : n ≤ 60) : ∀ z ∈ chT ts zs1 zs2 n, TgOk z := fun z hz => by
  obtain ⟨i, hi, hm⟩ := List.mem_flatMap.mp hz
  have il := List.mem_range.mp hi
  have get : ∀ {zs : List Str}, (∀ z ∈ zs, Pl ts z) → Pl ts (zs.getD i "") := fun {zs} pl => by
    rw [List.getD_eq_getElem?_getD]
    cases e : zs[i]? with
    | none => exact .inl rfl
    | some y => exact pl y (List.mem_of_getElem? e)
  have nm : ∀ {zs : List Str}, (∀ z ∈ zs, Pl ts z) → ∀ a ∈ pathOf ts (zs.getD i ""), NameL a := fun pl a ha => o.nm a (path_all o (get pl) a ha)
  unfold uT userT at hm
  rcases List.mem_append.mp hm with h | h
  · exact selT_ok (by omega) (by omega) (fun a ha => nm pl1 a (List.mem_reverse.mp ha)) z h
  · exact selT_ok (by omega) (by omega) (nm pl2) z h
end FT


/-! plain: the toggles lead from path to path -/
namespace FT
open PySem L2 TL ClX LiI
section
variable {t : List (Str × Str)}
/-- a beginning of a path is a path -/
theorem path_pre (o : TreeOk t) : ∀ (n : Nat) (a : Str), (pathOf t a).length ≤ n → Pl t a → ∀ (r : List Str) (x : Str) (s : List Str), pathOf t a = r ++ x :: s → pathOf t x = r ++ [x] ∧ Pl t x
  | n, a, hn, pl, r, x, s, e => by
    have len := congrArg List.length e
    rw [List.length_append, List.length_cons] at len
    cases n with
    | zero => omega
    | succ n =>
      have ne : a ≠ "" := fun z => by
        rw [z, path_root] at len
        simp at len
      have fl := pl.resolve_left ne
      obtain ⟨p, hp⟩ := par_some o.nd fl
      have st := path_step o fl hp
      rcases List.eq_nil_or_concat s with rfl | ⟨s', y, rfl⟩
      · have e2 : pathOf t p ++ [a] = r ++ [x] := by rw [← st]; exact e
        obtain ⟨h1, h2⟩ := List.append_inj' e2 rfl
        cases h2
        exact ⟨e, pl⟩
      · have e2 : pathOf t p ++ [a] = (r ++ x :: s') ++ [y] := by
          rw [← st, e, List.concat_eq_append, List.append_assoc, List.cons_append]
        obtain ⟨h1, h2⟩ := List.append_inj' e2 rfl
        refine path_pre o n p ?_ (par_pl o hp) r x s' h1
        rw [st, List.length_append, List.length_singleton] at hn
        omega
/-- the longest common beginning -/
theorem common (α : Type) : ∀ (P G : List α), ∃ c p g, P = c ++ p ∧ G = c ++ g ∧ ∀ x p' g', p = x :: p' → g = x :: g' → False
  | [], G => ⟨[], [], G, rfl, rfl, fun x p' g' h => by cases h⟩
  | P, [] => ⟨[], P, [], rfl, rfl, fun x p' g' _ h => by cases h⟩
  | a :: P, b :: G => by
    by_cases e : a = b
    · subst e
      obtain ⟨c, p, g, e1, e2, h⟩ := common α P G
      exact ⟨a :: c, p, g, by rw [e1] <;> rfl, by rw [e2] <;> rfl, h⟩
    · exact ⟨[], a :: P, b :: G, rfl, rfl, fun x p' g' h1 h2 => e (by cases h1; cases h2; rfl)⟩
theorem split_off (o : TreeOk t) {a b : Str} (pa : Pl t a) (pb : Pl t b) {c p g : List Str} (ep : pathOf t a = c ++ p) (eg : pathOf t b = c ++ g) (h : ∀ x p' g', p = x :: p' → g = x :: g' → False) : ∀ x ∈ p, x ∉ pathOf t b := fun x hx hm => by
  obtain ⟨p1, p2, e1⟩ := List.append_of_mem hx
  obtain ⟨r, s, e2⟩ := List.append_of_mem hm
  have h1 := (path_pre o _ a (Nat.le_refl _) pa (c ++ p1) x p2 (by rw [ep, e1, List.append_assoc])).1
  have h2 := (path_pre o _ b (Nat.le_refl _) pb r x s e2).1
  have e3 : r = c ++ p1 := (List.append_inj' (h2.symm.trans h1) rfl).1
  have e4 : g = p1 ++ x :: s := by
    have := eg.symm.trans e2
    rw [e3, List.append_assoc] at this
    exact List.append_cancel_left this
  cases p1 with
  | nil => exact h x p2 s e1 e4
  | cons y p1 => exact h y (p1 ++ x :: p2) (p1 ++ x :: s) e1 e4
theorem user_split (o : TreeOk t) {a b : Str} (pa : Pl t a) (pb : Pl t b) : ∃ c p g, pathOf t a = c ++ p ∧ pathOf t b = c ++ g ∧ ∀ u : Int, userT u (pathOf t a) (pathOf t b) = (p.reverse.map fun x => (u, x, false)) ++ g.map fun x => (u, x, true) := by
  obtain ⟨c, p, g, ep, eg, h⟩ := common Str (pathOf t a) (pathOf t b)
  have hp := split_off o pa pb ep eg h
  have hg := split_off o pb pa eg ep fun x p' g' h1 h2 => h x g' p' h2 h1
  refine ⟨c, p, g, ep, eg, fun u => ?_⟩
  have f0 : ∀ {l m : List Str}, (∀ x ∈ l, x ∈ m) → l.filter (fun a => decide (a ∉ m)) = [] := fun h => List.filter_eq_nil_iff.mpr fun x hx => by simp [h x hx]
  have f1 : ∀ {l m : List Str}, (∀ x ∈ l, x ∉ m) → l.filter (fun a => decide (a ∉ m)) = l := fun h => List.filter_eq_self.mpr fun x hx => by simp [h x hx]
  unfold userT selT
  congr 1
  · rw [show (pathOf t a).reverse = p.reverse ++ c.reverse by rw [ep, List.reverse_append], List.filter_append, f1 (fun x hx => hp x (List.mem_reverse.mp hx)), f0 (fun x hx => by rw [eg]; exact List.mem_append_left _ (List.mem_reverse.mp hx)), List.append_nil]
  · rw [show ((pathOf t b).filter fun x => decide (x ∉ pathOf t a)) = g by
      rw [show (pathOf t b).filter (fun x => decide (x ∉ pathOf t a)) = (c ++ g).filter (fun x => decide (x ∉ pathOf t a)) by rw [← eg], List.filter_append, f1 hg, f0 (fun x hx => by rw [ep]; exact List.mem_append_left _ hx), List.nil_append]]
/-- a list of flags that is a path -/
def IsPt (t : List (Str × Str)) (e : List Str) : Prop := e = [] ∨ ∃ r x, e = r ++ [x] ∧ Pl t x ∧ pathOf t x = e
theorem isPt_pre (o : TreeOk t) {a : Str} (pa : Pl t a) {c s : List Str} (e : pathOf t a = c ++ s) : IsPt t c := by
  rcases List.eq_nil_or_concat c with rfl | ⟨r, x, rfl⟩
  · exact .inl rfl
  · rw [List.concat_eq_append] at e ⊢
    obtain ⟨h1, h2⟩ := path_pre o _ a (Nat.le_refl _) pa r x s (by rw [e, List.append_assoc] <;> rfl)
    exact .inr ⟨r, x, rfl, h2, h1⟩
/-- the toggles go through from the lists fl to the lists fl' -/
def GoodT (t : List (Str × Str)) : List (List Str) → List Tg → List (List Str) → Prop
  | fl, [], fl' => fl = fl'
  | fl, (u, a, b) :: zs, fl' => ∃ (i : Nat) (e e' : List Str), u = (i : Int) ∧ fl[i]? = some e ∧ (if b = true then e' = e ++ [a] else e = e' ++ [a]) ∧ IsPt t e' ∧ e'.length ≤ 12 ∧ GoodT t (fl.set i e') zs fl'
theorem good_app : ∀ {zs ws : List Tg} {f1 f2 f3 : List (List Str)}, GoodT t f1 zs f2 → GoodT t f2 ws f3 → GoodT t f1 (zs ++ ws) f3
  | [], ws, f1, f2, f3, h, k => by
    have h : f1 = f2 := h
    rw [h]
    exact k
  | (u, a, b) :: zs, ws, f1, f2, f3, ⟨i, e, e', h1, h2, h3, h4, h5, h6⟩, k => ⟨i, e, e', h1, h2, h3, h4, h5, good_app h6 k⟩
theorem set_own {α : Type} {l : List α} {i : Nat} {c : α} (h : l[i]? = some c) : l.set i c = l := by
  obtain ⟨lt, e⟩ := List.getElem?_eq_some_iff.mp h
  rw [← e]
  exact List.set_getElem_self lt
theorem good_lost (o : TreeOk t) {a : Str} (pa : Pl t a) {c : List Str} {i : Nat} : ∀ (p s : List Str) (fl : List (List Str)), pathOf t a = c ++ p.reverse ++ s → fl[i]? = some (c ++ p.reverse) → GoodT t fl (p.map fun x => ((i : Int), x, false)) (fl.set i c)
  | [], s, fl, e, h => by
    show fl = fl.set i c
    rw [List.reverse_nil, List.append_nil] at h
    exact (set_own h).symm
  | x :: p, s, fl, e, h => by
    rw [List.reverse_cons, ← List.append_assoc] at e h
    have il := (List.getElem?_eq_some_iff.mp h).1
    have e' : pathOf t a = (c ++ p.reverse) ++ ([x] ++ s) := by rw [e]; simp only [List.append_assoc]
    have len := congrArg List.length e'
    rw [List.length_append] at len
    have := path_len t a
    have := o.few
    refine ⟨i, _, c ++ p.reverse, rfl, h, rfl, isPt_pre o pa e', by omega, ?_⟩
    have := good_lost o pa (i := i) p ([x] ++ s) (fl.set i (c ++ p.reverse)) e' (by rw [List.getElem?_set_self il])
    rw [List.set_set] at this
    exact this
theorem good_got (o : TreeOk t) {a : Str} (pa : Pl t a) {i : Nat} : ∀ (g c : List Str) (fl : List (List Str)), pathOf t a = c ++ g → fl[i]? = some c → GoodT t fl (g.map fun x => ((i : Int), x, true)) (fl.set i (c ++ g))
  | [], c, fl, e, h => by
    show fl = fl.set i (c ++ [])
    rw [List.append_nil]
    exact (set_own h).symm
  | x :: g, c, fl, e, h => by
    have il := (List.getElem?_eq_some_iff.mp h).1
    have e' : pathOf t a = (c ++ [x]) ++ g := by rw [e, List.append_assoc] <;> rfl
    have len := congrArg List.length e'
    rw [List.length_append] at len
    have := path_len t a
    have := o.few
    refine ⟨i, c, c ++ [x], rfl, h, rfl, isPt_pre o pa e', by omega, ?_⟩
    have := good_got o pa (i := i) g (c ++ [x]) (fl.set i (c ++ [x])) e' (by rw [List.getElem?_set_self il])
    rw [List.set_set, List.append_assoc] at this
    exact this
theorem good_user (o : TreeOk t) {a b : Str} (pa : Pl t a) (pb : Pl t b) {i : Nat} {fl : List (List Str)} (h : fl[i]? = some (pathOf t a)) : GoodT t fl (userT (i : Int) (pathOf t a) (pathOf t b)) (fl.set i (pathOf t b)) := by
  obtain ⟨c, p, g, ep, eg, eu⟩ := user_split o pa pb
  have il := (List.getElem?_eq_some_iff.mp h).1
  rw [eu, eg]
  have h1 := good_lost o pa (i := i) p.reverse [] fl (by rw [List.reverse_reverse, List.append_nil]; exact ep) (by rw [List.reverse_reverse, ← ep]; exact h)
  have h2 := good_got o pb (i := i) g c (fl.set i c) eg (by rw [List.getElem?_set_self il])
  rw [List.set_set] at h2
  exact good_app h1 h2
theorem good_all (o : TreeOk t) {zs1 zs2 : List Str} (el : zs1.length = zs2.length) (pl1 : ∀ z ∈ zs1, Pl t z) (pl2 : ∀ z ∈ zs2, Pl t z) : ∀ n, n ≤ zs1.length → GoodT t (zs1.map (pathOf t)) (chT t zs1 zs2 n) ((zs2.take n ++ zs1.drop n).map (pathOf t))
  | 0, _ => by
    show _ = _
    rw [List.take_zero, List.drop_zero, List.nil_append]
  | n + 1, h => by
    rw [chT_succ]
    refine good_app (good_all o el pl1 pl2 n (by omega)) ?_
    obtain ⟨a, ha⟩ : ∃ a, zs1[n]? = some a := ⟨_, List.getElem?_eq_getElem (by omega)⟩
    obtain ⟨b, hb⟩ : ∃ b, zs2[n]? = some b := ⟨_, List.getElem?_eq_getElem (by omega)⟩
    have g1 : zs1.getD n "" = a := by rw [List.getD_eq_getElem?_getD, ha] <;> rfl
    have g2 : zs2.getD n "" = b := by rw [List.getD_eq_getElem?_getD, hb] <;> rfl
    have lt : (zs2.take n).length = n := by rw [List.length_take]; omega
    have hd : zs1.drop n = a :: zs1.drop (n + 1) := by
      have l1 := (List.getElem?_eq_some_iff.mp ha)
      rw [List.drop_eq_getElem_cons l1.1, l1.2]
    unfold uT
    rw [g1, g2]
    have at_ : ((zs2.take n ++ zs1.drop n).map (pathOf t))[n]? = some (pathOf t a) := by
      rw [List.getElem?_map, List.getElem?_append_right (by omega), lt, Nat.sub_self, hd] <;> rfl
    have := good_user o (pl1 a (List.mem_of_getElem? ha)) (pl2 b (List.mem_of_getElem? hb)) (i := n) at_
    have e : ((zs2.take n ++ zs1.drop n).map (pathOf t)).set n (pathOf t b) = (zs2.take (n + 1) ++ zs1.drop (n + 1)).map (pathOf t) := by
      rw [← List.map_set, hd, take_more hb, List.set_append_right _ _ (by omega), lt, Nat.sub_self, List.set_cons_zero, List.append_assoc] <;> rfl
    rw [e] at this
    exact this
theorem good_chT (o : TreeOk t) {zs1 zs2 : List Str} (el : zs1.length = zs2.length) (pl1 : ∀ z ∈ zs1, Pl t z) (pl2 : ∀ z ∈ zs2, Pl t z) : GoodT t (zs1.map (pathOf t)) (chT t zs1 zs2 zs1.length) (zs2.map (pathOf t)) := by
  have := good_all o el pl1 pl2 zs1.length (Nat.le_refl _)
  rw [List.drop_length, List.append_nil, el, List.take_length] at this
  rw [el]
  exact this
end
end FT


/-! _law_paths_right -/
namespace FT
open PySem L2 TL ClX LiI
/-- lists of texts, each by its own -/
def FlAt (H0 H' : Hp) (D : Addr) (rs : List Addr) (fl : List (List Str)) : Prop := Same H0 H' ∧ H0 D = none ∧ H' D = some (.lst (rs.map V.ref)) ∧ rs.Nodup ∧ rs.length = fl.length ∧ (∀ r ∈ rs, H0 r = none ∧ r ≠ D) ∧ ∀ (i : Nat) (r : Addr) (e : List Str), rs[i]? = some r → fl[i]? = some e → H' r = some (.lst (e.map V.str))
theorem FlAt.same {H0 H1 H2 : Hp} {D : Addr} {rs : List Addr} {fl : List (List Str)} (h : FlAt H0 H1 D rs fl) (s : Same H1 H2) : FlAt H0 H2 D rs fl := by
  obtain ⟨a, b, c, d, e, f, g⟩ := h
  exact ⟨a.trans s, b, s _ _ c, d, e, f, fun i r x h1 h2 => s _ _ (g i r x h1 h2)⟩
theorem FlAt.nil {H0 : Hp} {D : Addr} (n : H0 D = none) : FlAt H0 (upd H0 D (.lst [])) D [] [] := ⟨same_new n, n, upd_same, List.nodup_nil, rfl, fun r h => (by cases h), fun i r e h => by rw [List.getElem?_nil] at h; cases h⟩
theorem FlAt.more {H0 H1 : Hp} {D l : Addr} {rs : List Addr} {fl : List (List Str)} {e : List Str} (h : FlAt H0 H1 D rs fl) (nl : H1 l = none) :
    FlAt H0 (upd (upd H1 l (.lst (e.map V.str))) D (.lst (rs.map V.ref ++ [.ref l]))) D (rs ++ [l]) (fl ++ [e]) := by
  obtain ⟨a, b, c, d, el, f, g⟩ := h
  have st := same_new (o := .lst (e.map V.str)) nl
  have lD : l ≠ D := (ne_of_none c nl).symm
  have fr : ∀ r ∈ rs, r ≠ l := fun r hr => by
    obtain ⟨i, hi⟩ := List.getElem?_of_mem hr
    have il := (List.getElem?_eq_some_iff.mp hi).1
    exact ne_of_none (g i r _ hi (List.getElem?_eq_getElem (by omega))) nl
  refine ⟨(a.trans st).put b, b, by rw [upd_same, List.map_append] <;> rfl, ?_, by rw [List.length_append, List.length_append, el] <;> rfl, fun r hr => ?_, fun i r x h1 h2 => ?_⟩
  · rw [List.nodup_append]
    exact ⟨d, List.pairwise_singleton _ _, fun x hx y hy => by rw [List.mem_singleton.mp hy]; exact fr x hx⟩
  · rcases List.mem_append.mp hr with h | h
    · exact f r h
    · rw [List.mem_singleton.mp h]
      exact ⟨a.free nl, lD⟩
  · by_cases lt : i < rs.length
    · rw [List.getElem?_append_left lt] at h1
      rw [List.getElem?_append_left (by omega)] at h2
      rw [upd_ne (f r (List.mem_of_getElem? h1)).2]
      exact st _ _ (g i r x h1 h2)
    · rw [List.getElem?_append_right (by omega)] at h1 h2
      rw [el] at h1
      have e1 := List.mem_singleton.mp (List.mem_of_getElem? h1)
      have e2 := List.mem_singleton.mp (List.mem_of_getElem? h2)
      rw [e1, e2, upd_ne lD, upd_same]
theorem FlAt.set {H0 H1 : Hp} {D r : Addr} {rs : List Addr} {fl : List (List Str)} {i : Nat} {e : List Str} (h : FlAt H0 H1 D rs fl) (hr : rs[i]? = some r) : FlAt H0 (upd H1 r (.lst (e.map V.str))) D rs (fl.set i e) := by
  obtain ⟨a, b, c, d, el, f, g⟩ := h
  have il := (List.getElem?_eq_some_iff.mp hr).1
  have fr := f r (List.mem_of_getElem? hr)
  refine ⟨a.put fr.1, b, by rw [upd_ne fr.2.symm]; exact c, d, by rw [List.length_set]; exact el, f, fun j r' x h1 h2 => ?_⟩
  by_cases ej : j = i
  · subst ej
    rw [hr] at h1
    cases h1
    rw [List.getElem?_set_self (by omega)] at h2
    cases h2
    exact upd_same
  · rw [List.getElem?_set_ne (Ne.symm ej)] at h2
    have ne : r' ≠ r := fun z => by
      rw [z] at h1
      have jl := (List.getElem?_eq_some_iff.mp h1).1
      exact ej ((List.getElem?_inj jl d).mp (h1.trans hr.symm))
    rw [upd_ne ne]
    exact g j r' x h1 h2
abbrev tlD (l : List Str) : PyData := .list (l.map PyData.str)
theorem FlAt.dps {K : PySem.W.Frag} {H' : Hp} : ∀ {rs : List Addr} {fl : List (List Str)}, rs.length = fl.length → (∀ (i : Nat) (r : Addr) (e : List Str), rs[i]? = some r → fl[i]? = some e → H' r = some (.lst (e.map V.str))) → DpAll K H' (rs.map V.ref) (fl.map tlD)
  | [], [], _, _ => .nil
  | r :: rs, e :: fl, el, g => .cons (.lst (SqL.of (g 0 r e rfl rfl)) (dps_strs e)) (FlAt.dps (by simpa using el) fun i r' e' h1 h2 => g (i + 1) r' e' h1 h2)
theorem tls_lay : ∀ {fl : List (List Str)}, (∀ e ∈ fl, ∀ z ∈ e, PyData.strOk z = true) → PyData.canLayAll0 (fl.map tlD) = true ∧ PyData.depthAll (fl.map tlD) ≤ 1
  | [], _ => ⟨rfl, Nat.zero_le _⟩
  | e :: fl, h => by
    obtain ⟨h1, h2⟩ := tls_lay (fl := fl) fun x hx => h x (List.mem_cons_of_mem _ hx)
    obtain ⟨g1, g2⟩ := strs_lay (h e (List.mem_cons_self ..))
    constructor
    · show (PyData.canLayAll0 (e.map PyData.str) && PyData.canLayAll0 (fl.map tlD)) = true
      rw [g1, h1] <;> rfl
    · show max (PyData.depthAll (e.map PyData.str) + 1) (PyData.depthAll (fl.map tlD)) ≤ 1
      omega
theorem tls_shaped {fl : List (List Str)} (h : ∀ e ∈ fl, ∀ z ∈ e, PyData.strOk z = true) : (PyData.list (fl.map tlD)).canLay0 = true ∧ SeqAt.shaped (.list (fl.map tlD)) = true := by
  obtain ⟨h1, h2⟩ := tls_lay h
  have c : (PyData.list (fl.map tlD)).canLay0 = true := h1
  refine ⟨c, ?_⟩
  unfold SeqAt.shaped
  rw [c]
  have d : (PyData.list (fl.map tlD)).depth ≤ 64 := by
    show PyData.depthAll (fl.map tlD) + 1 ≤ 64
    omega
  rw [decide_eq_true d] <;> rfl
theorem strs_refl {l : List Str} (h : ∀ z ∈ l, PyData.strOk z = true) : PyData.eqv (tlD l) (tlD l) = true := SeqAt.eqv_refl _ (show PyData.canLayAll0 (l.map PyData.str) = true from (strs_lay h).1)
theorem cut_last (r : List Str) (a : Str) : cutV ((r ++ [a]).map V.str) (some (-1)) none = ([a] : List Str).map V.str := by
  unfold cutV
  have l : ((r ++ [a]).map V.str).length = r.length + 1 := by rw [List.length_map, List.length_append] <;> rfl
  have e1 : HT.sIx ((r ++ [a]).map V.str).length 0 (some (-1)) = r.length := by
    rw [l]
    show (if (-1 : Int) < 0 then ((-1 : Int) + ((r.length + 1 : Nat) : Int)).toNat else min (-1 : Int).toNat (r.length + 1)) = r.length
    rw [if_pos (by decide)]
    omega
  have e2 : HT.sIx ((r ++ [a]).map V.str).length ((r ++ [a]).map V.str).length none = r.length + 1 := l
  rw [e1, e2, show ((r ++ [a]).map V.str) = r.map V.str ++ [V.str a] from List.map_append, show (r.map V.str ++ [V.str a]).drop r.length = [V.str a] from List.drop_left' (List.length_map _), show r.length + 1 - r.length = 1 by omega] <;> rfl
def rLstOf (K : PySem.W.Frag) : List V → Hp → VK → Prop := fun xs H Q => ∃ p ys, xs = [.ref p] ∧ (SqL K H p ys ∨ SqT K H p ys) ∧ ∀ l, H l = none → Q (.ref l) (upd H l (.lst ys))
def spPathsR : Sp := fun vs H Q _ => ∃ (q l1 l2 lt : Addr) (t : List (Str × Str)) (zs1 zs2 : List Str) (rs : List Addr), vs = [.ref q, .ref l1, .ref l2, .ref lt] ∧ H q = some (.dK (prs t)) ∧ TreeOk t ∧ H l1 = some (.lst (zs1.map V.str)) ∧ H l2 = some (.lst (zs2.map V.str)) ∧ zs1.length = zs2.length ∧ zs1.length ≤ 60 ∧ (∀ z ∈ zs1, Pl t z) ∧ (∀ z ∈ zs2, Pl t z) ∧
  H lt = some (.lst (rs.map V.ref)) ∧ Paired (RowT H) rs (chT t zs1 zs2 zs1.length) ∧ ∀ H', Same H H' → Q (.bl true) H'
section
variable {P : Program} {w : World} {K : PySem.W.Frag} {mg : Str → Option Value} {base : Heap}
abbrev NPr : List Str := ["_law_above", "_law_here", "_law_there", "_law_told", "_law_flags", "_law_user", "_law_name", "_law_on", "_law_spot"]
theorem scPr : FnScope NPr ["_law_above", "_law_here", "_law_there", "_law_told"] (defScope s__law_paths_right) := ⟨rfl, rfl, rfl, by decide +kernel, rfl, by decide +kernel, by decide +kernel⟩
theorem ok_pathsR {f fP : Addr} {fd fdP : FuncData} (F : Fun K "_law_paths_right" "_law_paths_right" s__law_paths_right f fd) (T : Nm mg) (DP : Dn P w K mg base CX0 1 "_law_path" ["_law_above", "_law_spot"] spPath fP fdP) : FnOk P w K mg base CX0 2 f fd ["_law_above", "_law_here", "_law_there", "_law_told"] spPathsR := by
  refine F.ok scPr (fun vs H Q E h => ?_) (fun cdv A outer s H vs Q E hr h => ?_)
  · obtain ⟨q, l1, l2, lt, t, zs1, zs2, rs, rfl, _⟩ := h
    rfl
  · obtain ⟨q, l1, l2, lt, t, zs1, zs2, ws, rfl, hq, o, hl1, hl2, el, n60, pl1, pl2, hlt, pw, k⟩ := h
    have hu := hu_of hr
    have nd := scPr.nd
    have big : 4000 ≤ sizeLine := by decide
    have few := o.few
    refine ⟨_, pss_cons (ps_setLc (i := 4) (own := [("_law_spot", 8)]) (g := gName 8) (tt := tYes) (te := tCB (rLstOf K) (tCons (tCall spPath [] E0 (tCons (tVar 0) (tCons (tVar 8) tNil))) tNil)) rfl nd rfl rfl (sw_true rfl rfl rfl (by decide +kernel)) (pi_list (pv 1))
          (blkOk_by (N := NPr) (sc := defScope s__law_paths_right) (by decide +kernel)) (fun _ _ _ _ _ => pg_name (i := 8) nd rfl (Or.inl rfl)) (fun _ _ _ _ _ => pts_nil)
          (fun _ _ _ _ _ => pe_callTy call_list_of (by rfl) T.lst (by decide +kernel) (pa_cons (pe_call DP.ok hr rfl DP.mgn DP.kp DP.bn .nil pass0 (pa_cons (pv 0) (pa_cons (pv 8) pa_nil))) pa_nil)))
      (pss_cons (ps_for PassesOwn.never rfl (pi_list (pv 3)) (pg_tup rfl (pgs_cons (pg_name (i := 5) nd rfl (.inl rfl)) (pgs_cons (pg_name (i := 6) nd rfl (.inl rfl)) (pgs_cons (pg_name (i := 7) nd rfl (.inl rfl)) pgs_nil))))
        (pss_cons (ps_if (pt_val (pv 7)) (pss_one (ps_expr (pe_bm PySem.F.plainAttrs_list PySem.F.slot_list_append PySem.F.type_list_append mt_append (pe_ix ix_list (pv 4) (pv 5) (fun _ _ => rfl)) (pa_cons (pv 6) pa_nil))))
          (pss_one (ps_if (pt_cmpR (op_neD hr.units) (pe_slice sl_list (pe_ix ix_list (pv 4) (pv 5) (fun _ _ => rfl)) (po_some (pe_un un_neg pe_int)) po_none) (pe_lst (pa_cons (pv 6) pa_nil)) (nomark _)) (pss_one (ps_ret pe_bl))
            (pss_one (ps_expr (pe_bm0 PySem.F.plainAttrs_list PySem.F.slot_list_pop PySem.F.type_list_pop mt_pop (pe_ix ix_list (pv 4) (pv 5) (fun _ _ => rfl))))))))
        (pss_one (ps_if (PW.pt (pw_and (pt_cmpR (op_neD hr.units) (pe_ix ix_list (pv 4) (pv 5) (fun _ _ => rfl)) (pe_lst pa_nil) (nomark _))
            (pw_and1 (pt_cmpR (op_neD hr.units) (pe_ix ix_list (pv 4) (pv 5) (fun _ _ => rfl)) (pe_callTy call_list_of (by rfl) T.lst (by decide +kernel) (pa_cons (pe_call DP.ok hr rfl DP.mgn DP.kp DP.bn .nil pass0 (pa_cons (pv 0) (pa_cons (pe_ix ix_list (pe_ix ix_list (pv 4) (pv 5) (fun _ _ => rfl)) (pe_un un_neg pe_int) (fun _ _ => rfl)) pa_nil))) pa_nil)) (nomark _)))))
          (pss_one (ps_ret pe_bl)) pss_nil))))
      (pss_one (ps_ret (pe_cmpR (op_eqD hr.units) (pv 4) (pe_lc (own := [("_law_spot", 8)]) (g := gName 8) (tt := tYes) (te := tCB (rLstOf K) (tCons (tCall spPath [] E0 (tCons (tVar 0) (tCons (tVar 8) tNil))) tNil)) rfl nd (pi_list (pv 2))
          (blkOk_by (N := NPr) (sc := defScope s__law_paths_right) (by decide +kernel)) (fun _ _ _ _ _ => pg_name (i := 8) nd rfl (Or.inl rfl)) (fun _ _ _ _ _ => pts_nil)
          (fun _ _ _ _ _ => pe_callTy call_list_of (by rfl) T.lst (by decide +kernel) (pa_cons (pe_call DP.ok hr rfl DP.mgn DP.kp DP.bn .nil pass0 (pa_cons (pv 0) (pa_cons (pv 8) pa_nil))) pa_nil))) (nomark _))))), ?_⟩
    refine ⟨_, rfl, l1, rfl, ⟨_, SqL.of hl1⟩, fun D nD => ?_⟩
    refine lc_it walk_list (fun j H' => ∃ rs, FlAt H H' D rs ((zs1.take j).map (pathOf t))) ⟨[], FlAt.nil nD⟩ (fun j H' _ ⟨_, z⟩ => SqL.of (z.1 _ _ hl1)) ?_ ?_
    · intro j y Hz Ha hj ⟨rs, q1⟩ ⟨eb, ex⟩
      subst eb
      obtain ⟨b, hb, rfl⟩ := map_of (f := V.str) (l := zs1) ex
      have jl := (List.getElem?_eq_some_iff.mp hb).1
      refine ⟨rfl, ?_⟩
      refine ⟨_, rfl, _, rfl, q, b, t, rfl, .inl (q1.1 _ _ hq), o, pl1 b (List.mem_of_getElem? hb), fun pt H3 s3 npt hpt => ⟨pt, _, rfl, .inr (.inl (.inl hpt)), fun l nl => ?_⟩⟩
      have q3 := q1.same s3
      have lr := q3.2.2.2.2.1
      rw [List.length_map, List.length_take] at lr
      refine ⟨_, (same_new nl) _ _ q3.2.2.1, by rw [List.length_map]; omega, rs ++ [l], ?_⟩
      rw [take_more hb, List.map_append]
      exact q3.more nl
    intro H1 ⟨rs, q1⟩
    rw [List.length_map, List.take_length] at q1
    -- the toggles
    have s1 := q1.1
    have pw1 := RowT.same s1 pw
    have lw := pair_lenZ pw
    refine ⟨_, rfl, lt, rfl, ⟨_, SqL.of (s1 _ _ hlt)⟩, ?_⟩
    have okp : ∀ {a : Str}, Pl t a → ∀ z ∈ pathOf t a, PyData.strOk z = true := fun h z hz => strOk_name (o.nm _ (path_all o h z hz))
    have oke : ∀ {e : List Str}, IsPt t e → ∀ z ∈ e, PyData.strOk z = true := fun {e} h z hz => by
      rcases h with rfl | ⟨r, x, e1, h1, h2⟩
      · cases hz
      · rw [← h2] at hz
        exact okp h1 z hz
    refine for_it walk_list (fun j σ' H' => (∃ u5 u6 u7, σ' = [some (.ref q), some (.ref l1), some (.ref l2), some (.ref lt), some (.ref D), u5, u6, u7, none]) ∧ ∃ fl, FlAt H H' D rs fl ∧ fl.length = zs1.length ∧ (∀ e ∈ fl, IsPt t e ∧ e.length ≤ 12) ∧ GoodT t fl ((chT t zs1 zs2 zs1.length).drop j) (zs2.map (pathOf t)))
      ⟨⟨_, _, _, rfl⟩, _, q1, List.length_map _, fun e he => ?_, good_chT o el pl1 pl2⟩ (fun j σ' H' _ ⟨_, _, z, _⟩ => SqL.of (z.1 _ _ hlt)) ?_ ?_
    · obtain ⟨a, ha, rfl⟩ := List.mem_map.mp he
      exact ⟨isPt_pre o (pl1 a ha) (s := []) (List.append_nil _).symm, Nat.le_trans (path_len t a) few⟩
    · intro j y σ' Hz Ha hj ⟨⟨u5, u6, u7, eσ⟩, fl, qf, lf, good, gt⟩ ⟨eb, ex⟩
      subst eσ
      subst eb
      obtain ⟨r, hr', rfl⟩ := map_of (f := V.ref) (l := ws) ex
      obtain ⟨⟨u, a, b⟩, hz, hrow⟩ := LiI.paired_get pw hr'
      have jl := (List.getElem?_eq_some_iff.mp hz).1
      have ed : (chT t zs1 zs2 zs1.length).drop j = (u, a, b) :: (chT t zs1 zs2 zs1.length).drop (j + 1) := by
        rw [List.drop_eq_getElem_cons jl, (List.getElem?_eq_some_iff.mp hz).2]
      rw [ed] at gt
      obtain ⟨i, e, e', rfl, he, hb, ip, l12, rest⟩ := gt
      have hrow2 : Ha r = some (.tup [.int (i : Int), .str a, .bl b]) := qf.1 _ _ hrow
      have il := (List.getElem?_eq_some_iff.mp he).1
      have lrs := qf.2.2.2.2.1
      obtain ⟨ri, hri⟩ : ∃ ri, rs[i]? = some ri := ⟨_, List.getElem?_eq_getElem (by omega)⟩
      have hre := qf.2.2.2.2.2.2 i ri e hri he
      have hD := qf.2.2.1
      have atr : atI (rs.map V.ref) ((i : Nat) : Int) = some (.ref ri) := atI_nat (by rw [List.getElem?_map, hri] <;> rfl)
      have le12 : e.length ≤ 12 := (good e (List.mem_of_getElem? he)).2
      refine ⟨r, _, rfl, .inl (.inl hrow2), rfl, _, _, rfl, _, _, rfl, _, _, rfl, rfl, ?_⟩
      -- the check behind
      have fin : ∀ H2, FlAt H H2 D rs (fl.set i e') → tIfS (tAnd (tTest (tOp (rNeD K) (tOp (rIxL K) (tVar 4) (tVar 5)) (tLst tNil))) (tTest (tOp (rNeD K) (tOp (rIxL K) (tVar 4) (tVar 5)) (tCB (rLstOf K) (tCons (tCall spPath [] E0 (tCons (tVar 0) (tCons (tOp (rIxL K) (tOp (rIxL K) (tVar 4) (tVar 5)) (tUn (rU fun i => .int (-i)) (tC (.int 1)))) tNil))) tNil))))) (tRet (tC (.bl false))) tNext
          { nx := fun σ' H' => (∃ u5 u6 u7, σ' = [some (.ref q), some (.ref l1), some (.ref l2), some (.ref lt), some (.ref D), u5, u6, u7, none]) ∧ ∃ fl, FlAt H H' D rs fl ∧ fl.length = zs1.length ∧ (∀ e ∈ fl, IsPt t e ∧ e.length ≤ 12) ∧ GoodT t fl ((chT t zs1 zs2 zs1.length).drop (j + 1)) (zs2.map (pathOf t)), rt := Q } [some (.ref q), some (.ref l1), some (.ref l2), some (.ref lt), some (.ref D), some (.int (i : Int)), some (.str a), some (.bl b), none] H2 := by
        intro H2 q2
        have good2 : ∀ e ∈ fl.set i e', IsPt t e ∧ e.length ≤ 12 := fun x hx => (List.mem_or_eq_of_mem_set hx).elim (good x) fun z => by rw [z]; exact ⟨ip, l12⟩
        have fl2 : (fl.set i e').length = zs1.length := by rw [List.length_set]; exact lf
        have he2 : (fl.set i e')[i]? = some e' := List.getElem?_set_self il
        have hre2 := q2.2.2.2.2.2.2 i ri e' hri he2
        have hD2 := q2.2.2.1
        have ok' := oke ip
        refine ⟨_, rfl, _, rfl, D, _, _, _, rfl, rfl, SqL.of hD2, atr, by show 0 ≤ sizeLine; omega, fun z nz => ⟨tlD e', .list [], .lst (SqL.of ((same_new nz) _ _ hre2)) (dps_strs _), .lst (SqL.of upd_same) .nil, strs_shaped ok', rfl, ?_⟩⟩
        have sz := same_new (o := .lst []) nz
        refine ⟨_, rfl, ?_⟩
        rcases ip with rfl | ⟨r0, x, e1, px, e2⟩
        · exact iteF (iteF ⟨⟨_, _, _, rfl⟩, _, q2.same sz, fl2, good2, rest⟩)
        · have ne : PyData.eqv (tlD e') (.list []) = false := by
            rw [e1]
            cases r0 <;> rfl
          rw [ne]
          refine iteT ?_
          refine ⟨_, rfl, _, rfl, D, _, _, _, rfl, rfl, SqL.of (sz _ _ hD2), atr, ?_⟩
          refine ⟨_, rfl, _, rfl, _, rfl, D, _, _, _, rfl, rfl, SqL.of (sz _ _ hD2), atr, 1, rfl, ri, _, _, _, rfl, rfl, SqL.of (sz _ _ hre2), by rw [e1, List.map_append]; exact atI_last _ _, q, x, t, rfl, .inl (sz _ _ (q2.1 _ _ hq)), o, px, fun pt H3 s3 npt hpt => ⟨pt, _, rfl, .inr (.inl (.inl hpt)), fun l nl => ?_⟩⟩
          have s4 := same_new (o := .lst ((pathOf t x).map V.str)) nl
          refine ⟨tlD e', tlD (pathOf t x), .lst (SqL.of (s4 _ _ (s3 _ _ (sz _ _ hre2)))) (dps_strs _), .lst (SqL.of upd_same) (dps_strs _), strs_shaped ok', strs_shaped (okp px), _, rfl, ?_⟩
          rw [e2] at s4 ⊢
          rw [strs_refl ok']
          exact iteF ⟨⟨_, _, _, rfl⟩, _, q2.same ((sz.trans s3).trans s4), fl2, good2, rest⟩
      refine ⟨_, rfl, b, rfl, ?_⟩
      cases b with
      | true =>
        have hb : e' = e ++ [a] := hb
        subst hb
        refine iteT ?_
        refine ⟨_, rfl, _, rfl, D, _, _, _, rfl, rfl, SqL.of hD, atr, .inl ⟨rfl, _, SqL.of hre⟩, _, rfl, ri, _, _, rfl, rfl, hre, by rw [List.length_map]; omega, ?_⟩
        rw [show e.map V.str ++ [V.str a] = (e ++ [a]).map V.str by rw [List.map_append] <;> rfl]
        exact fin _ (qf.set hri)
      | false =>
        have hb : e = e' ++ [a] := hb
        subst hb
        refine iteF ?_
        refine ⟨_, rfl, _, rfl, D, _, _, _, rfl, rfl, SqL.of hD, atr, 1, rfl, -1, rfl, ri, _, rfl, SqL.of hre, fun z nz => ?_⟩
        rw [cut_last]
        have sz := same_new (o := .lst (([a] : List Str).map V.str)) nz
        have oka : ∀ z ∈ ([a] : List Str), PyData.strOk z = true := fun z hz => oke (good _ (List.mem_of_getElem? he)).1 z (List.mem_append_right _ hz)
        refine ⟨_, rfl, by show 1 ≤ sizeLine; omega, fun z2 nz2 => ⟨tlD [a], tlD [a], .lst (SqL.of ((same_new nz2) _ _ upd_same)) (dps_strs [a]), .lst (SqL.of upd_same) (dps_strs [a]), strs_shaped oka, strs_shaped oka, _, rfl, ?_⟩⟩
        have sz2 := same_new (o := .lst [V.str a]) nz2
        rw [strs_refl oka]
        refine iteF ?_
        have q2 := (qf.same sz).same sz2
        have hD2 := q2.2.2.1
        have hre2 := q2.2.2.2.2.2.2 i ri _ hri he
        refine ⟨_, rfl, _, rfl, D, _, _, _, rfl, rfl, SqL.of hD2, atr, .inl ⟨rfl, _, SqL.of hre2⟩, ri, _, .str a, rfl, rfl, hre2, ?_, ?_⟩
        · rw [List.length_map, List.length_append, List.map_append, List.getElem?_append_right (by rw [List.length_map] <;> exact Nat.le_refl _), List.length_map] <;> simp
        · rw [show ((e' ++ [a]).map V.str).dropLast = e'.map V.str by rw [List.map_append]; exact List.dropLast_concat]
          exact fin _ (q2.set hri)
    · intro σ' H2 ⟨⟨u5, u6, u7, eσ⟩, fl, qf, lf, good, gt⟩
      subst eσ
      rw [List.length_map, lw, List.drop_length] at gt
      have gt : fl = zs2.map (pathOf t) := gt
      subst gt
      have s2 := qf.1
      refine ⟨_, rfl, _, rfl, l2, rfl, ⟨_, SqL.of (s2 _ _ hl2)⟩, fun D2 nD2 => ?_⟩
      refine lc_it walk_list (fun j H' => ∃ rs2, FlAt H2 H' D2 rs2 ((zs2.take j).map (pathOf t))) ⟨[], FlAt.nil nD2⟩ (fun j H' _ ⟨_, z⟩ => SqL.of (z.1 _ _ (s2 _ _ hl2))) ?_ ?_
      · intro j y Hz Ha hj ⟨rs2, q1⟩ ⟨eb, ex⟩
        subst eb
        obtain ⟨b, hb, rfl⟩ := map_of (f := V.str) (l := zs2) ex
        have jl := (List.getElem?_eq_some_iff.mp hb).1
        refine ⟨rfl, ?_⟩
        refine ⟨_, rfl, _, rfl, q, b, t, rfl, .inl (q1.1 _ _ (s2 _ _ hq)), o, pl2 b (List.mem_of_getElem? hb), fun pt H3 s3 npt hpt => ⟨pt, _, rfl, .inr (.inl (.inl hpt)), fun l nl => ?_⟩⟩
        have q3 := q1.same s3
        have lr := q3.2.2.2.2.1
        rw [List.length_map, List.length_take] at lr
        refine ⟨_, (same_new nl) _ _ q3.2.2.1, by rw [List.length_map]; omega, rs2 ++ [l], ?_⟩
        rw [take_more hb, List.map_append]
        exact q3.more nl
      intro H3 ⟨rs2, q3⟩
      rw [List.length_map, List.take_length] at q3
      have okall : ∀ e ∈ zs2.map (pathOf t), ∀ z ∈ e, PyData.strOk z = true := fun e he => by
        obtain ⟨a, ha, rfl⟩ := List.mem_map.mp he
        exact okp (pl2 a ha)
      obtain ⟨lay, shp⟩ := tls_shaped okall
      have qf3 := qf.same q3.1
      refine ⟨.list ((zs2.map (pathOf t)).map tlD), .list ((zs2.map (pathOf t)).map tlD), .lst (SqL.of qf3.2.2.1) (FlAt.dps qf3.2.2.2.2.1 qf3.2.2.2.2.2.2), .lst (SqL.of q3.2.2.1) (FlAt.dps q3.2.2.2.2.1 q3.2.2.2.2.2.2), shp, shp, ?_⟩
      rw [SeqAt.eqv_refl _ lay]
      exact k H3 qf3.1
end
end FT


/-! Own: list(zip(a, b)) of two lists, as a value. -/
namespace ZlI
open PySem PySem.Calls PySem.Spec PyProof.Rows PySem.W L2
theorem zip_no_len : typeLookup (.type "zip") "__len__" = pure none := by rw [typeLookup_type, builtinLookup_eq_fast]; kernel_rfl
theorem zip_no_hint : typeLookup (.type "zip") "__length_hint__" = pure none := by rw [typeLookup_type, builtinLookup_eq_fast]; kernel_rfl
structure ZlSt (h : Heap) (z TI TO i1 i2 l1 l2 S : Addr) (xs ys : Array Value) (i : Nat) : Prop where
  ti : IsPair h TI (.ref i1) (.ref i2)
  h1 : h.IsListIter i1 l1 i
  h2 : h.IsListIter i2 l2 i
  a1 : h.IsList l1 xs
  a2 : h.IsList l2 ys
  zz : (IsZip h z TI TO .none ∧ ∃ a b, IsPair h TO a b) ∨ ∃ T f oT, IsZipHeld h z TI TO T f ∧ h.get? T = some oT ∧ T ≠ z ∧ T ≠ TO ∧ T ≠ i1 ∧ T ≠ i2 ∧ T ≠ S
structure ZlLow (z TI TO i1 i2 l1 l2 S : Addr) : Prop where
  z : z < S
  TI : TI < S
  TO : TO < S
  i1 : i1 < S
  i2 : i2 < S
  l1 : l1 < S
  l2 : l2 < S
section
variable {z TI TO i1 i2 l1 l2 S : Addr} {xs ys : Array Value} {i : Nat}
theorem list_at {h h' : Heap} {l : Addr} {xs : Array Value} (a : h.IsList l xs) (k : ∀ o, h.get? l = some o → h'.get? l = some o) : h'.IsList l xs := let ⟨o, e, r⟩ := a; ⟨o, k o e, r⟩
theorem iter_at {h h' : Heap} {l a : Addr} {i : Nat} (x : h.IsListIter a l i) (k : ∀ o, h.get? a = some o → h'.get? a = some o) : h'.IsListIter a l i := let ⟨o, e, r⟩ := x; ⟨o, k o e, r⟩
theorem ZlSt.keep {h h' : Heap} (x : ZlSt h z TI TO i1 i2 l1 l2 S xs ys i) (L : ZlLow z TI TO i1 i2 l1 l2 S) (k : ∀ b o, b ≠ S → h.get? b = some o → h'.get? b = some o) : ZlSt h' z TI TO i1 i2 l1 l2 S xs ys i := by
  refine ⟨k _ _ (Nat.ne_of_lt L.TI) x.ti, iter_at x.h1 fun o e => k _ _ (Nat.ne_of_lt L.i1) e, iter_at x.h2 fun o e => k _ _ (Nat.ne_of_lt L.i2) e, list_at x.a1 fun o e => k _ _ (Nat.ne_of_lt L.l1) e, list_at x.a2 fun o e => k _ _ (Nat.ne_of_lt L.l2) e, ?_⟩
  rcases x.zz with ⟨z1, a, b, z2⟩ | ⟨T, f, oT, z1, z2, n1, n2, n3, n4, n5⟩
  · exact .inl ⟨k _ _ (Nat.ne_of_lt L.z) z1, a, b, k _ _ (Nat.ne_of_lt L.TO) z2⟩
  · exact .inr ⟨T, f, oT, k _ _ (Nat.ne_of_lt L.z) z1, k _ _ n5 z2, n1, n2, n3, n4, n5⟩
variable {prog : Program} {w : World} {A : Around} {E : Value → Shared → Prop} {s : Shared}
theorem zl_item {x y : Value} {Q : Option Value → Shared → Prop} (D : ZipApart z TI TO i1 i2 l1 l2) (st : ZlSt s.heap z TI TO i1 i2 l1 l2 S xs ys i) (hS : S < s.heap.objs.size) (L : ZlLow z TI TO i1 i2 l1 l2 S) (hx : xs[i]? = some x) (hy : ys[i]? = some y)
    (hQ : ∀ h', ZlSt h' z TI TO i1 i2 l1 l2 S xs ys (i + 1) → IsPair h' s.heap.objs.size x y → h'.objs.size = s.heap.objs.size + 1 → (∀ c o, c ≠ z → c ≠ TO → c ≠ i1 → c ≠ i2 → s.heap.get? c = some o → h'.get? c = some o) → Q (some (.ref s.heap.objs.size)) { s with heap := h' }) :
    wpAny (model prog w) A (pyNext (.ref z)) Q E s := by
  have up : ∀ c, c < S → s.heap.objs.size ≠ c := fun c h => Nat.ne_of_gt (Nat.lt_trans h hS)
  rcases st.zz with ⟨z1, a, b, z2⟩ | ⟨T, f, oT, z1, z2, n1, n2, n3, n4, n5⟩
  · refine wpAny_pyNext_zip_item D z1 st.ti z2 st.h1 st.h2 st.a1 st.a2 hx hy fun h' z' TO' h1' h2' hT hsz hk => hQ h' ⟨hk _ _ D.TIz D.TITO D.TIi1 D.TIi2 st.ti, h1', h2', list_at st.a1 fun o e => hk _ _ D.l1z D.l1TO D.l1i1 D.l1i2 e, list_at st.a2 fun o e => hk _ _ D.l2z D.l2TO D.l2i1 D.l2i2 e, .inr ⟨s.heap.objs.size, false, _, z', hT, up _ L.z, up _ L.TO, up _ L.i1, up _ L.i2, Nat.ne_of_gt hS⟩⟩ hT hsz hk
  · refine wpAny_pyNext_zip_item_held D z1 z2 st.ti st.h1 st.h2 st.a1 st.a2 hx hy fun h' z' h1' h2' hT hsz hk => hQ h' ⟨hk _ _ D.TIz D.TIi1 D.TIi2 st.ti, h1', h2', list_at st.a1 fun o e => hk _ _ D.l1z D.l1i1 D.l1i2 e, list_at st.a2 fun o e => hk _ _ D.l2z D.l2i1 D.l2i2 e, .inr ⟨T, true, oT, z', hk _ _ n1 n3 n4 z2, n1, n2, n3, n4, n5⟩⟩ hT hsz fun c o c1 c2 c3 c4 e => hk c o c1 c3 c4 e
theorem zl_done {Q : Option Value → Shared → Prop} (hh : A.handled = none) (D : ZipApart z TI TO i1 i2 l1 l2) (st : ZlSt s.heap z TI TO i1 i2 l1 l2 S xs ys i) (hend : xs[i]? = none ∨ ys[i]? = none)
    (hQ : ∀ h', (∀ c o, c ≠ z → c ≠ TO → c ≠ i1 → c ≠ i2 → s.heap.get? c = some o → h'.get? c = some o) → Q none { s with heap := h' }) : wpAny (model prog w) A (pyNext (.ref z)) Q E s := by
  rcases st.zz with ⟨z1, a, b, z2⟩ | ⟨T, f, oT, z1, z2, n1, n2, n3, n4, n5⟩
  · exact wpAny_pyNext_zip_end hh D z1 st.ti z2 st.h1 st.h2 st.a1 st.a2 hend hQ
  · exact wpAny_pyNext_zip_end_held hh D z1 z2 st.ti st.h1 st.h2 st.a1 st.a2 hend fun h' hk => hQ h' fun c o c1 c2 c3 c4 e => hk c o c1 c3 c4 e
structure ZlG (xs ys : Array Value) (lo : Addr) (h : Heap) (as : List Addr) : Prop where
  rise : as.Pairwise (· < ·)
  above : ∀ a ∈ as, lo < a
  pairs : ∀ (j : Nat) (a : Addr), as[j]? = some a → ∃ x y, xs[j]? = some x ∧ ys[j]? = some y ∧ IsPair h a x y
theorem ZlG.there {lo : Addr} {h : Heap} {as : List Addr} (g : ZlG xs ys lo h as) {a : Addr} (ha : a ∈ as) : a < h.objs.size := by
  obtain ⟨j, hj⟩ := List.mem_iff_getElem?.mp ha
  obtain ⟨_, _, _, _, e⟩ := g.pairs j a hj
  exact Heap.lt_size e
end
section
variable {z TI TO i1 i2 l1 l2 S : Addr} {xs ys : Array Value} {prog : Program} {w : World} {A : Around} {s : Shared} {R : Result → Shared → Prop}
theorem zl_loop (hh : A.handled = none) (D : ZipApart z TI TO i1 i2 l1 l2) (L : ZlLow z TI TO i1 i2 l1 l2 S) {n : Nat} (hn : n = min xs.size ys.size) (few : n ≤ sizeLine) (res : Value) {h₁ : Heap}
    (hR : ∀ h' tk acc c as, (∀ b o, b ≠ S → b ≠ z → b ≠ TO → b ≠ i1 → b ≠ i2 → h₁.get? b = some o → h'.get? b = some o) → h'.get? S = some { cls := .type "list", dict := none, data := .seq acc c, slots := #[] } → as.length = n → ZlG xs ys S h' as →
      acc.toList = as.map Value.ref → R (.ok (.ret res)) { s with heap := h', toks := tk }) :
    ∀ (k i : Nat) (h : Heap) (tk c : Nat) (acc : Array Value) (as : List Addr), n - i = k → i ≤ n → ZlSt h z TI TO i1 i2 l1 l2 S xs ys i → (∀ b o, b ≠ S → b ≠ z → b ≠ TO → b ≠ i1 → b ≠ i2 → h₁.get? b = some o → h.get? b = some o) →
      h.get? S = some { cls := .type "list", dict := none, data := .seq acc c, slots := #[] } → acc.toList = as.map Value.ref → as.length = i → ZlG xs ys S h as →
      codeAny (model prog w) A (.builtin "list.extend.loop" ⟨[.ref S, .ref z, res], []⟩) R { s with heap := h, toks := tk } := by
  have sz : S ≠ z := Nat.ne_of_gt L.z
  have sTO : S ≠ TO := Nat.ne_of_gt L.TO
  have s1 : S ≠ i1 := Nat.ne_of_gt L.i1
  have s2 : S ≠ i2 := Nat.ne_of_gt L.i2
  have off : ∀ b, S < b → b ≠ z ∧ b ≠ TO ∧ b ≠ i1 ∧ b ≠ i2 := fun b hb => ⟨Nat.ne_of_gt (Nat.lt_trans L.z hb), Nat.ne_of_gt (Nat.lt_trans L.TO hb), Nat.ne_of_gt (Nat.lt_trans L.i1 hb), Nat.ne_of_gt (Nat.lt_trans L.i2 hb)⟩
  intro k
  induction k with
  | zero =>
    intro i h tk c acc as hk hi hst hkeep hS hacc hal hG
    have hin : i = n := by omega
    refine codeAny_builtin PySem.F.entry_extend_loop ?_
    rw [Around.under_plainId PySem.F.plain_extend_loop _]
    show wpAny _ A.in1 (pyNext (.ref z) >>= _) _ _ _
    refine wpAny_bind (zl_done (s := { s with heap := h, toks := tk }) (A := A.in1) hh D hst ?_ fun h' he => ?_)
    · rcases Nat.le_total xs.size ys.size with q | q
      · exact .inl (by simp; omega)
      · exact .inr (by simp; omega)
    · refine wpAny_pure (hR h' tk acc c as (fun b o b0 b1 b2 b3 b4 e => he b o b1 b2 b3 b4 (hkeep b o b0 b1 b2 b3 b4 e)) (he S _ sz sTO s1 s2 hS) (by omega) ⟨hG.rise, hG.above, fun j a hj => ?_⟩ hacc)
      obtain ⟨x, y, e1, e2, e3⟩ := hG.pairs j a hj
      obtain ⟨n1, n2, n3, n4⟩ := off a (hG.above a (List.mem_of_getElem? hj))
      exact ⟨x, y, e1, e2, he a _ n1 n2 n3 n4 e3⟩
  | succ k ih =>
    intro i h tk c acc as hk hi hst hkeep hS hacc hal hG
    have hlt : i < n := by omega
    obtain ⟨x, hx⟩ : ∃ p, xs[i]? = some p := ⟨xs[i]'(by omega), by simp⟩
    obtain ⟨y, hy⟩ : ∃ p, ys[i]? = some p := ⟨ys[i]'(by omega), by simp⟩
    have hsz : acc.size = i := by rw [← Array.length_toList, hacc, List.length_map, hal]
    have hSl : S < h.objs.size := Heap.lt_size hS
    refine codeAny_builtin PySem.F.entry_extend_loop ?_
    rw [Around.under_plainId PySem.F.plain_extend_loop _]
    show wpAny _ A.in1 (pyNext (.ref z) >>= _) _ _ _
    refine wpAny_bind (zl_item (s := { s with heap := h, toks := tk }) (S := S) D hst hSl L hx hy fun h' hst' ht hz hkp => ?_)
    dsimp only at ht hz hkp ⊢
    have hS' := hkp S _ sz sTO s1 s2 hS
    have up : ∀ b o, b ≠ S → h'.get? b = some o → (h'.update S (Obj.mapSeq (·.push (Value.ref h.objs.size)))).get? b = some o := fun b o hb e => (Heap.get?_update_other _ _ (Ne.symm hb)).trans e
    show wpAny _ A.in1 (updateSeq S (·.push (Value.ref h.objs.size)) >>= _) _ _ _
    refine wpAny_bind ?_
    refine wpAny_updateSeq hS' rfl (wpAny_pure ⟨plainId_quiet PySem.F.plain_extend_loop _, ih (i + 1) _ tk _ (acc.push (Value.ref h.objs.size)) (as ++ [h.objs.size]) (by omega) hlt (hst'.keep L up)
      (fun b o b0 b1 b2 b3 b4 e => up b o b0 (hkp b o b1 b2 b3 b4 (hkeep b o b0 b1 b2 b3 b4 e))) (Heap.get?_update_self _ hS' rfl) (by rw [Array.toList_push, hacc, List.map_append]; rfl) (by rw [List.length_append, hal]; rfl) ⟨?_, ?_, ?_⟩⟩) (by rw [hsz]; omega) (by show (acc.push (Value.ref h.objs.size)).size ≤ sizeLine + 1; rw [Array.size_push, hsz]; omega)
    · refine List.pairwise_append.mpr ⟨hG.rise, List.pairwise_singleton _ _, fun a ha b hb => ?_⟩
      rw [List.mem_singleton.mp hb]
      exact hG.there ha
    · intro a ha
      rcases List.mem_append.mp ha with ha | ha
      · exact hG.above a ha
      · rw [List.mem_singleton.mp ha]; exact hSl
    · intro j b hj
      rcases Nat.lt_trichotomy j as.length with h1 | h1 | h1
      · rw [List.getElem?_append_left h1] at hj
        obtain ⟨x', y', e1, e2, e3⟩ := hG.pairs j b hj
        have hb := hG.above b (List.mem_of_getElem? hj)
        obtain ⟨n1, n2, n3, n4⟩ := off b hb
        exact ⟨x', y', e1, e2, up b _ (Nat.ne_of_gt hb) (hkp b _ n1 n2 n3 n4 e3)⟩
      · subst h1
        have hb : h.objs.size = b := by simpa using hj
        subst hb
        exact ⟨x, y, by rw [hal]; exact hx, by rw [hal]; exact hy, up _ _ (Nat.ne_of_gt hSl) ht⟩
      · have hnone : (as ++ [h.objs.size])[j]? = none := List.getElem?_eq_none (by rw [List.length_append, List.length_singleton]; omega)
        rw [hnone] at hj; cases hj
end
section
variable {z TI TO i1 i2 l1 l2 : Addr} {xs ys : Array Value} {prog : Program} {w : World} {A : Around} {E : Value → Shared → Prop} {s : Shared}
/-- the zip as it is made -/
structure ZlNew (h : Heap) (z TI TO i1 i2 l1 l2 : Addr) (xs ys : Array Value) : Prop where
  zz : IsZip h z TI TO .none
  ti : IsPair h TI (.ref i1) (.ref i2)
  to : ∃ a b, IsPair h TO a b
  h1 : h.IsListIter i1 l1 0
  h2 : h.IsListIter i2 l2 0
  a1 : h.IsList l1 xs
  a2 : h.IsList l2 ys
theorem ZlNew.low {h : Heap} (x : ZlNew h z TI TO i1 i2 l1 l2 xs ys) {S : Addr} (hS : h.objs.size ≤ S) : ZlLow z TI TO i1 i2 l1 l2 S := by
  obtain ⟨a, b, t⟩ := x.to
  obtain ⟨o1, e1, _⟩ := x.h1
  obtain ⟨o2, e2, _⟩ := x.h2
  obtain ⟨o3, e3, _⟩ := x.a1
  obtain ⟨o4, e4, _⟩ := x.a2
  have lt : ∀ {c : Addr} {o : Obj}, h.get? c = some o → c < S := fun e => Nat.lt_of_lt_of_le (Heap.lt_size e) hS
  exact ⟨lt x.zz, lt x.ti, lt t, lt e1, lt e2, lt e3, lt e4⟩
theorem ZlNew.st {h h' : Heap} {S : Addr} (x : ZlNew h z TI TO i1 i2 l1 l2 xs ys) (k : ∀ b o, h.get? b = some o → h'.get? b = some o) : ZlSt h' z TI TO i1 i2 l1 l2 S xs ys 0 := by
  obtain ⟨a, b, t⟩ := x.to
  exact ⟨k _ _ x.ti, iter_at x.h1 fun o e => k _ _ e, iter_at x.h2 fun o e => k _ _ e, list_at x.a1 fun o e => k _ _ e, list_at x.a2 fun o e => k _ _ e, .inl ⟨k _ _ x.zz, a, b, k _ _ t⟩⟩
theorem zl_extend {S : Addr} {R : Result → Shared → Prop} (hh : A.handled = none) (D : ZipApart z TI TO i1 i2 l1 l2) (L : ZlLow z TI TO i1 i2 l1 l2 S) (st : ZlSt s.heap z TI TO i1 i2 l1 l2 S xs ys 0) (hz0 : IsZip s.heap z TI TO .none) (res : Value) (c₀ : Nat) (hS : s.heap.get? S = some { cls := .type "list", data := .seq #[] c₀ })
    (hR : ∀ h' tk acc c as, (∀ b o, b ≠ S → b ≠ z → b ≠ TO → b ≠ i1 → b ≠ i2 → s.heap.get? b = some o → h'.get? b = some o) → h'.get? S = some { cls := .type "list", dict := none, data := .seq acc c, slots := #[] } → as.length = min xs.size ys.size → ZlG xs ys S h' as →
      acc.toList = as.map Value.ref → R (.ok (.ret res)) { s with heap := h', toks := tk }) (few : min xs.size ys.size ≤ sizeLine) :
    wpAny (model prog w) A.in1 (Builtin.List.listExtendWith (.ref S) (.ref z) res)
      (fun fin s' => match fin with | .done f => R (.ok f) s' | .again c' => c'.quiet = true ∧ codeAny (model prog w) A c' R s') (fun e s' => R (.error e) s') s := by
  have hSz : S ≠ z := Nat.ne_of_gt L.z
  have hT : s.TypeIs (.ref z) "zip" := ⟨_, hz0, rfl⟩
  unfold Builtin.List.listExtendWith
  refine wpAny_bind (wpAny_typeOf hT ?_)
  have h1 : Builtin.List.listSameRef (.ref S) (.ref z) = false := by simp [Builtin.List.listSameRef, hSz]
  have h2 : (Value.type "zip" == Value.type "list") = false := by decide
  have h3 : (Value.type "zip" == Value.type "tuple") = false := by decide
  simp only [h1, h2, h3, Bool.or_false, Bool.false_eq_true, if_false]
  refine wpAny_bind (wpAny_pyIter_zip hz0 ?_)
  refine wpAny_bind (wpAny_holding ?_)
  unfold Builtin.List.listLengthHint
  refine wpAny_bind (wpAny_specialOf hT zip_no_len ?_)
  show wpAny _ A.in1 (specialOf (Value.ref z) (Str.ofString "__length_hint__") >>= _) _ _ _
  refine wpAny_bind (wpAny_specialOf hT zip_no_hint ?_)
  refine wpAny_pure ?_
  show wpAny _ A.in1 (rule "list.extend.makes-room" >>= fun _ => Builtin.List.listTouch (.ref S) >>= fun _ =>
    again (.builtin "list.extend.loop" ⟨[.ref S, .ref z, res], []⟩)) _ _ _
  refine wpAny_bind (wpAny_rule ?_)
  refine wpAny_bind ?_
  show wpAny _ A.in1 (updateSeq S (·.push .none) >>= fun _ => updateSeq S (·.pop)) _ _ _
  refine wpAny_bind (wpAny_updateSeq hS rfl ?_)
  have hS₂ := Heap.get?_update_self (Obj.mapSeq (·.push Value.none)) hS rfl
  refine wpAny_updateSeq (hz := by seq_fits) hS₂ rfl ?_
  have hS₃ := Heap.get?_update_self (Obj.mapSeq (·.pop)) hS₂ rfl
  have oth : ∀ b o, b ≠ S → s.heap.get? b = some o → ((s.heap.update S (Obj.mapSeq (·.push Value.none))).update S (Obj.mapSeq (·.pop))).get? b = some o :=
    fun b o hb e => (Heap.get?_update_other _ _ (Ne.symm hb)).trans ((Heap.get?_update_other _ _ (Ne.symm hb)).trans e)
  refine wpAny_pure ⟨plainId_quiet PySem.F.plain_extend_loop _, ?_⟩
  exact zl_loop (s := s) (h₁ := s.heap) hh D L rfl few res (fun h' tk acc c as hk hS' hl hG hacc => hR h' tk acc c as hk hS' hl hG hacc) _ 0 _ s.toks _ #[] [] rfl (Nat.zero_le _) (st.keep L oth) (fun b o b0 _ _ _ _ e => oth b o b0 e) hS₃ rfl rfl
    ⟨List.Pairwise.nil, (fun _ ha => nomatch ha), (fun j a hj => by simp at hj)⟩
theorem zl_init {S : Addr} {R : Result → Shared → Prop} (hh : A.handled = none) (D : ZipApart z TI TO i1 i2 l1 l2) (L : ZlLow z TI TO i1 i2 l1 l2 S) (st : ZlSt s.heap z TI TO i1 i2 l1 l2 S xs ys 0) (hz0 : IsZip s.heap z TI TO .none) (hS : s.heap.get? S = some { cls := .type "list", data := .seq #[] })
    (hR : ∀ h' tk acc c as, (∀ b o, b ≠ S → b ≠ z → b ≠ TO → b ≠ i1 → b ≠ i2 → s.heap.get? b = some o → h'.get? b = some o) → h'.get? S = some { cls := .type "list", dict := none, data := .seq acc c, slots := #[] } → as.length = min xs.size ys.size → ZlG xs ys S h' as →
      acc.toList = as.map Value.ref → R (.ok (.ret .none)) { s with heap := h', toks := tk }) (few : min xs.size ys.size ≤ sizeLine) :
    wpAny (model prog w) A.in1 (Builtin.«list.__init__» ⟨[.ref S, .ref z], []⟩)
      (fun fin s' => match fin with | .done f => R (.ok f) s' | .again c' => c'.quiet = true ∧ codeAny (model prog w) A c' R s') (fun e s' => R (.error e) s') s := by
  show wpAny _ _ (do let old ← Builtin.List.listItems (.ref S); Builtin.List.listUpdate (.ref S) (fun _ => #[]); letGo old.toList.reverse; Builtin.List.listExtendWith (.ref S) (.ref z) .none) _ _ s
  refine wpAny_bind ?_
  unfold Builtin.List.listItems
  refine wpAny_bind (wpAny_seqItems hS rfl (wpAny_pure ?_))
  show wpAny _ _ (updateSeq S (fun _ => #[]) >>= fun _ => letGo (#[] : Array Value).toList.reverse >>= fun _ => Builtin.List.listExtendWith (.ref S) (.ref z) .none) _ _ s
  refine wpAny_bind (wpAny_updateSeq hS rfl ?_)
  have hS₂ := Heap.get?_update_self (Obj.mapSeq (fun _ => (#[] : Array Value))) hS rfl
  have oth : ∀ b o, b ≠ S → s.heap.get? b = some o → (s.heap.update S (Obj.mapSeq (fun _ => (#[] : Array Value)))).get? b = some o :=
    fun b o hb e => (Heap.get?_update_other _ _ (Ne.symm hb)).trans e
  refine wpAny_bind (wpAny_letGo ?_)
  refine zl_extend hh D L (st.keep L oth) (oth _ _ (Nat.ne_of_lt L.z) hz0) .none _ hS₂ (fun h' tk acc c as hk hS' hl hG hacc => ?_) few
  exact hR h' tk acc c as (fun b o b0 b1 b2 b3 b4 e => hk b o b0 b1 b2 b3 b4 (oth b o b0 e)) hS' hl hG hacc
theorem zl_call {Q : Value → Shared → Prop} (hh : A.handled = none) (D : ZipApart z TI TO i1 i2 l1 l2) (x : ZlNew s.heap z TI TO i1 i2 l1 l2 xs ys) (few : min xs.size ys.size ≤ sizeLine)
    (hQ : ∀ h' tk acc c as, (∀ b o, b ≠ z → b ≠ TO → b ≠ i1 → b ≠ i2 → s.heap.get? b = some o → h'.get? b = some o) → h'.get? s.heap.objs.size = some { cls := .type "list", dict := none, data := .seq acc c, slots := #[] } → as.length = min xs.size ys.size → ZlG xs ys s.heap.objs.size h' as →
      acc.toList = as.map Value.ref → Q (.ref s.heap.objs.size) { s with heap := h', toks := tk }) :
    wpAny (model prog w) A (call (.type "list") [.ref z]) Q E s := by
  refine callType_codes (Q₁ := fun obj s₁ => obj = .ref s.heap.objs.size ∧ s₁ = { s with heap := s.heap.push { cls := .type "list", data := .seq #[] } }) PySem.F.called_list (PySem.F.typeCall_list_1 _) PySem.F.entry_list_init
    (code_list_new _ ⟨rfl, rfl⟩) fun obj s₁ h₁ => ?_
  obtain ⟨rfl, rfl⟩ := h₁
  have hS : (s.heap.push { cls := .type "list", data := .seq #[] }).get? s.heap.objs.size = some { cls := .type "list", data := .seq #[] } := Heap.get?_push_size _ rfl
  have up : ∀ b o, s.heap.get? b = some o → (s.heap.push { cls := .type "list", data := .seq #[] }).get? b = some o := fun b o e => Heap.get?_push_of_some _ e
  refine ⟨⟨_, hS, rfl⟩, PySem.F.args_list_init_2 _ _, zl_init (A := A.in1) hh D (x.low (Nat.le_refl _)) (x.st up) (up _ _ x.zz) hS (fun h' tk acc c as hk hS' hl hG hacc => ?_) few⟩
  exact ⟨rfl, hQ h' tk acc c as (fun b o b1 b2 b3 b4 e => hk b o (Nat.ne_of_lt (Heap.lt_size e)) b1 b2 b3 b4 (up b o e)) hS' hl hG hacc⟩
end
end ZlI


namespace ZlI
open PySem PySem.Calls PySem.Spec PyProof.Rows L2 LiI
def putP : Hp → List Addr → List (V × V) → Hp
  | H, a :: as, p :: kvs => putP (upd H a (.tup [p.1, p.2])) as kvs
  | H, _, _ => H
theorem putP_off {b : Addr} : ∀ (as : List Addr) (kvs : List (V × V)) (H : Hp), b ∉ as → putP H as kvs b = H b
  | [], _, _, _ => rfl
  | _ :: _, [], _, _ => rfl
  | a :: as, p :: kvs, H, h => by
    show putP (upd H a (.tup [p.1, p.2])) as kvs b = H b
    rw [putP_off as kvs _ (fun z => h (List.mem_cons_of_mem _ z)), upd_ne (fun z => h (by rw [z]; exact List.mem_cons_self))]
theorem putP_at : ∀ (as : List Addr) (kvs : List (V × V)) (H : Hp), as.length = kvs.length → as.Nodup → Paired (fun (t : Addr) (p : V × V) => putP H as kvs t = some (.tup [p.1, p.2])) as kvs
  | [], [], _, _, _ => .nil
  | [], _ :: _, _, h, _ => by cases h
  | _ :: _, [], _, h, _ => by cases h
  | a :: as, p :: kvs, H, h, hn => by
    have hn' := List.nodup_cons.mp hn
    have ih := putP_at as kvs (upd H a (.tup [p.1, p.2])) (Nat.succ.inj h) hn'.2
    refine .cons ?_ ih
    show putP (upd H a (.tup [p.1, p.2])) as kvs a = some (.tup [p.1, p.2])
    rw [putP_off as kvs _ hn'.1, upd_same]
def tListZip (K : PySem.W.Frag) (ta : TA) : TE := fun σ H Q => ta σ H fun vs H1 => ∃ (a b : Addr) (xs ys : List V), vs = [.ref a, .ref b] ∧ SqL K H1 a xs ∧ SqL K H1 b ys ∧
  ∀ (H' : Hp) (p : Addr) (ts : List Addr), (∀ b o, H1 b = some o → H' b = some o) → H1 p = none → (∀ t ∈ ts, H1 t = none) → p ∉ ts → H' p = some (.lst (ts.map V.ref)) → Paired (fun (t : Addr) (q : V × V) => H' t = some (.tup [q.1, q.2])) ts (xs.zip ys) → Q (.ref p) H'
section
variable {X : Cx}
theorem zip_laid {pins : List (Addr × Obj)} {σ : L2.St} {H : Hp} {s : Shared} {h' : Heap} {tk : Nat} {xs ys : List V} {us vs : List Value} {acc : Array Value} {c : Nat} {as : List Addr} {S : Addr} (I : Inv X pins σ H s) (few : (xs.zip ys).length ≤ sizeLine) (r1 : Vals xs us) (r2 : Vals ys vs) (hS0 : s.heap.objs.size ≤ S)
    (hk : ∀ b o, s.heap.get? b = some o → h'.get? b = some o) (hS : h'.get? S = some { cls := .type "list", dict := none, data := .seq acc c, slots := #[] }) (hl : as.length = (xs.zip ys).length) (hG : ZlG us.toArray vs.toArray S h' as) (hacc : acc.toList = as.map Value.ref) :
    ∃ H' : Hp, (∀ b o, H b = some o → H' b = some o) ∧ H S = none ∧ (∀ t ∈ as, H t = none) ∧ S ∉ as ∧ H' S = some (.lst (as.map V.ref)) ∧ Paired (fun (t : Addr) (q : V × V) => H' t = some (.tup [q.1, q.2])) as (xs.zip ys) ∧ Inv X pins σ H' { s with heap := h', toks := tk } := by
  have hSn : S ∉ as := fun z => Nat.lt_irrefl _ (hG.above _ z)
  have nd : as.Nodup := List.Pairwise.imp (fun {a b} (h : a < b) => Nat.ne_of_lt h) hG.rise
  have big : ∀ t ∈ as, s.heap.objs.size ≤ t := fun t ht => Nat.le_trans hS0 (Nat.le_of_lt (hG.above t ht))
  have new : ∀ t ∈ as, H t = none := fun t ht => I.hok.fresh (big t ht)
  have newS : H S = none := I.hok.fresh hS0
  have atP := putP_at as (xs.zip ys) (upd H S (.lst (as.map V.ref))) hl nd
  have off : ∀ b, b ∉ as → b ≠ S → putP (upd H S (.lst (as.map V.ref))) as (xs.zip ys) b = H b := fun b h1 h2 => by rw [putP_off as _ _ h1, upd_ne h2]
  have low : ∀ b o, s.heap.get? b = some o → b ∉ as ∧ b ≠ S := fun b o e => ⟨fun z => absurd (Heap.lt_size e) (Nat.not_lt.mpr (big b z)), Nat.ne_of_lt (Nat.lt_of_lt_of_le (Heap.lt_size e) hS0)⟩
  have kp : ∀ b u, H b = some u → (putP (upd H S (.lst (as.map V.ref))) as (xs.zip ys)) b = some u := fun b u e => by
    rw [off b (fun z => by rw [new b z] at e; cases e) (fun z => by rw [z, newS] at e; cases e)]
    exact e
  have eS : putP (upd H S (.lst (as.map V.ref))) as (xs.zip ys) S = some (.lst (as.map V.ref)) := by rw [putP_off as _ _ hSn, upd_same]
  refine ⟨putP (upd H S (.lst (as.map V.ref))) as (xs.zip ys), kp, newS, new, hSn, eS, atP, ?_⟩
  refine I.call' (ch := []) rfl ⟨fun b o q _ _ _ => hk b o q, fun b o q _ _ _ => ⟨o.slots, hk b o q⟩, fun b o q n _ => ?_, fun b o q _ => ⟨o, hk b o q⟩, fun b xs q => kp b _ q, fun b o u q => kp b _ q, fun b ps q => ⟨#[], by rw [kp b _ q]; simp⟩⟩ (fun b u q => ?_) I.bare fun b z => by simp at z
  · obtain ⟨z1, z2⟩ := low b o q
    rw [off b z1 z2]
    exact n
  · by_cases hb : b ∈ as
    · obtain ⟨j, pk, e1, e2, e3⟩ := paired_ix atP hb
      rw [e3] at q
      cases q
      obtain ⟨x, y, f1, f2, f3⟩ := hG.pairs j b e1
      obtain ⟨g1, g2⟩ := List.getElem?_zip_eq_some.mp e2
      obtain ⟨u, hu, ru⟩ := r1.get g1
      obtain ⟨v, hv, rv⟩ := r2.get g2
      have ex : x = u := by
        have z : us.toArray[j]? = us[j]? := by simp
        rw [z, hu] at f1
        exact (Option.some.inj f1).symm
      have ey : y = v := by
        have z : vs.toArray[j]? = vs[j]? := by simp
        rw [z, hv] at f2
        exact (Option.some.inj f2).symm
      subst ex
      subst ey
      exact ⟨by show 2 ≤ sizeLine; decide, [x, y], .cons ru (.cons rv .nil), ⟨_, f3, rfl, _, rfl⟩⟩
    · by_cases hb2 : b = S
      · rw [hb2] at q ⊢
        rw [eS] at q
        cases q
        refine ⟨by rw [List.length_map]; omega, acc.toList, c, by rw [hacc]; exact LiI.vals_refs as, ?_⟩
        rw [Array.toArray_toList]
        exact hS
      · rw [off b hb hb2] at q
        exact (I.hok b u q).stay (fun d v _ y => hk d v y) (fun d y => kp d _ y) fun d xs y => kp d _ y
/-- list(zip(a, b)) -/
theorem pe_listZip {e1 e2 : Expr} {ta : TA} {p p2 pos pos2 : Pos} (hc : X.calm = true) (ha : PA X [e1, e2] ta) (hg : Gl X "list") (hm : X.mg "list" = none) (hg2 : Gl X "zip") (hm2 : X.mg "zip" = none)
    (hv : bootBuiltins "list" = some (.type "list") := by decide +kernel) (hs : starEach [.Call (.Name "zip" p2) [e1, e2] [] pos2] X.env = (false, eval (.Call (.Name "zip" p2) [e1, e2] [] pos2) X.env) :: starEach [] X.env := by rfl)
    (hs2 : starEach [e1, e2] X.env = (false, eval e1 X.env) :: starEach [e2] X.env := by rfl) (hpl : (backTo pos2 (starEach [e2] X.env)).any (·.1) = false := by rfl) :
    PE X (.Call (.Name "list" p) [.Call (.Name "zip" p2) [e1, e2] [] pos2] [] pos) (tListZip X.K ta) := by
  refine ⟨fun pins s σ H Q I hq => ?_⟩
  refine wpAny_Call_Name_kw (ld_blt I hg hm hv ?_)
  refine PyProof.Rows.callWith_type1 ?_ hs rfl
  rw [hs]
  show wpAny _ _ (spliced ((false, eval (.Call (.Name "zip" p2) [e1, e2] [] pos2) X.env) :: backTo pos (starEach [] X.env))) _ _ s
  refine Calls.spliced_cons ?_
  refine wpAny_Call_Name_kw (ld_blt I hg2 hm2 PyProof.Rows.boot_zip ?_)
  refine PyProof.Rows.callWith_type1 (thn (ha.run pos2 pins s σ H _ I hq) fun us s1 ⟨vs, H1, I1, r1, q1⟩ => ?_) hs2 hpl
  obtain ⟨a, b, xs, ys, ex, hqx, hqy, q⟩ := q1
  subst ex
  cases r1 with
  | cons r rr =>
    cases rr with
    | cons r' rr =>
      cases rr
      cases r
      cases r'
      obtain ⟨its, rv, p1, fx⟩ := I1.list hqx
      obtain ⟨its2, rv2, p2, fy⟩ := I1.list hqy
      have la : a < s1.heap.objs.size := p1.lt
      have lb : b < s1.heap.objs.size := p2.lt
      have ll1 := rv.length
      have ll2 := rv2.length
      refine call_zip_2 p1.isList p2.isList fun h' hz hTI hTO h1 h2 hsz hk => ?_
      refine Calls.spliced_nil ?_
      have few : min its.toArray.size its2.toArray.size ≤ sizeLine := by
        rw [List.size_toArray, List.size_toArray]
        omega
      refine zl_call (s := { s1 with heap := h' }) (I1.ok.hd hc) (PySem.W.ktu_apart s1.heap.objs.size a b la lb) ⟨hz, hTI, ⟨_, _, hTO⟩, h1, h2, list_at p1.isList fun o e => hk _ _ e, list_at p2.isList fun o e => hk _ _ e⟩ few fun h'' tk acc c as hk' hS hl hG hacc => ?_
      have up : ∀ b o, s1.heap.get? b = some o → h''.get? b = some o := fun b o e => by
        have lt := Heap.lt_size e
        exact hk' b o (Nat.ne_of_lt (Nat.lt_of_lt_of_le lt (Nat.le_add_right _ _))) (Nat.ne_of_lt (Nat.lt_of_lt_of_le lt (Nat.le_add_right _ _))) (Nat.ne_of_lt lt) (Nat.ne_of_lt (Nat.lt_of_lt_of_le lt (Nat.le_add_right _ _))) (hk b o e)
      have hS0 : s1.heap.objs.size ≤ h'.objs.size := by rw [hsz]; exact Nat.le_add_right _ _
      have lz : as.length = (xs.zip ys).length := by
        rw [hl, List.length_zip, List.size_toArray, List.size_toArray]
        omega
      obtain ⟨H', k1, k2, k3, k4, k5, k6, J⟩ := zip_laid (tk := tk) I1 (by rw [List.length_zip]; omega) rv rv2 hS0 up hS lz hG hacc
      exact ⟨.ref _, H', J, rfl, q H' _ as k1 k2 k3 k4 k5 k6⟩
end
end ZlI


/-! path_difference, toggles, traffic, is_best -/
namespace FT
open PySem L2 TL ClX LiI
/-- how many flags stand on exactly one of two paths -/
def dist (ts : List (Str × Str)) (p q : Str) : Int := (((pathOf ts p).filter fun a => decide (a ∉ pathOf ts q)).length : Int) + (((pathOf ts q).filter fun a => decide (a ∉ pathOf ts p)).length : Int)
def farS (ts : List (Str × Str)) (zs1 zs2 : List Str) : Int := ((zs1.zip zs2).map fun e => dist ts e.1 e.2).sum
/-- users of the second list that are not in the first -/
def newU (xs ys : List Int) : Int := ((ys.filter fun u => decide (u ∉ xs)).length : Int)
theorem zip_strs (xs ys : List Str) : (xs.map V.str).zip (ys.map V.str) = (xs.zip ys).map fun e => (V.str e.1, V.str e.2) := by
  induction xs generalizing ys with
  | nil => rfl
  | cons x xs ih =>
    cases ys with
    | nil => rfl
    | cons y ys =>
      show (V.str x, V.str y) :: (xs.map V.str).zip (ys.map V.str) = _
      rw [ih] <;> rfl
def spDiff : Sp := fun vs H Q _ => ∃ (p1 p2 : Addr) (as bs : List Str), vs = [.ref p1, .ref p2] ∧ H p1 = some (.tup (as.map V.str)) ∧ H p2 = some (.tup (bs.map V.str)) ∧ as.length ≤ 100 ∧ bs.length ≤ 100 ∧
  ∀ H', Same H H' → Q (.int (((as.filter fun a => decide (a ∉ bs)).length : Int) + ((bs.filter fun a => decide (a ∉ as)).length : Int))) H'
def spToggles (CF CA : Addr) : Sp := fun vs H Q _ => ∃ (y1 y2 x : Addr) (ts : List (Str × Str)) (zs1 zs2 : List Str), vs = [.ref y1, .ref y2] ∧ AAt CA H y1 x zs1 ∧ AAt CA H y2 x zs2 ∧ FAt CF H x ts ∧ TreeOk ts ∧ zs1.length = zs2.length ∧ zs1.length ≤ 1000 ∧ (∀ z ∈ zs1, Pl ts z) ∧ (∀ z ∈ zs2, Pl ts z) ∧
  ∀ H', Same H H' → Q (.int (farS ts zs1 zs2)) H'
def spTraffic (CF CA : Addr) : Sp := fun vs H Q _ => ∃ (y1 y2 x : Addr) (ts : List (Str × Str)) (zs1 zs2 : List Str), vs = [.ref y1, .ref y2] ∧ AAt CA H y1 x zs1 ∧ AAt CA H y2 x zs2 ∧ FAt CF H x ts ∧ TreeOk ts ∧ zs1.length = zs2.length ∧ zs1.length ≤ 1000 ∧ (∀ z ∈ zs1, Pl ts z) ∧ (∀ z ∈ zs2, Pl ts z) ∧
  ∀ (p : Addr) (r : Str → Addr) (H' : Hp), Same H H' → H p = none → H' p = some (.dK (tblV (ts.map Prod.fst) fun a => .ref (r a))) → (∀ a ∈ ts.map Prod.fst, H' (r a) = some (.tup [.int (newU (hasU ts zs1 a) (hasU ts zs2 a)), .int (newU (hasU ts zs2 a) (hasU ts zs1 a))])) → Q (.ref p) H'
def bestB (ts : List (Str × Str)) (zs1 zs2 : List Str) : Bool := (ts.map Prod.fst).all fun a => decide (newU (hasU ts zs1 a) (hasU ts zs2 a) = 0) || decide (newU (hasU ts zs2 a) (hasU ts zs1 a) = 0)
def spIsBest (CF CA : Addr) : Sp := fun vs H Q _ => ∃ (y1 y2 x : Addr) (ts : List (Str × Str)) (zs1 zs2 : List Str), vs = [.ref y1, .ref y2] ∧ AAt CA H y1 x zs1 ∧ AAt CA H y2 x zs2 ∧ FAt CF H x ts ∧ TreeOk ts ∧ zs1.length = zs2.length ∧ zs1.length ≤ 1000 ∧ (∀ z ∈ zs1, Pl ts z) ∧ (∀ z ∈ zs2, Pl ts z) ∧
  ∀ H', Same H H' → Q (.bl (bestB ts zs1 zs2)) H'
end FT


/-! path_difference, toggles -/
namespace FT
open PySem L2 TL ClX LiI
section
variable {P : Program} {w : World} {K : PySem.W.Frag} {mg : Str → Option Value} {base : Heap}
abbrev NDf : List Str := ["one", "other", "name"]
theorem scDf : FnScope NDf ["one", "other"] (defScope s_path_difference) := ⟨rfl, rfl, rfl, by decide +kernel, rfl, by decide +kernel, by decide +kernel⟩
theorem ok_diff {f : Addr} {fd : FuncData} (F : Fun K "path_difference" "path_difference" s_path_difference f fd) (T : Nm mg) : FnOk P w K mg base CX0 1 f fd ["one", "other"] spDiff := by
  refine F.ok scDf (fun vs H Q E h => ?_) (fun cdv A outer s H vs Q E hr h => ?_)
  · obtain ⟨p1, p2, as, bs, rfl, _⟩ := h
    rfl
  · obtain ⟨p1, p2, as, bs, rfl, h1, h2, l1, l2, k⟩ := h
    have nd := scDf.nd
    have big : 1000 ≤ sizeLine := by decide
    refine ⟨_, pss_one (ps_ret (pe_op op_add (pe_callB call_len_seq (by rfl) T.len PySem.boot_len (pa_cons (pe_lc (own := [("name", 2)]) (g := gName 2) (tt := tTest (tOp (rIn K true) (tVar 2) (tVar 1))) (te := tVar 2) rfl nd (pi_tup (pv 0)) (blkOk_by (N := NDf) (sc := defScope s_path_difference) (by decide +kernel))
        (fun _ _ _ _ _ => pg_name (i := 2) nd rfl (Or.inl rfl)) (fun _ _ _ _ _ => pts_one (pt_cmpR op_notIn_seq (pv 2) (pv 1) rfl)) (fun _ _ _ _ _ => pv 2)) pa_nil))
      (pe_callB call_len_seq (by rfl) T.len PySem.boot_len (pa_cons (pe_lc (own := [("name", 2)]) (g := gName 2) (tt := tTest (tOp (rIn K true) (tVar 2) (tVar 0))) (te := tVar 2) rfl nd (pi_tup (pv 1)) (blkOk_by (N := NDf) (sc := defScope s_path_difference) (by decide +kernel))
        (fun _ _ _ _ _ => pg_name (i := 2) nd rfl (Or.inl rfl)) (fun _ _ _ _ _ => pts_one (pt_cmpR op_notIn_seq (pv 2) (pv 0) rfl)) (fun _ _ _ _ _ => pv 2)) pa_nil)))), ?_⟩
    refine ⟨_, rfl, p1, rfl, ⟨_, .inl (.inl h1)⟩, fun D nD => ?_⟩
    refine lc_it walk_tup (fun i H' => Same H H' ∧ H' D = some (.lst (((as.take i).filter fun a => decide (a ∉ bs)).map V.str))) ⟨same_new nD, upd_same⟩ (fun i H' _ z => .inl (.inl (z.1 _ _ h1))) ?_ ?_
    · intro i y Hz Ha hi ⟨q1, q2⟩ ⟨eb, ex⟩
      subst eb
      obtain ⟨a, ha, rfl⟩ := map_of ex
      refine ⟨rfl, ?_⟩
      refine ⟨_, rfl, _, rfl, p2, _, rfl, .inr (.inl (.inl (q1 _ _ h2))), rfl, flat_strs _, _, rfl, ?_⟩
      rw [show (if true = true then !inV (V.str a) (bs.map V.str) else inV (V.str a) (bs.map V.str)) = decide (a ∉ bs) from (congrArg (!·) (inV_strs a _)).trans (by simp)]
      have more := filter_more (c := fun a => decide (a ∉ bs)) ha
      have lf := List.length_filter_le (fun a => decide (a ∉ bs)) (as.take i)
      rw [List.length_take] at lf
      refine ite2 (fun yes => ?_) (fun no => ?_)
      · have yes : decide (a ∉ bs) = true := yes
        rw [if_pos yes] at more
        exact ⟨_, rfl, _, q2, by rw [List.length_map]; omega, q1.put nD, by rw [upd_same, more, List.map_append] <;> rfl⟩
      · have no : ¬ decide (a ∉ bs) = true := no
        rw [if_neg no, List.append_nil] at more
        exact ⟨q1, by rw [more]; exact q2⟩
    intro H1 ⟨s1, hD⟩
    rw [List.length_map, List.take_length] at hD
    refine ⟨D, _, rfl, .inl (SqL.of hD), ?_⟩
    refine ⟨_, rfl, p2, rfl, ⟨_, .inl (.inl (s1 _ _ h2))⟩, fun D2 nD2 => ?_⟩
    refine lc_it walk_tup (fun i H' => Same H1 H' ∧ H' D2 = some (.lst (((bs.take i).filter fun a => decide (a ∉ as)).map V.str))) ⟨same_new nD2, upd_same⟩ (fun i H' _ z => .inl (.inl (z.1 _ _ (s1 _ _ h2)))) ?_ ?_
    · intro i y Hz Ha hi ⟨q1, q2⟩ ⟨eb, ex⟩
      subst eb
      obtain ⟨a, ha, rfl⟩ := map_of ex
      refine ⟨rfl, ?_⟩
      refine ⟨_, rfl, _, rfl, p1, _, rfl, .inr (.inl (.inl (q1 _ _ (s1 _ _ h1)))), rfl, flat_strs _, _, rfl, ?_⟩
      rw [show (if true = true then !inV (V.str a) (as.map V.str) else inV (V.str a) (as.map V.str)) = decide (a ∉ as) from (congrArg (!·) (inV_strs a _)).trans (by simp)]
      have more := filter_more (c := fun a => decide (a ∉ as)) ha
      have lf := List.length_filter_le (fun a => decide (a ∉ as)) (bs.take i)
      rw [List.length_take] at lf
      refine ite2 (fun yes => ?_) (fun no => ?_)
      · have yes : decide (a ∉ as) = true := yes
        rw [if_pos yes] at more
        exact ⟨_, rfl, _, q2, by rw [List.length_map]; omega, q1.put nD2, by rw [upd_same, more, List.map_append] <;> rfl⟩
      · have no : ¬ decide (a ∉ as) = true := no
        rw [if_neg no, List.append_nil] at more
        exact ⟨q1, by rw [more]; exact q2⟩
    intro H2 ⟨s2, hD2⟩
    rw [List.length_map, List.take_length] at hD2
    refine ⟨D2, _, rfl, .inl (SqL.of hD2), _, _, rfl, rfl, ?_⟩
    rw [List.length_map, List.length_map]
    exact k H2 (s1.trans s2)
abbrev NTo : List Str := ["one", "other", "above", "pairs", "place", "goal"]
theorem scTo : FnScope NTo ["one", "other"] (defScope s_toggles) := ⟨rfl, rfl, rfl, by decide +kernel, rfl, by decide +kernel, by decide +kernel⟩
end
end FT


/-! toggles, with its error -/
namespace FT
open PySem L2 TL ClX LiI
def spTogglesE (CF CA CM : Addr) : Sp := fun vs H Q E => ∃ (y1 y2 x1 x2 : Addr) (ts us : List (Str × Str)) (zs1 zs2 : List Str), vs = [.ref y1, .ref y2] ∧ AAt CA H y1 x1 zs1 ∧ AAt CA H y2 x2 zs2 ∧ FAt CF H x1 ts ∧ FAt CF H x2 us ∧
  ((matB ts us zs1 zs2 = false ∧ Out H E (.e0 CM)) ∨ (ts = us ∧ TreeOk ts ∧ zs1.length = zs2.length ∧ zs1.length ≤ 1000 ∧ (∀ z ∈ zs1, Pl ts z) ∧ (∀ z ∈ zs2, Pl ts z) ∧ ∀ H', Same H H' → Q (.int (farS ts zs1 zs2)) H'))
section
variable {P : Program} {w : World} {K : PySem.W.Frag} {mg : Str → Option Value} {base : Heap}
theorem ok_togglesE {f fM fD fP CF CA CM pF gF pP gP : Addr} {mcA : Value} {fd fdM fdD fdP fd1 fd2 : FuncData} (F : Fun K "toggles" "toggles" s_toggles f fd) (T : Nm mg) (O : FoC K CF) (B : Ac K mg CA mcA) (DM : Dn P w K mg base (L2.CX P w) 3 "need_match" ["one", "other"] (spMatchE CF CA CM) fM fdM) (DD : Dn P w K mg base CX0 1 "path_difference" ["one", "other"] spDiff fD fdD) (DP : Dn P w K mg base CX0 1 "path_in" ["above", "place"] spPathIn fP fdP)
    (PF : PrN P w K mg base 1 CA "forest" (spAForest CA) pF gF fd1) (PP : PrN P w K mg base 1 CA "places" (spAPlaces CA) pP gP fd2) : FnOk P w K mg base (L2.CX P w) 4 f fd ["one", "other"] (spTogglesE CF CA CM) := by
  refine F.okX scTo (fun vs H Q E h => ?_) (fun cdv A outer s H vs Q E hr h => ?_)
  · obtain ⟨y1, y2, x1, x2, ts, us, zs1, zs2, rfl, _⟩ := h
    rfl
  · obtain ⟨y1, y2, x, x2, ts, us, zs1, zs2, rfl, h1, h2, fa, fb, k⟩ := h
    have nd := scTo.nd
    have hr1 : Room 1 _ := hr.mono (by decide)
    have hr2 : Room 2 _ := hr.mono (by decide)
    have big : 1000 ≤ sizeLine := by decide
    refine ⟨_, pss_cons (ps_expr (pe_call DM.ok hr rfl DM.mgn DM.kp DM.bn .nil (passes_call (takes_of rfl rfl rfl rfl) (fun _ _ _ _ h => h)) (pa_cons (pv 0) (pa_cons (pv 1) pa_nil))))
      (pss_cons (ps_set (i := 2) nd rfl (.inr rfl) (pe_fld (pe_prop (pv 0) B.cl PF.pr PF.fn hr2 PF.bn .nil pass0 (by rfl)) rfl))
      (pss_cons (ps_set (i := 3) nd rfl (.inl rfl) (ZlI.pe_listZip rfl (pa_cons (pe_prop (pv 0) B.cl PP.pr PP.fn hr2 PP.bn .nil pass0 (by rfl)) (pa_cons (pe_prop (pv 1) B.cl PP.pr PP.fn hr2 PP.bn .nil pass0 (by rfl)) pa_nil)) (by rfl) T.lst (by rfl) T.zip))
      (pss_one (ps_ret (pe_callB (cr_sum rfl) (by rfl) T.sum (by decide +kernel) (pa_cons (pe_lc (own := [("place", 4), ("goal", 5)]) (g := gTup K 2 (gCons (gName 4) (gCons (gName 5) gNil))) (tt := tYes)
          (te := tCall spDiff [] E0 (tCons (tCall spPathIn [] E0 (tCons (tVar 2) (tCons (tVar 4) tNil))) (tCons (tCall spPathIn [] E0 (tCons (tVar 2) (tCons (tVar 5) tNil))) tNil))) rfl nd (pi_list (pv 3)) (blkOk_by (N := NTo) (sc := defScope s_toggles) (by decide +kernel))
        (fun _ _ _ _ _ => pg_tup rfl (pgs_cons (pg_name (i := 4) nd rfl (Or.inl rfl)) (pgs_cons (pg_name (i := 5) nd rfl (Or.inl rfl)) pgs_nil))) (fun _ _ _ _ _ => pts_nil)
        (fun _ _ _ _ _ => pe_call DD.ok hr1 rfl DD.mgn DD.kp DD.bn .nil pass0 (pa_cons (pe_call DP.ok hr1 rfl DP.mgn DP.kp DP.bn .nil pass0 (pa_cons (pv 2) (pa_cons (pv 4) pa_nil))) (pa_cons (pe_call DP.ok hr1 rfl DP.mgn DP.kp DP.bn .nil pass0 (pa_cons (pv 2) (pa_cons (pv 5) pa_nil))) pa_nil)))) pa_nil)))))), ?_⟩
    obtain ⟨d1, p1, a1, b1⟩ := id h1
    obtain ⟨d2, p2, a2, b2⟩ := id h2
    obtain ⟨dx, dq, hx, hd⟩ := id fa
    refine ⟨_, rfl, _, rfl, y1, y2, x, x2, ts, us, zs1, zs2, rfl, h1, h2, fa, fb, ?_⟩
    rcases k with ⟨no, k⟩ | ⟨e0, o, el, few, pl1, pl2, k⟩
    · rw [if_neg (by rw [no]; decide)]
      exact k
    subst e0
    rw [if_pos (matB_self o el)]
    intro H1 s1
    refine ⟨_, rfl, y1, d1, _, rfl, s1 _ _ a1, y1, x, zs1, rfl, h1.mono s1, x, CF, dx, _, .ref dq, rfl, s1 _ _ hx, O.cl, O.nA, rfl, ?_⟩
    refine ⟨_, rfl, y1, d1, _, rfl, s1 _ _ a1, y1, x, zs1, rfl, h1.mono s1, fun l1 n1 => ?_⟩
    have t1 := same_new (o := .lst (zs1.map V.str)) n1
    refine ⟨_, rfl, y2, d2, _, rfl, t1 _ _ (s1 _ _ a2), y2, x2, zs2, rfl, (h2.mono s1).mono t1, fun l2 n2 => ?_⟩
    have t2 := same_new (o := .lst (zs2.map V.str)) n2
    refine ⟨l1, l2, _, _, rfl, SqL.of (t2 _ _ upd_same), SqL.of upd_same, fun H2 pz rs s2 nz nrs pzr hz hrs => ?_⟩
    have s02 : Same H H2 := ((s1.trans t1).trans t2).trans fun b u e => s2 b u e
    refine ⟨_, rfl, pz, rfl, ⟨_, SqL.of hz⟩, fun D nD => ?_⟩
    have hx2 := s02 _ _ hx
    have hd2 := s02 _ _ hd
    have lz := pair_lenZ hrs
    rw [List.length_zip, List.length_map, List.length_map] at lz
    refine lc_it walk_list (fun j H' => Same H2 H' ∧ H' D = some (.lst ((((zs1.zip zs2).take j).map fun e => dist ts e.1 e.2).map V.int))) ⟨same_new nD, upd_same⟩ (fun j H' _ z => SqL.of (z.1 _ _ hz)) ?_ ?_
    · intro j y Hz Ha hj ⟨q1, q2⟩ ⟨eb, ex⟩
      subst eb
      obtain ⟨r, hr', rfl⟩ := map_of (f := V.ref) (l := rs) ex
      obtain ⟨q, hq, htup⟩ := LiI.paired_get hrs hr'
      rw [zip_strs, List.getElem?_map] at hq
      obtain ⟨⟨za, zb⟩, hab, rfl⟩ := Option.map_eq_some_iff.mp hq
      obtain ⟨ma, mb⟩ := List.of_mem_zip (List.mem_of_getElem? hab)
      have jl := (List.getElem?_eq_some_iff.mp hab).1
      rw [List.length_zip] at jl
      refine ⟨r, [.str za, .str zb], rfl, .inl (.inl (q1 _ _ htup)), rfl, _, _, rfl, _, _, rfl, rfl, rfl, ?_⟩
      refine ⟨_, rfl, _, rfl, dq, ts, za, rfl, .inl (q1 _ _ hd2), o, pl1 za ma, fun pa H3 s3 na ha => ?_⟩
      refine ⟨_, rfl, _, rfl, dq, ts, zb, rfl, .inl (s3 _ _ (q1 _ _ hd2)), o, pl2 zb mb, fun pb H4 s4 nb hb => ?_⟩
      have lpa := path_len ts za
      have lpb := path_len ts zb
      have few' := o.few
      refine ⟨pa, pb, pathOf ts za, pathOf ts zb, rfl, s4 _ _ ha, hb, by omega, by omega, fun H5 s5 => ?_⟩
      have s35 := (s3.trans s4).trans s5
      refine ⟨_, s35 _ _ q2, by rw [List.length_map, List.length_map, List.length_take, List.length_zip]; omega, (q1.trans s35).put nD, ?_⟩
      rw [upd_same, take_more hab, List.map_append, List.map_append] <;> rfl
    · intro H3 ⟨s3, hD⟩
      rw [List.length_map, show rs.length = (zs1.zip zs2).length by rw [lz, List.length_zip], List.take_length] at hD
      exact ⟨D, _, rfl, SqL.of hD, k H3 (s02.trans s3)⟩
end
end FT


/-! xs.count(y), flat items -/
namespace L2
open PySem PySem.Spec PyProof.Rows
theorem countP_eqU {x : V} : ∀ {xs : List V} {us : List Value}, Vals xs us → xs.all flatV = true → us.countP (eqU x) = xs.countP fun y => eqV y x
  | _, _, .nil, _ => rfl
  | y :: xs, u :: us, .cons r t, f => by
    rw [List.all_cons, Bool.and_eq_true] at f
    rw [List.countP_cons, List.countP_cons, countP_eqU t f.2, eqU_of r f.1]
def rCntF (K : PySem.W.Frag) : V → List V → Hp → VK → Prop := fun x xs H Q => ∃ (a : Addr) (ys : List V) (y : V), x = .ref a ∧ xs = [y] ∧ SqL K H a ys ∧ flatV y = true ∧ ys.all flatV = true ∧ Q (.int ((ys.countP fun z => eqV z y : Nat) : Int)) H
variable {X : Cx}
theorem mt_countF : MtR X "list.count" (rCntF X.K) := by
  intro pins s σ H x xs v us Q I rx rxs ⟨a, ys, y, ex, exs, hs, fy, fys, q⟩
  subst ex
  subst exs
  cases rx
  match us, rxs with
  | [uy], .cons ry .nil =>
    obtain ⟨its, rv, ⟨⟨cls, dd, data, sl⟩, n, ho, hc, hdn, hd⟩, hlen⟩ := I.list hs
    simp only at hc hd
    subst hc hd
    refine call_meets PySem.F.slot_list_count ⟨_, ho, rfl⟩ PySem.F.entry_list_count (PySem.F.args_list_count_2 _ _)
      (SeqAt.list_countAt a its.toArray n dd sl uy (eqU y)) ⟨ho, fun u hu => mem_eqAt ry fy rv fys u (by simpa using hu), ?_⟩
    refine ⟨.int ((ys.countP fun z => eqV z y : Nat) : Int), H, I.tok _, ⟨s.toks, ?_⟩, q⟩
    show Value.int ((its.toArray.toList.countP (eqU y) : Nat) : Int) s.toks = Value.int ((ys.countP fun z => eqV z y : Nat) : Int) s.toks
    rw [show its.toArray.toList = its from rfl, countP_eqU rv fys]
end L2


/-! the law's toggles of a user -/
namespace FT
open PySem L2 TL ClX LiI
def distT (t : List (Str × Str)) (p g : Str) : Int := (((t.map Prod.fst).filter fun b => decide (b ∈ pathOf t p) != decide (b ∈ pathOf t g)).length : Int)
def spFar : Sp := fun vs H Q _ => ∃ (q : Addr) (p g : Str) (t : List (Str × Str)), vs = [.ref q, .str p, .str g] ∧ H q = some (.dK (prs t)) ∧ TreeOk t ∧ Pl t p ∧ Pl t g ∧ ∀ H', Same H H' → Q (.int (distT t p g)) H'
section
variable {P : Program} {w : World} {K : PySem.W.Frag} {mg : Str → Option Value} {base : Heap}
abbrev NFa : List Str := ["_law_above", "_law_spot", "_law_goal", "_law_here", "_law_there", "_law_name"]
theorem scFa : FnScope NFa ["_law_above", "_law_spot", "_law_goal"] (defScope s__law_far) := ⟨rfl, rfl, rfl, by decide +kernel, rfl, by decide +kernel, by decide +kernel⟩
theorem ok_far {f fP : Addr} {fd fdP : FuncData} (F : Fun K "_law_far" "_law_far" s__law_far f fd) (T : Nm mg) (DP : Dn P w K mg base CX0 1 "_law_path" ["_law_above", "_law_spot"] spPath fP fdP) : FnOk P w K mg base CX0 2 f fd ["_law_above", "_law_spot", "_law_goal"] spFar := by
  refine F.ok scFa (fun vs H Q E h => ?_) (fun cdv A outer s H vs Q E hr h => ?_)
  · obtain ⟨q, p, g, t, rfl, _⟩ := h
    rfl
  · obtain ⟨q, p, g, t, rfl, hq, o, pp, pg, k⟩ := h
    have hu := hu_of hr
    have nd := scFa.nd
    have big : 1000 ≤ sizeLine := by decide
    have few := o.few
    refine ⟨_, pss_cons (ps_asg (pe_tup (pa_cons (pe_call DP.ok hr rfl DP.mgn DP.kp DP.bn .nil pass0 (pa_cons (pv 0) (pa_cons (pv 1) pa_nil))) (pa_cons (pe_call DP.ok hr rfl DP.mgn DP.kp DP.bn .nil pass0 (pa_cons (pv 0) (pa_cons (pv 2) pa_nil))) pa_nil)))
        (pg_tup rfl (pgs_cons (pg_name (i := 3) nd rfl (.inr rfl)) (pgs_cons (pg_name (i := 4) nd rfl (.inr rfl)) pgs_nil))))
      (pss_one (ps_ret (pe_callB call_len_seq (by rfl) T.len PySem.boot_len (pa_cons (pe_lock (pe_lc (own := [("_law_name", 5)]) (g := gName 5) (tt := tTest (tOp rNe (tOp (rIn K false) (tVar 5) (tVar 3)) (tOp (rIn K false) (tVar 5) (tVar 4)))) (te := tVar 5) rfl nd (pi_keys (pv 0)) (blkOk_by (N := NFa) (sc := defScope s__law_far) (by decide +kernel))
        (fun _ _ _ _ _ => pg_name (i := 5) nd rfl (Or.inl rfl)) (fun _ _ _ _ _ => pts_one (pt_cmpR op_ne (pe_cmpR op_in_seq (pv 5) (pv 3) rfl) (pe_cmpR op_in_seq (pv 5) (pv 4) rfl) (nomark _))) (fun _ _ _ _ _ => pv 5))) pa_nil)))), ?_⟩
    refine ⟨_, rfl, _, rfl, q, p, t, rfl, .inl hq, o, pp, fun p1 H1 s1 n1 h1 => ?_⟩
    refine ⟨_, rfl, _, rfl, q, g, t, rfl, .inl (s1 _ _ hq), o, pg, fun p2 H2 s2 n2 h2 => ?_⟩
    refine ⟨by show 2 ≤ sizeLine; omega, fun tp ntp => ⟨tp, _, rfl, .inl (.inl upd_same), rfl, _, _, rfl, _, _, rfl, rfl, ?_⟩⟩
    have tt := same_new (o := .tup [.ref p1, .ref p2]) ntp
    obtain ⟨H3, e3⟩ : ∃ X, X = upd H2 tp (.tup [.ref p1, .ref p2]) := ⟨_, rfl⟩
    have s03 : Same H H3 := e3 ▸ (s1.trans s2).trans tt
    have h1 : H3 p1 = some (.tup ((pathOf t p).map V.str)) := by rw [e3]; exact tt _ _ (s2 _ _ h1)
    have h2 : H3 p2 = some (.tup ((pathOf t g).map V.str)) := by rw [e3]; exact tt _ _ h2
    rw [← e3]
    have hq3 := s03 _ _ hq
    refine ⟨q, _, hq3, trivial, fun od => ⟨_, rfl, q, od, rfl, .inl ⟨_, upd_same, fun D nD => ?_⟩⟩⟩
    have Dq : D ≠ q := (ne_of_none upd_same nD).symm
    have offq : ∀ {b u}, b ≠ q → H3 b = some u → (upd H3 q (.frz od (.dK (prs t)))) b = some u := fun {b u} n e => by rw [upd_ne n]; exact e
    have p1q : p1 ≠ q := ne_of h1 hq3 (by intro z; cases z)
    have p2q : p2 ≠ q := ne_of h2 hq3 (by intro z; cases z)
    refine lc_it walk_keys (fun i H' => Same (upd H3 q (.frz od (.dK (prs t)))) H' ∧ H' D = some (.lst ((((t.map Prod.fst).take i).filter fun b => decide (b ∈ pathOf t p) != decide (b ∈ pathOf t g)).map V.str))) ⟨same_new nD, upd_same⟩ (fun i H' _ z => z.1 _ _ upd_same) ?_ ?_
    · intro i y Hz Ha hi ⟨q1, q2⟩ ⟨eb, kk, vv, hk, ey⟩
      subst eb
      subst ey
      obtain ⟨⟨b, pb⟩, hp, ee⟩ : ∃ z : Str × Str, t[i]? = some z ∧ (kk, vv) = (Sum.inr z.1, V.str z.2) := by
        unfold prs kvT at hk
        rw [List.map_map, List.getElem?_map] at hk
        obtain ⟨z, hz, e⟩ := Option.map_eq_some_iff.mp hk
        exact ⟨z, hz, e.symm⟩
      cases ee
      rw [show kV (Sum.inr b) = V.str b from rfl]
      have hb : (t.map Prod.fst)[i]? = some b := by rw [List.getElem?_map, hp] <;> rfl
      refine ⟨rfl, ?_⟩
      refine ⟨_, rfl, _, rfl, p1, _, rfl, .inr (.inl (.inl (q1 _ _ (offq p1q h1)))), rfl, flat_strs _, ?_⟩
      refine ⟨_, rfl, _, rfl, p2, _, rfl, .inr (.inl (.inl (q1 _ _ (offq p2q h2)))), rfl, flat_strs _, ?_⟩
      rw [show (if false = true then !inV (V.str b) ((pathOf t p).map V.str) else inV (V.str b) ((pathOf t p).map V.str)) = decide (b ∈ pathOf t p) from inV_strs b _,
        show (if false = true then !inV (V.str b) ((pathOf t g).map V.str) else inV (V.str b) ((pathOf t g).map V.str)) = decide (b ∈ pathOf t g) from inV_strs b _]
      refine ⟨rfl, _, rfl, ?_⟩
      have more := filter_more (c := fun b => decide (b ∈ pathOf t p) != decide (b ∈ pathOf t g)) hb
      have lf := List.length_filter_le (fun b => decide (b ∈ pathOf t p) != decide (b ∈ pathOf t g)) ((t.map Prod.fst).take i)
      rw [List.length_take, List.length_map] at lf
      rw [show (!decide (V.bl (decide (b ∈ pathOf t p)) = V.bl (decide (b ∈ pathOf t g)))) = (decide (b ∈ pathOf t p) != decide (b ∈ pathOf t g)) by
        cases decide (b ∈ pathOf t p) <;> cases decide (b ∈ pathOf t g) <;> rfl]
      refine ite2 (fun yes => ?_) (fun no => ?_)
      · rw [if_pos yes] at more
        exact ⟨_, rfl, _, q2, by rw [List.length_map]; omega, q1.put nD, by rw [upd_same, more, List.map_append] <;> rfl⟩
      · rw [if_neg no, List.append_nil] at more
        exact ⟨q1, by rw [more]; exact q2⟩
    · intro H4 ⟨q1, q2⟩
      rw [prs_len, ← List.length_map (f := Prod.fst) (as := t), List.take_length] at q2
      refine ⟨q1 _ _ upd_same, D, _, rfl, .inl (SqL.of (by rw [upd_ne Dq]; exact q2)), ?_⟩
      rw [List.length_map]
      exact k _ (s03.trans (unlock_same hq3 q1))
end
end FT


/-! amounts and errors of tables (plain part of FtAm) -/
namespace FT
open PySem L2 TL ClX LamX NdefX LiI
end FT


/-! amounts and errors of tables; what stands while the draws go on. -/
namespace FT
open PySem L2 TL ClX LamX NdefX LiI
theorem DrawAt.notD {H : Hp} {d c b : Addr} {o : HO} (x : DrawAt H d c) (e : H b = some o) (n : ∀ xs, o ≠ .lst xs) : b ≠ d ∧ b ≠ c := by
  obtain ⟨nx, mx, ct, cells, z1, z2, _⟩ := x
  exact ⟨ne_of e z1 (n _), ne_of e z2 (n _)⟩
theorem Dat.keepN {K : PySem.W.Frag} {H H' : Hp} {d c : Addr} {v : V} {T : String} (dr : DrawAt H d c) (dr' : DrawAt H' d c) (k : KeepN d c H H') (x : Dat K H v T) : Dat K H' v T := by
  cases x with
  | non => exact .non
  | bl b => exact .bl b
  | int i => exact .int i
  | str z => exact .str z
  | @lst a xs h =>
    obtain ⟨nx, mx, ct, cells, z1, z2, _⟩ := dr'
    by_cases e1 : a = d
    · subst e1
      exact .lst z1
    · by_cases e2 : a = c
      · subst e2
        exact .lst z2
      · exact .lst (k _ _ e1 e2 h fun ps z => nomatch z)
  | tup h => exact let ⟨e1, e2⟩ := dr.notD h (fun xs z => nomatch z); .tup (k _ _ e1 e2 h fun ps z => nomatch z)
  | dct h => exact let ⟨e1, e2⟩ := dr.notD h (fun xs z => nomatch z); .dct (k _ _ e1 e2 h fun ps z => nomatch z)
theorem SzV.keepN {K : PySem.W.Frag} {H H' : Hp} {d c : Addr} {sv : V} {o : Option (List (Key × V))} (dr : DrawAt H d c) (dr' : DrawAt H' d c) (k : KeepN d c H H') (x : SzV K H sv o) : SzV K H' sv o := by
  cases o with
  | none => exact let ⟨T, x, n⟩ := x; ⟨T, x.keepN dr dr' k, n⟩
  | some kvs =>
    obtain ⟨q, e, h, a⟩ := x
    obtain ⟨e1, e2⟩ := dr.notD h (fun xs z => nomatch z)
    exact ⟨q, e, k _ _ e1 e2 h (fun ps z => nomatch z), fun p hp => let ⟨T, x⟩ := a p hp; ⟨T, x.keepN dr dr' k⟩⟩
theorem FAt.keepN {CF x : Addr} {H H' : Hp} {d c : Addr} {ts : List (Str × Str)} (dr : DrawAt H d c) (k : KeepN d c H H') (h : FAt CF H x ts) : FAt CF H' x ts := by
  obtain ⟨dx, dq, h1, h2⟩ := h
  obtain ⟨a1, a2⟩ := dr.notD h1 (fun xs z => nomatch z)
  obtain ⟨b1, b2⟩ := dr.notD h2 (fun xs z => nomatch z)
  exact ⟨dx, dq, k _ _ a1 a2 h1 (fun ps z => nomatch z), k _ _ b1 b2 h2 (fun ps z => nomatch z)⟩
end FT


/-! _law_other_parents: a tree with another parent -/
namespace FT
open PySem L2 TL ClX LiI
def setP (t : List (Str × Str)) (a z : Str) : List (Str × Str) := t.map fun p => if p.1 = a then (p.1, z) else p
theorem setP_keys (t : List (Str × Str)) (a z : Str) : (setP t a z).map Prod.fst = t.map Prod.fst := by
  unfold setP
  rw [List.map_map]
  refine List.map_congr_left fun p _ => ?_
  show (if p.1 = a then (p.1, z) else p).1 = p.1
  split <;> rfl
theorem setP_mem {t : List (Str × Str)} {a z : Str} {q : Str × Str} (h : q ∈ setP t a z) : q ∈ t ∨ (q.1 = a ∧ q.2 = z ∧ q.1 ∈ t.map Prod.fst) := by
  obtain ⟨p, hp, rfl⟩ := List.mem_map.mp h
  by_cases e : p.1 = a
  · rw [if_pos e]
    exact .inr ⟨e, rfl, List.mem_map.mpr ⟨p, hp, rfl⟩⟩
  · rw [if_neg e]
    exact .inl hp
theorem put_prs {t : List (Str × Str)} {a z : Str} (h : a ∈ t.map Prod.fst) : putK (prs t) (Sum.inr a) (.str z) = prs (setP t a z) := by
  unfold prs
  rw [kvT_putT]
  unfold putT
  rw [if_pos (by rw [prs_fst]; exact h)]
  unfold setP
  rw [List.map_map, List.map_map]
  congr 1
  refine List.map_congr_left fun p _ => ?_
  show (if p.1 = a then (p.1, V.str z) else (p.1, V.str p.2)) = ((if p.1 = a then (p.1, z) else p).1, V.str (if p.1 = a then (p.1, z) else p).2)
  split <;> rfl
theorem setP_root {t : List (Str × Str)} (o : TreeOk t) (a : Str) : TreeOk (setP t a "") := by
  obtain ⟨rk, r⟩ := o.up
  have l : (setP t a "").length = t.length := List.length_map _
  refine ⟨by rw [l]; exact o.one, by rw [l]; exact o.few, by rw [setP_keys]; exact o.nd, by rw [setP_keys]; exact o.nm, rk, fun q hq => ?_⟩
  rw [l, setP_keys]
  rcases setP_mem hq with h | ⟨_, h2, h3⟩
  · exact r q h
  · obtain ⟨p, hp, e⟩ := List.mem_map.mp h3
    rw [← e]
    exact ⟨(r p hp).1, .inl h2⟩
theorem setP_flat {t : List (Str × Str)} (o : TreeOk t) (flat : ∀ q ∈ t, q.2 = ("" : Str)) {a b : Str} (ha : a ∈ t.map Prod.fst) (ne : a ≠ b) (two : 2 ≤ t.length) : TreeOk (setP t b a) := by
  have l : (setP t b a).length = t.length := List.length_map _
  refine ⟨by rw [l]; exact o.one, by rw [l]; exact o.few, by rw [setP_keys]; exact o.nd, by rw [setP_keys]; exact o.nm, fun x => if x = b then 1 else 0, fun q hq => ?_⟩
  rw [l, setP_keys]
  refine ⟨by show (if q.1 = b then 1 else 0) < t.length; split <;> omega, ?_⟩
  rcases setP_mem hq with h | ⟨h1, h2, h3⟩
  · exact .inl (flat q h)
  · refine .inr ⟨by rw [h2]; exact ha, ?_⟩
    show (if q.2 = b then 1 else 0) < (if q.1 = b then 1 else 0)
    rw [h1, h2, if_neg ne, if_pos rfl]
    decide
def spOtherP : Sp := fun vs H Q _ => ∃ (q : Addr) (t : List (Str × Str)), vs = [.ref q] ∧ H q = some (.dK (prs t)) ∧ TreeOk t ∧ (∀ H', Same H H' → Q .non H') ∧
  ∀ (p : Addr) (t' : List (Str × Str)) (H' : Hp), Same H H' → H p = none → H' p = some (.dK (prs t')) → TreeOk t' → eqDK (prs t') (prs t) = false → t'.map Prod.fst = t.map Prod.fst → Q (.ref p) H'
section
variable {P : Program} {w : World} {K : PySem.W.Frag} {mg : Str → Option Value} {base : Heap}
abbrev NOp : List Str := ["_law_above", "_law_found", "_law_names_here", "_law_lower", "_law_name"]
theorem scOp : FnScope NOp ["_law_above"] (defScope s__law_other_parents) := ⟨rfl, rfl, rfl, by decide +kernel, rfl, by decide +kernel, by decide +kernel⟩
theorem ok_otherP {f : Addr} {fd : FuncData} (F : Fun K "_law_other_parents" "_law_other_parents" s__law_other_parents f fd) (T : Nm mg) : FnOk P w K mg base CX0 1 f fd ["_law_above"] spOtherP := by
  refine F.ok scOp (fun vs H Q E h => ?_) (fun cdv A outer s H vs Q E hr h => ?_)
  · obtain ⟨q, t, rfl, _⟩ := h
    rfl
  · obtain ⟨q, t, rfl, hq, o, kn, kp⟩ := h
    have hu := hu_of hr
    have nd := scOp.nd
    have big : 1000 ≤ sizeLine := by decide
    have few := o.few
    refine ⟨_, pss_cons (ps_par (i := 1) (j := 2) rfl nd rfl rfl (by decide) rfl rfl (pa_cons (pe_callTy call_dictD (by rfl) T.dct (by decide +kernel) (pa_cons (pv 0) pa_nil)) (pa_cons (pe_callB (call_sortedD rfl) (by rfl) T.srt (by decide +kernel) (pa_cons (pv 0) pa_nil)) pa_nil)) (by rfl))
      (pss_cons (ps_setLc (i := 3) (own := [("_law_name", 4)]) (g := gName 4) (tt := tTest (tOp rNe (tDGet (tVar 0) (tVar 4)) (tC (.str "")))) (te := tVar 4) rfl nd rfl rfl (sw_true rfl rfl rfl (by decide +kernel)) (pi_list (pv 2))
          (blkOk_by (N := NOp) (sc := defScope s__law_other_parents) (by decide +kernel)) (fun _ _ _ _ _ => pg_name (i := 4) nd rfl (Or.inl rfl)) (fun _ _ _ _ _ => pts_one (pt_cmpR op_ne (pe_dget hu (pv 0) (pv 4) (fun _ _ => rfl)) pe_str (nomark _))) (fun _ _ _ _ _ => pv 4))
      (pss_cons (ps_if (pt_cmpR (op_neD hr.units) (pv 3) (pe_lst pa_nil) (nomark _)) (pss_one (ps_dput hu (pv 1) (pe_ix ix_list (pv 3) pe_int (fun _ _ => rfl)) pe_str rfl))
          (pss_one (ps_if (pt_cmpR op_gt (pe_callB call_len_seq (by rfl) T.len PySem.boot_len (pa_cons (pv 2) pa_nil)) pe_int (nomark _)) (pss_one (ps_dput hu (pv 1) (pe_ix ix_list (pv 2) pe_int (fun _ _ => rfl)) (pe_ix ix_list (pv 2) pe_int (fun _ _ => rfl)) rfl)) pss_nil)))
      (pss_one (ps_ret (pe_ifExp (pt_cmpR (op_ne_dictC (Nat.lt_of_succ_lt hu)) (pv 1) (pv 0) (nomark _)) (pv 1) pe_non))))), ?_⟩
    refine ⟨_, rfl, q, _, rfl, .inl hq, fun pf npf => ?_⟩
    have s1 := same_new (o := .dK (prs t)) npf
    refine ⟨_, rfl, q, prs t, t.map Prod.fst, rfl, .inl (s1 _ _ hq), prs_keys t, by rw [List.length_map]; omega, fun ks pn pks srt npn => ⟨_, _, rfl, ?_⟩⟩
    have s2 := same_new (o := .lst (ks.map V.str)) npn
    have lks := pks.length_eq
    rw [List.length_map] at lks
    obtain ⟨H2, e2⟩ : ∃ X, X = upd (upd H pf (.dK (prs t))) pn (.lst (ks.map V.str)) := ⟨_, rfl⟩
    have s02 : Same H H2 := e2 ▸ s1.trans s2
    have hpf2 : H2 pf = some (.dK (prs t)) := by rw [e2]; exact s2 _ _ upd_same
    have hpn2 : H2 pn = some (.lst (ks.map V.str)) := by rw [e2]; exact upd_same
    have hq2 := s02 _ _ hq
    rw [← e2]
    clear e2
    have fin : ∀ (H' : Hp) (t' : List (Str × Str)) (u3 u4 : Option V), Same H H' → H' pf = some (.dK (prs t')) → TreeOk t' → t'.map Prod.fst = t.map Prod.fst → tRet (tIf (tTest (tOp rNeDC (tVar 1) (tVar 0))) (tVar 1) (tC .non)) { nx := fun _ H' => Q .non H', rt := Q } [some (.ref q), some (.ref pf), some (.ref pn), u3, u4] H' := by
      intro H' t' u3 u4 s' hp o' ek
      refine ⟨_, rfl, _, rfl, pf, q, _, _, rfl, rfl, hp, s' _ _ hq, prs_flat _, prs_flat _, _, rfl, ?_⟩
      cases e : eqDK (prs t') (prs t) with
      | false => exact iteT ⟨_, rfl, kp pf t' H' s' npf hp o' e ek⟩
      | true => exact iteF (kn H' s')
    -- the lower ones
    refine ⟨_, rfl, pn, rfl, ⟨_, SqL.of hpn2⟩, fun D nD => ?_⟩
    obtain ⟨lows, elo⟩ : ∃ lows : List Str → List Str, lows = fun l => l.filter fun b => !decide (par t b = some ("" : Str)) := ⟨_, rfl⟩
    have lowl : ∀ l : List Str, l.length ≤ 12 → (lows l).length ≤ 12 := fun l h => by
      rw [elo]
      exact Nat.le_trans (List.length_filter_le _ _) h
    refine lc_it walk_list (fun j H' => Same H2 H' ∧ H' D = some (.lst ((lows (ks.take j)).map V.str))) ⟨same_new nD, by rw [upd_same, List.take_zero, elo] <;> rfl⟩ (fun j H' _ z => SqL.of (z.1 _ _ hpn2)) ?_ ?_
    · intro j yv Hx Hy hj ⟨q1, hD⟩ ⟨eb, ex⟩
      subst eb
      obtain ⟨b, hb, rfl⟩ := map_of (f := V.str) (l := ks) ex
      have mb := pks.mem_iff.mp (List.mem_of_getElem? hb)
      obtain ⟨p, hpar⟩ := par_some o.nd mb
      have nxt := take_more hb
      refine ⟨rfl, ?_⟩
      refine ⟨_, rfl, _, rfl, q, .str p, rfl, dget_prs (.inl (q1 _ _ hq2)) hpar, rfl, _, rfl, ?_⟩
      by_cases e : p = ""
      · rw [decide_eq_true (show V.str p = V.str "" by rw [e])]
        refine iteF ⟨q1, ?_⟩
        rw [hD, nxt, elo]
        show _ = some (HO.lst ((List.filter _ _).map V.str))
        rw [List.filter_append, List.filter_cons, decide_eq_true (by rw [hpar, e]), List.filter_nil, if_neg (by decide), List.append_nil]
      · rw [decide_eq_false (show ¬ V.str p = V.str "" from fun z => e (V.str.inj z))]
        refine iteT ⟨_, rfl, _, hD, ?_, q1.put nD, ?_⟩
        · rw [List.length_map]
          have := lowl (ks.take j) (by rw [List.length_take]; omega)
          omega
        · rw [upd_same, nxt, elo]
          show _ = some (HO.lst ((List.filter _ _).map V.str))
          rw [List.filter_append, List.map_append, List.filter_cons, decide_eq_false (by rw [hpar]; exact fun z => e (Option.some.inj z)), List.filter_nil] <;> rfl
    intro H3 ⟨q1, hD⟩
    rw [List.length_map, List.take_length] at hD
    have hpf3 := q1 _ _ hpf2
    have hpn3 := q1 _ _ hpn2
    have s03 := s02.trans q1
    have okl : ∀ z ∈ lows ks, z ∈ t.map Prod.fst := fun z hz => by
      rw [elo] at hz
      exact pks.mem_iff.mp (List.mem_filter.mp hz).1
    refine ⟨_, rfl, by show 0 ≤ sizeLine; omega, fun z nz => ⟨.list ((lows ks).map PyData.str), .list [], .lst (SqL.of (by rw [upd_ne (ne_of_none hD nz)]; exact hD)) (dps_strs _), .lst (SqL.of upd_same) .nil, strs_shaped (fun z hz => strOk_name (o.nm _ (okl z hz))), rfl, ?_⟩⟩
    have sz := same_new (o := .lst []) nz
    obtain ⟨H4, e4⟩ : ∃ X, X = upd H3 z (.lst []) := ⟨_, rfl⟩
    have s34 : Same H3 H4 := e4 ▸ sz
    have s04 := s03.trans s34
    have hpf4 := s34 _ _ hpf3
    have hpn4 := s34 _ _ hpn3
    have hD4 := s34 _ _ hD
    rw [← e4]
    clear e4
    have putS : ∀ {o : HO}, Same H (upd H4 pf o) := fun {o} => s04.put npf
    refine ⟨_, rfl, ite2 (fun yes => ?_) (fun no => ?_)⟩
    · have ne : lows ks ≠ [] := fun z => by rw [z] at yes; cases yes
      obtain ⟨b, bs, eb⟩ := List.exists_cons_of_ne_nil ne
      have mb := okl b (by rw [eb]; exact List.mem_cons_self ..)
      rw [eb] at hD4
      refine ⟨_, rfl, _, rfl, D, _, _, .str b, rfl, rfl, SqL.of hD4, atI_nat (xs := (b :: bs).map V.str) (j := 0) rfl, pf, _, rfl, DPut.k (k := Sum.inr b) hpf4 (by rw [prs_len]; omega), ?_⟩
      rw [put_prs mb]
      exact fin _ (setP t b "") _ none putS upd_same (setP_root o b) (setP_keys t b "")
    · have nil : lows ks = [] := by
        cases e : lows ks with
        | nil => rfl
        | cons y r =>
          rw [e] at no
          exact absurd rfl no
      have flat : ∀ p ∈ t, p.2 = ("" : Str) := fun p hp => by
        have m : p.1 ∈ ks := pks.mem_iff.mpr (List.mem_map.mpr ⟨p, hp, rfl⟩)
        have hpar := par_of o.nd (a := p.1) (z := p.2) hp
        rw [elo] at nil
        have z := List.filter_eq_nil_iff.mp nil p.1 m
        rw [hpar] at z
        by_cases e : p.2 = ""
        · exact e
        · exact absurd (by rw [decide_eq_false fun y => e (Option.some.inj y)] <;> rfl) z
      refine ⟨_, rfl, pn, _, rfl, .inl (SqL.of hpn4), _, _, rfl, rfl, _, rfl, ite2 (fun two => ?_) (fun one => ?_)⟩
      · have two : 1 < ks.length := by
          have z := of_decide_eq_true two
          rw [List.length_map] at z
          omega
        match ks, two, pks, lks, hpn4 with
        | a :: b :: r, _, pks, lks, hpn4 =>
          have ndk : (a :: b :: r).Nodup := pks.nodup_iff.mpr o.nd
          have ne : a ≠ b := fun z => by
            subst z
            exact (List.nodup_cons.mp ndk).1 (List.mem_cons_self ..)
          have ma := pks.mem_iff.mp (List.mem_cons_self ..)
          have mb := pks.mem_iff.mp (List.mem_cons_of_mem _ (List.mem_cons_self ..))
          have l2 : 2 ≤ t.length := by
            rw [← lks]
            show 2 ≤ r.length + 1 + 1
            omega
          refine ⟨_, rfl, pn, _, _, .str a, rfl, rfl, SqL.of hpn4, atI_nat (xs := (a :: b :: r).map V.str) (j := 0) rfl, _, rfl, _, rfl, pn, _, _, .str b, rfl, rfl, SqL.of hpn4, atI_nat (xs := (a :: b :: r).map V.str) (j := 1) rfl, pf, _, rfl, DPut.k (k := Sum.inr b) hpf4 (by rw [prs_len]; omega), ?_⟩
          rw [put_prs mb]
          exact fin _ (setP t b a) _ none putS upd_same (setP_flat o flat ma ne l2) (setP_keys t b a)
      · exact fin H4 t _ none s04 hpf4 o rfl
end
end FT


/-! plain: trees as dicts, equal or not -/
namespace FT
open PySem L2 TL ClX LiI
theorem perm_sub {α : Type} [DecidableEq α] : ∀ {a b : List α}, a.Nodup → (∀ x ∈ a, x ∈ b) → b.length ≤ a.length → a.Perm b
  | [], b, _, _, l => by
    have : b = [] := List.length_eq_zero_iff.mp (by simpa using l)
    rw [this]
  | x :: a, b, nd, h, l => by
    obtain ⟨n1, n2⟩ := List.nodup_cons.mp nd
    have mx := h x (List.mem_cons_self ..)
    refine List.Perm.trans ?_ (List.perm_cons_erase mx).symm
    refine List.Perm.cons x (perm_sub n2 (fun y hy => ?_) ?_)
    · exact (List.mem_erase_of_ne fun e => n1 (by rw [← e]; exact hy)).mpr (h y (List.mem_cons_of_mem _ hy))
    · rw [List.length_erase_of_mem mx]
      rw [List.length_cons] at l
      omega
theorem nd_pairs {t : List (Str × Str)} (nd : (t.map Prod.fst).Nodup) : t.Nodup := by
  rw [List.nodup_iff_pairwise_ne] at nd ⊢
  exact (List.pairwise_map.mp nd).imp fun h e => h (by rw [e])
theorem rowEq_prs {t : List (Str × Str)} (a z : Str) : rowEq (prs t) (Sum.inr a, V.str z) = decide (par t a = some z) := by
  unfold rowEq
  show (match valV (prs t) (Sum.inr a) with | some u => eqV (.str z) u | none => false) = _
  rw [val_prs]
  cases h : par t a with
  | none => rfl
  | some p =>
    show eqV (.str z) (.str p) = decide (some p = some z)
    by_cases e : p = z
    · rw [e, decide_eq_true rfl]
      simp [eqV]
    · rw [decide_eq_false fun y => e (Option.some.inj y)]
      simp [eqV]
      exact fun y => e y.symm
theorem eqDK_iff {a b : List (Str × Str)} (na : (a.map Prod.fst).Nodup) (nb : (b.map Prod.fst).Nodup) : eqDK (prs a) (prs b) = true ↔ a.Perm b := by
  unfold eqDK
  rw [Bool.and_eq_true, prs_len, prs_len, List.all_eq_true]
  constructor
  · rintro ⟨h1, h2⟩
    refine perm_sub (nd_pairs na) (fun p hp => ?_) (Nat.le_of_eq (by simpa using (of_decide_eq_true h1 : a.length = b.length).symm))
    have m : (Sum.inr p.1, V.str p.2) ∈ prs a := by
      unfold prs kvT
      rw [List.map_map]
      exact List.mem_map.mpr ⟨p, hp, rfl⟩
    have z := h2 _ m
    rw [rowEq_prs, decide_eq_true_eq] at z
    exact par_mem z
  · intro h
    refine ⟨by rw [h.length_eq]; simp, fun p hp => ?_⟩
    unfold prs kvT at hp
    rw [List.map_map] at hp
    obtain ⟨q, hq, rfl⟩ := List.mem_map.mp hp
    show rowEq (prs b) (Sum.inr q.1, V.str q.2) = true
    rw [rowEq_prs, decide_eq_true_eq]
    exact par_of nb (h.mem_iff.mp hq)
theorem eqDK_no {a b a' b' : List (Str × Str)} (oa : TreeOk a) (ob : TreeOk b) (pa : a'.Perm a) (pb : b'.Perm b) (h : eqDK (prs a) (prs b) = false) : eqDK (prs a') (prs b') = false ∧ eqDK (prs b') (prs a') = false := by
  have na' := (oa.perm pa.symm).nd
  have nb' := (ob.perm pb.symm).nd
  have no : ¬ a.Perm b := fun p => by
    rw [(eqDK_iff oa.nd ob.nd).mpr p] at h
    cases h
  constructor
  · cases e : eqDK (prs a') (prs b') with
    | false => rfl
    | true => exact absurd (pa.symm.trans (((eqDK_iff na' nb').mp e).trans pb)) no
  · cases e : eqDK (prs b') (prs a') with
    | false => rfl
    | true => exact absurd (pa.symm.trans (((eqDK_iff nb' na').mp e).symm.trans pb)) no
theorem asc_one {ts us : List (Str × Str)} (o : TreeOk ts) (p : us.Perm ts) (a : Asc ts) (b : Asc us) : us = ts := by
  have e : us.map Prod.fst = ts.map Prod.fst := sorted_one (p.map _) b a
  refine List.ext_getElem? fun i => ?_
  have ei : (us.map Prod.fst)[i]? = (ts.map Prod.fst)[i]? := by rw [e]
  rw [List.getElem?_map, List.getElem?_map] at ei
  cases h1 : us[i]? with
  | none =>
    rw [h1] at ei
    cases h2 : ts[i]? with
    | none => rfl
    | some q => rw [h2] at ei; cases ei
  | some q1 =>
    rw [h1] at ei
    cases h2 : ts[i]? with
    | none => rw [h2] at ei; cases ei
    | some q2 =>
      rw [h2] at ei
      have ek : q1.1 = q2.1 := Option.some.inj ei
      have z1 := par_of o.nd (p.mem_iff.mp (List.mem_of_getElem? h1))
      have z2 := par_of o.nd (List.mem_of_getElem? h2)
      rw [ek, z2] at z1
      exact congrArg some (Prod.ext ek (Option.some.inj z1).symm)
theorem chk_orV {K : PySem.W.Frag} {ta tb : TE} {σ : St} {H : Hp} {Q : VK} (G P1 : V → Hp → Prop) (ha : ∀ Q' : VK, (∀ x H1, P1 x H1 → Q' x H1) → ta σ H Q') (h1 : ∀ x H1, P1 x H1 → ∃ k, TruV K x H1 k ∧ (k = true → G x H1) ∧ (k = false → ∀ Q' : VK, (∀ y H2, G y H2 → Q' y H2) → tb σ H1 Q')) (k : ∀ y H2, G y H2 → Q y H2) : tOrT K ta tb σ H Q := ha _ fun x H1 p => by
  obtain ⟨kk, t, g, b⟩ := h1 x H1 p
  refine ⟨kk, t, ?_⟩
  cases kk with
  | false => exact iteF (b rfl _ k)
  | true => exact iteT (k _ _ (g rfl))
end FT


/-! names, parents: the names are of the two pools -/
namespace FT
open PySem L2 TL ClX
def spNamesP : Sp := fun vs H Q _ => ∃ (d c : Addr) (n : Nat), vs = [.ref d, .int (n : Int)] ∧ DrawAt H d c ∧ 1 ≤ n ∧ n ≤ 12 ∧
  ∀ (l : Addr) (fs : List Str) (H' : Hp), fs.length = n → fs.Nodup → (∀ z ∈ fs, NameL z) → (∀ z ∈ fs, PyData.strOk z = true) → (∀ z ∈ fs, z ∈ pool1 ∨ z ∈ pool2) → H l = none → H' l = some (.lst (fs.map V.str)) → DrawAt H' d c → Keep d c H H' → Q (.ref l) H'
def spParentsP : Sp := fun vs H Q _ => ∃ (d c : Addr) (n : Nat), vs = [.ref d, .int (n : Int)] ∧ DrawAt H d c ∧ 1 ≤ n ∧ n ≤ 12 ∧
  ∀ (q : Addr) (t : List (Str × Str)) (H' : Hp), TreeOk t → t.length = n → (∀ a ∈ t.map Prod.fst, a ∈ pool1 ∨ a ∈ pool2) → H q = none → H' q = some (.dK (prs t)) → DrawAt H' d c → Keep d c H H' → Q (.ref q) H'
section
variable {P : Program} {w : World} {K : PySem.W.Frag} {mg : Str → Option Value} {base : Heap}
theorem ok_namesP {f fT fO : Addr} {fd fdT fdO : FuncData} (F : Fun K "_law_names" "_law_names" s__law_names f fd) (T : Nm mg) (FT : Fun K "_law_take" "_law_take" s__law_take fT fdT) (bT : Binds K fdT ["_law_draw", "_law_size"] []) (gT : mg "_law_take" = some (.ref fT))
    (FO : Fun K "_law_order" "_law_order" s__law_order fO fdO) (bO : Binds K fdO ["_law_draw", "_law_some"] []) (gO : mg "_law_order" = some (.ref fO)) : FnOk P w K mg base CX0 3 f fd ["_law_draw", "_law_many"] spNamesP := by
  have GT : FnOk P w K mg base CX0 1 fT fdT ["_law_draw", "_law_size"] spDraw := ok_draw FT T
  have GO : FnOk P w K mg base CX0 2 fO fdO ["_law_draw", "_law_some"] (spOrder K) := ok_order FO T FT bT gT
  refine F.ok scNames (fun vs H Q E h => ?_) (fun cdv A outer s H vs Q E hr h => ?_)
  · obtain ⟨d, c, n, rfl, _⟩ := h
    rfl
  · obtain ⟨d, c, n, rfl, hD, n1, n12, k⟩ := h
    have hr1 : Room 1 _ := hr.mono (by decide)
    have hr2 : Room 2 _ := hr.mono (by decide)
    refine ⟨_, pss_cons (ps_set (i := 2) scNames.nd rfl (.inl rfl) (pe_lst (pa_cons pe_str (pa_cons pe_str (pa_cons pe_str (pa_cons pe_str (pa_cons pe_str (pa_cons pe_str (pa_cons pe_str (pa_cons pe_str (pa_cons pe_str (pa_cons pe_str (pa_cons pe_str (pa_cons pe_str (pa_cons pe_str (pa_cons pe_str (pa_cons pe_str pa_nil)))))))))))))))))
      (pss_cons (ps_if (pt_cmpR op_eq (pe_call GT hr1 rfl gT FT.kp bT .nil pass0 (pa_cons (pv 0) (pa_cons pe_int pa_nil))) pe_int (nomark _))
        (pss_one (ps_set (i := 2) scNames.nd rfl (.inl rfl) (pe_lst (pa_cons pe_str (pa_cons pe_str (pa_cons pe_str (pa_cons pe_str (pa_cons pe_str (pa_cons pe_str (pa_cons pe_str (pa_cons pe_str (pa_cons pe_str (pa_cons pe_str (pa_cons pe_str (pa_cons pe_str pa_nil))))))))))))))) pss_nil)
      (pss_one (ps_ret (pe_slice sl_list (pe_call GO hr2 rfl gO FO.kp bO .nil pass0 (pa_cons (pv 0) (pa_cons (pv 2) pa_nil))) po_none (po_some (pv 1)))))), ?_⟩
    have big : 1000 ≤ sizeLine := by decide
    -- the rest, from any pool
    have rest : ∀ (pool : List Str) (p : Addr) (H1 : Hp), H1 p = some (.lst (pool.map V.str)) → p ≠ d → p ≠ c → DrawAt H1 d c → Keep d c H H1 → 12 ≤ pool.length → pool.length < 900 → pool.Nodup → (∀ z ∈ pool, NameL z) → (∀ z ∈ pool, PyData.strOk z = true) → (∀ z ∈ pool, z ∈ pool1 ∨ z ∈ pool2) →
        tRet (tSl (rSlL K) (tCall (spOrder K) [] E0 (tCons (tVar 0) (tCons (tVar 2) tNil))) tNoPart (tPart (tVar 1))) { nx := fun _ H' => Q .non H', rt := Q } [some (.ref d), some (.int (n : Int)), some (.ref p)] H1 := by
      intro pool p H1 e1 pd pc d1 k1 l12 few nd ok sok inp
      refine ⟨_, rfl, _, rfl, d, c, p, pool, rfl, d1, .inl (SqL.of e1), few, sok, fun r ys H2 pm nr er d2 k2 => ?_⟩
      have ly := pm.length_eq
      have rd := d1.apart nr
      refine ⟨_, rfl, _, rfl, r, ys.map V.str, rfl, SqL.of er, fun q nq => ?_⟩
      rw [cut_take (by rw [List.length_map]; omega), ← List.map_take]
      have qd := d2.apart nq
      have sub : ∀ z ∈ ys.take n, z ∈ pool := fun z hz => pm.mem_iff.mp (List.mem_of_mem_take hz)
      exact k q _ _ (by rw [List.length_take]; omega) ((pm.nodup_iff.mpr nd).sublist (List.take_sublist _ _)) (fun z hz => ok z (sub z hz)) (fun z hz => sok z (sub z hz)) (fun z hz => inp z (sub z hz)) ((k1.trans k2).free nq qd.1 qd.2) upd_same (d2.mono (same_new nq)) ((k1.trans k2).trans (Keep.of_same (same_new nq)))
    refine ⟨by show 15 ≤ sizeLine; omega, fun p np => ?_⟩
    have s1 := same_new (o := .lst (pool1.map V.str)) np
    have pd := hD.apart np
    refine ⟨_, rfl, d, c, 2, rfl, hD.mono s1, by decide, by decide, fun i H2 i0 i1 d2 k2 => ?_⟩
    have e2 := k2 p _ pd.1 pd.2 (upd_same : upd H p (.lst (pool1.map V.str)) p = some (.lst (pool1.map V.str)))
    have K2 : Keep d c H H2 := (Keep.of_same s1).trans k2
    refine ⟨rfl, _, rfl, ?_⟩
    refine ite2 (fun _ => ?_) (fun _ => ?_)
    · refine ⟨by show 12 ≤ sizeLine; omega, fun q nq => ?_⟩
      have qd := d2.apart nq
      exact rest pool2 q _ upd_same qd.1 qd.2 (d2.mono (same_new nq)) (K2.trans (Keep.of_same (same_new nq))) (by decide) (by decide) pool_nd.2 pool_ok.2 pool_str.2 fun z hz => .inr hz
    · exact rest pool1 p _ e2 pd.1 pd.2 d2 K2 (by decide) (by decide) pool_nd.1 pool_ok.1 pool_str.1 fun z hz => .inl hz
theorem ok_parentsP {f fT fP fO fN : Addr} {fd fdT fdP fdO fdN : FuncData} (F : Fun K "_law_parents" "_law_parents" s__law_parents f fd) (T : Nm mg) (DT : Dn P w K mg base CX0 1 "_law_take" ["_law_draw", "_law_size"] spDraw fT fdT) (DP : Dn P w K mg base CX0 2 "_law_pick" ["_law_draw", "_law_some"] (spPick K) fP fdP)
    (DO : Dn P w K mg base CX0 2 "_law_order" ["_law_draw", "_law_some"] (spOrder K) fO fdO) (DN : Dn P w K mg base CX0 3 "_law_names" ["_law_draw", "_law_many"] spNamesP fN fdN) : FnOk P w K mg base CX0 4 f fd ["_law_draw", "_law_many"] spParentsP := by
  refine F.ok scPa (fun vs H Q E h => ?_) (fun cdv A outer s H vs Q E hr h => ?_)
  · obtain ⟨d, c, n, rfl, _⟩ := h
    rfl
  · obtain ⟨d, c, n, rfl, hD, n1, n12, k⟩ := h
    have hu := hu_of hr
    have hr1 : Room 1 _ := hr.mono (by decide)
    have hr2 : Room 2 _ := hr.mono (by decide)
    have big : 1000 ≤ sizeLine := by decide
    refine ⟨_, pss_cons (ps_asg (pe_tup (pa_cons (pe_call DN.ok hr rfl DN.mgn DN.kp DN.bn .nil pass0 (pa_cons (pv 0) (pa_cons (pv 1) pa_nil))) (pa_cons (pe_call DT.ok hr1 rfl DT.mgn DT.kp DT.bn .nil pass0 (pa_cons (pv 0) (pa_cons pe_int pa_nil))) (pa_cons pe_dnewK pa_nil))))
        (pg_tup rfl (pgs_cons (pg_name (i := 2) scPa.nd rfl (.inl rfl)) (pgs_cons (pg_name (i := 3) scPa.nd rfl (.inl rfl)) (pgs_cons (pg_name (i := 4) scPa.nd rfl (.inr rfl)) pgs_nil)))))
      (pss_cons (ps_for PassesOwn.never rfl (pi_enum rfl T.enu (pa_cons (pv 2) pa_nil)) (pg_tup rfl (pgs_cons (pg_name (i := 5) scPa.nd rfl (.inl rfl)) (pgs_cons (pg_name (i := 6) scPa.nd rfl (.inl rfl)) pgs_nil)))
        (pss_cons (ps_dput hu (pv 4) (pv 6) (pe_call DP.ok hr2 rfl DP.mgn DP.kp DP.bn .nil pass0 (pa_cons (pv 0) (pa_cons (pe_op op_cat (pe_lst (pa_cons pe_str pa_nil)) (pe_slice sl_list (pv 2) po_none (po_some (pv 5)))) pa_nil))) rfl)
        (pss_cons (ps_if (pt_cmpR op_eq (pv 3) pe_int (nomark _)) (pss_one (ps_dput hu (pv 4) (pv 6) (pe_ix ix_list (pe_op op_cat (pe_lst (pa_cons pe_str pa_nil)) (pv 2)) (pv 5) (fun _ _ => rfl)) rfl)) pss_nil)
        (pss_one (ps_if (pt_cmpR op_eq (pv 3) pe_int (nomark _)) (pss_one (ps_dput hu (pv 4) (pv 6) (pe_ix ix_list (pe_op op_cat (pe_lst (pa_cons pe_str (pa_cons pe_str pa_nil))) (pv 2)) (pv 5) (fun _ _ => rfl)) rfl)) pss_nil)))))
      (pss_one (ps_ret (pe_callTy (call_dictP rfl) (by rfl) T.dct (by decide +kernel) (pa_cons (pe_lc (own := [("_law_name", 6)]) (g := gName 6) (tt := tYes) (te := tTup (tCons (tVar 6) (tCons (tDGet (tVar 4) (tVar 6)) tNil))) rfl scPa.nd (pi_list (pe_call DO.ok hr2 rfl DO.mgn DO.kp DO.bn .nil pass0 (pa_cons (pv 0) (pa_cons (pv 2) pa_nil))))
        (blkOk_by (N := NPa) (sc := defScope s__law_parents) (by decide +kernel))
        (fun _ _ _ _ _ => pg_name (i := 6) scPa.nd rfl (Or.inl rfl)) (fun _ _ _ _ _ => pts_nil) (fun _ _ _ _ _ => pe_tup (pa_cons (pv 6) (pa_cons (pe_dget hu (pv 4) (pv 6) (fun _ _ => rfl)) pa_nil)))) pa_nil))))), ?_⟩
    refine ⟨_, rfl, _, rfl, d, c, n, rfl, hD, n1, n12, fun pn fs H1 ln nd ok sok inp npn hn dr1 k1 => ?_⟩
    have pnd := hD.apart npn
    refine ⟨_, rfl, d, c, 5, rfl, dr1, by decide, by decide, fun way H2 w0 w5 dr2 k2 q nq => ⟨by show 3 ≤ sizeLine; omega, fun tp ntp => ⟨tp, _, rfl, .inl (.inl upd_same), rfl, ?_⟩⟩⟩
    have hn2 := k2 pn _ pnd.1 pnd.2 hn
    have K2 : Keep d c H H2 := k1.trans k2
    obtain ⟨H3, e3⟩ : ∃ X, X = upd (upd H2 q (.dK [])) tp (.tup [.ref pn, .int way, .ref q]) := ⟨_, rfl⟩
    have s23 : Same H2 H3 := e3 ▸ (same_new nq).trans (same_new ntp)
    have dr3 := dr2.mono s23
    have qd := dr2.apart nq
    have hq3 : H3 q = some (.dK []) := by rw [e3]; exact same_new ntp _ _ upd_same
    have hn3 := s23 _ _ hn2
    rw [← e3]
    have nq0 : H q = none := K2.free nq qd.1 qd.2
    refine ⟨_, _, rfl, _, _, rfl, _, _, rfl, rfl, ?_⟩
    refine ⟨_, rfl, pn, fs.map V.str, rfl, SqL.of hn3, ?_⟩
    refine for_it walk_enum (fun j σ' H' => (∃ u5 u6, σ' = [some (.ref d), some (.int (n : Int)), some (.ref pn), some (.int way), some (.ref q), u5, u6]) ∧ DrawAt H' d c ∧ H' pn = some (.lst (fs.map V.str)) ∧ Keep d c H H' ∧
      ∃ t : List (Str × Str), H' q = some (.dK (prs t)) ∧ t.map Prod.fst = fs.take j ∧ ∀ (i : Nat) (p : Str × Str), t[i]? = some p → p.2 = "" ∨ p.2 ∈ fs.take i)
      ⟨⟨_, _, rfl⟩, dr3, hn3, K2.trans (Keep.of_same s23), [], hq3, by rw [List.take_zero] <;> rfl, fun i p h => by simp at h⟩ (fun j σ' H' _ q => SqL.of q.2.2.1) ?_ ?_
    · intro j TT σ' Ha Hb hj ⟨⟨u5, u6, e⟩, da, hna, ka, t, hq, et, up⟩ ⟨T', y, z, eT, nT, eH, ey, ez⟩
      subst e
      subst eT
      subst eH
      cases ey
      rw [List.length_map] at hj
      obtain ⟨f, hf, rfl⟩ := map_of (show (fs.map V.str)[j]? = some z from ez)
      have tlen := congrArg List.length et
      rw [List.length_map, List.length_take] at tlen
      have fresh : f ∉ t.map Prod.fst := fresh_at nd hf et
      obtain ⟨H4, e4⟩ : ∃ X, X = upd Ha T' (.tup [.int (j : Int), .str f]) := ⟨_, rfl⟩
      have sT : Same Ha H4 := e4 ▸ same_new nT
      have a4 : H4 T' = some (.tup [.int (j : Int), .str f]) := by rw [e4]; exact upd_same
      rw [← e4]
      have hna4 := sT _ _ hna
      have hq4 := sT _ _ hq
      have da4 := da.mono sT
      refine ⟨T', _, rfl, .inl (.inl a4), rfl, ?_⟩
      refine ⟨_, _, rfl, _, _, rfl, rfl, ?_⟩
      -- the drawn parent
      refine ⟨_, rfl, by show 1 ≤ sizeLine; omega, fun p1 m1 => ⟨_, rfl, _, rfl, _, rfl, pn, fs.map V.str, rfl, SqL.of (by rw [upd_ne (ne_of_none hna4 m1)]; exact hna4), fun p2 m2 => ⟨p1, p2, [.str ""], _, rfl, rfl, by rw [upd_ne (ne_of_none upd_same m2), upd_same], upd_same, ?_, fun pa ma => ?_⟩⟩⟩
      · have := cutV_length (fs.map V.str) none (some (j : Int))
        rw [List.length_map] at this
        show 1 + _ ≤ sizeLine
        omega
      rw [cut_take (by rw [List.length_map]; omega), ← List.map_take] at ma ⊢
      obtain ⟨H5, e5⟩ : ∃ X, X = upd (upd (upd H4 p1 (.lst [.str ""])) p2 (.lst ((fs.take j).map V.str))) pa (.lst ([.str ""] ++ (fs.take j).map V.str)) := ⟨_, rfl⟩
      have s5 : Same H4 H5 := e5 ▸ ((same_new m1).trans (same_new m2)).trans (same_new ma)
      have at5 : H5 pa = some (.lst ((("" : Str) :: fs.take j).map V.str)) := by rw [e5, upd_same] <;> rfl
      have pad : pa ≠ d ∧ pa ≠ c := ((da4.mono (same_new m1)).mono (same_new m2)).apart ma
      rw [← e5]
      have dr5 := da4.mono s5
      refine ⟨d, c, _, (("" : Str) :: fs.take j).length, (fun _ x => ∃ z, x = .str z ∧ z ∈ (("" : Str) :: fs.take j)), rfl, dr5, .inl ⟨pa, _, rfl, pad.1, pad.2, at5, by rw [List.length_map], items_strs fun z hz => hz⟩, Nat.succ_pos _, by rw [List.length_cons, List.length_take]; omega, fun i x H6 px dr6 k6 => ?_⟩
      obtain ⟨z, rfl, mz⟩ := px
      have hz0 : z = "" ∨ z ∈ fs.take j := List.mem_cons.mp mz
      have hq6 := k6 q _ qd.1 qd.2 (s5 _ _ hq4)
      have hn6 := k6 pn _ pnd.1 pnd.2 (s5 _ _ hna4)
      refine ⟨_, rfl, _, rfl, q, _, rfl, DPut.k (k := Sum.inr f) hq6 (by rw [prs_len]; omega), ?_⟩
      rw [put_new fresh]
      have K6 : Keep d c H H6 := ((ka.trans (Keep.of_same sT)).trans (Keep.of_same s5)).trans k6
      obtain ⟨H7, e7⟩ : ∃ X, X = upd H6 q (.dK (prs (t ++ [(f, z)]))) := ⟨_, rfl⟩
      have hq7 : H7 q = some (.dK (prs (t ++ [(f, z)]))) := by rw [e7]; exact upd_same
      have dr7 : DrawAt H7 d c := by rw [e7]; exact dr6.off qd.1 qd.2
      have qn : pn ≠ q := ne_of hn6 hq6 (by intro z; cases z)
      have hn7 : H7 pn = some (.lst (fs.map V.str)) := by rw [e7, upd_ne qn]; exact hn6
      have K7 : Keep d c H H7 := by rw [e7]; exact K6.put nq0
      rw [← e7]
      have lj : j < fs.length := by omega
      -- an item of the list with roots in front
      have row : ∀ (m : Nat) (hm : 1 ≤ m), ∃ zz, ((List.replicate m (V.str "")) ++ fs.map V.str)[j]? = some (.str zz) ∧ (zz = "" ∨ zz ∈ fs.take j) := fun m hm => by
        by_cases lt : j < m
        · exact ⟨"", by rw [List.getElem?_append_left (by rw [List.length_replicate]; exact lt), List.getElem?_replicate, if_pos lt], .inl rfl⟩
        · refine ⟨fs[j - m]'(by omega), ?_, .inr ?_⟩
          · rw [List.getElem?_append_right (by rw [List.length_replicate]; omega), List.length_replicate, List.getElem?_map, List.getElem?_eq_getElem (by omega)] <;> rfl
          · rw [List.mem_take_iff_getElem]
            exact ⟨j - m, by omega, rfl⟩
      -- the end of a turn
      have fin : ∀ (z' : Str) (H' : Hp), (z' = "" ∨ z' ∈ fs.take j) → DrawAt H' d c → H' pn = some (.lst (fs.map V.str)) → Keep d c H H' → H' q = some (.dK (prs (t ++ [(f, z')]))) →
          (∃ u5 u6, ([some (.ref d), some (.int (n : Int)), some (.ref pn), some (.int way), some (.ref q), some (.int (j : Int)), some (.str f)] : St) = [some (.ref d), some (.int (n : Int)), some (.ref pn), some (.int way), some (.ref q), u5, u6]) ∧ DrawAt H' d c ∧ H' pn = some (.lst (fs.map V.str)) ∧ Keep d c H H' ∧
          ∃ t : List (Str × Str), H' q = some (.dK (prs t)) ∧ t.map Prod.fst = fs.take (j + 1) ∧ ∀ (i : Nat) (p : Str × Str), t[i]? = some p → p.2 = "" ∨ p.2 ∈ fs.take i := fun z' H' hz' d' n' k' q' => by
        refine ⟨⟨_, _, rfl⟩, d', n', k', t ++ [(f, z')], q', by rw [List.map_append, et, take_more hf] <;> rfl, fun i p h => ?_⟩
        by_cases hi : i < t.length
        · rw [List.getElem?_append_left hi] at h
          exact up i p h
        · have hl := (List.getElem?_eq_some_iff.mp h).1
          rw [List.length_append] at hl
          have one : ([(f, z')] : List (Str × Str)).length = 1 := rfl
          have ei : i = t.length := by omega
          subst ei
          rw [List.getElem?_append_right (Nat.le_refl _), Nat.sub_self] at h
          have ep : (f, z') = p := Option.some.inj h
          subst ep
          rw [show t.length = j by omega]
          exact hz'
      refine ⟨_, rfl, rfl, _, rfl, ?_⟩
      refine ite2 (fun y0 => ?_) (fun n0 => ?_)
      · -- a chain
        have e0 : way = 0 := V.int.inj (of_decide_eq_true y0)
        subst e0
        obtain ⟨zz, hz, hz'⟩ := row 1 (Nat.le_refl _)
        refine ⟨by show 1 ≤ sizeLine; omega, fun p1 m1 => ⟨_, rfl, p1, pn, [.str ""], fs.map V.str, rfl, rfl, upd_same, by rw [upd_ne (ne_of_none hn7 m1)]; exact hn7, by rw [List.length_map]; show 1 + _ ≤ sizeLine; omega, fun p2 m2 => ?_⟩⟩
        obtain ⟨H8, e8⟩ : ∃ X, X = upd (upd H7 p1 (.lst [.str ""])) p2 (.lst ([.str ""] ++ fs.map V.str)) := ⟨_, rfl⟩
        have s8 : Same H7 H8 := e8 ▸ (same_new m1).trans (same_new m2)
        have a8 : H8 p2 = some (.lst ([.str ""] ++ fs.map V.str)) := by rw [e8]; exact upd_same
        rw [← e8]
        refine ⟨_, rfl, p2, _, _, .str zz, rfl, rfl, SqL.of a8, atI_nat hz, ?_⟩
        have hq8 := s8 _ _ hq7
        refine ⟨_, rfl, _, rfl, q, _, rfl, DPut.k (k := Sum.inr f) hq8 (by rw [prs_len, List.length_append]; show _ + 1 < _; omega), ?_⟩
        rw [put_old fresh]
        refine ⟨_, rfl, rfl, _, rfl, iteF ?_⟩
        exact fin zz _ hz' ((dr7.mono s8).off qd.1 qd.2) (by rw [upd_ne qn]; exact s8 _ _ hn7) ((K7.trans (Keep.of_same s8)).put nq0) upd_same
      · refine ⟨_, rfl, rfl, _, rfl, ?_⟩
        refine ite2 (fun y1 => ?_) (fun n1 => ?_)
        · -- two chains
          have e0 : way = 1 := V.int.inj (of_decide_eq_true y1)
          subst e0
          obtain ⟨zz, hz, hz'⟩ := row 2 (by omega)
          refine ⟨by show 2 ≤ sizeLine; omega, fun p1 m1 => ⟨_, rfl, p1, pn, [.str "", .str ""], fs.map V.str, rfl, rfl, upd_same, by rw [upd_ne (ne_of_none hn7 m1)]; exact hn7, by rw [List.length_map]; show 2 + _ ≤ sizeLine; omega, fun p2 m2 => ?_⟩⟩
          obtain ⟨H8, e8⟩ : ∃ X, X = upd (upd H7 p1 (.lst [.str "", .str ""])) p2 (.lst ([.str "", .str ""] ++ fs.map V.str)) := ⟨_, rfl⟩
          have s8 : Same H7 H8 := e8 ▸ (same_new m1).trans (same_new m2)
          have a8 : H8 p2 = some (.lst ([.str "", .str ""] ++ fs.map V.str)) := by rw [e8]; exact upd_same
          rw [← e8]
          refine ⟨_, rfl, p2, _, _, .str zz, rfl, rfl, SqL.of a8, atI_nat hz, ?_⟩
          have hq8 := s8 _ _ hq7
          refine ⟨_, rfl, _, rfl, q, _, rfl, DPut.k (k := Sum.inr f) hq8 (by rw [prs_len, List.length_append]; show _ + 1 < _; omega), ?_⟩
          rw [put_old fresh]
          exact fin zz _ hz' ((dr7.mono s8).off qd.1 qd.2) (by rw [upd_ne qn]; exact s8 _ _ hn7) ((K7.trans (Keep.of_same s8)).put nq0) upd_same
        · exact fin z H7 hz0 dr7 hn7 K7 hq7
    · intro σ' H4 ⟨⟨u5, u6, e⟩, da, hna, ka, t, hq, et, up⟩
      subst e
      rw [List.length_map, List.take_length] at et
      have lt := congrArg List.length et
      rw [List.length_map] at lt
      have tr : TreeOk t := tree_of (by omega) (by omega) (by rw [et]; exact nd) (by rw [et]; exact ok) (by rw [et]; exact up)
      refine ⟨_, rfl, _, rfl, d, c, pn, fs, rfl, da, .inl (SqL.of hna), by omega, sok, fun r ys H5 pm nr er d5 k5 => ⟨r, rfl, ⟨_, SqL.of er⟩, fun D nD => ?_⟩⟩
      have hq5 := k5 q _ qd.1 qd.2 hq
      have rd := da.apart nr
      have Dd := d5.apart nD
      have ly := pm.length_eq
      refine lc_it walk_list (fun i H' => Same H5 H' ∧ ∃ rs : List Addr, H' D = some (.lst (rs.map V.ref)) ∧ PrG (fun a => .str ((par t a).getD "")) H' rs (ys.take i)) ⟨same_new nD, [], upd_same, .nil⟩ (fun i H' _ z => SqL.of (z.1 _ _ er)) ?_ ?_
      · intro i y Ha Hb hi ⟨q1, rs, hD, pr⟩ ⟨eb, ex⟩
        subst eb
        obtain ⟨a, ha, rfl⟩ := map_of ex
        have ma : a ∈ t.map Prod.fst := by rw [et]; exact pm.mem_iff.mp (List.mem_of_getElem? ha)
        obtain ⟨pa, hp⟩ := par_some tr.nd ma
        have lr := pr.len
        rw [List.length_take] at lr
        refine ⟨rfl, ?_⟩
        refine ⟨_, rfl, _, rfl, _, rfl, q, .str pa, rfl, ?_, by show 2 ≤ sizeLine; omega, fun tq ntq => ?_⟩
        · have z := DGet.k (k := Sum.inr a) (q1 _ _ hq5)
          rw [val_prs, hp] at z
          exact z
        · have sq : Same Hb (upd Hb tq (.tup [.str a, .str pa])) := same_new ntq
          refine ⟨_, sq _ _ hD, by rw [List.length_map]; omega, (q1.trans sq).put nD, rs ++ [tq], by rw [upd_same, List.map_append] <;> rfl, ?_⟩
          rw [take_more ha]
          refine PrG.push (sq _ _ hD) (PrG.snoc ?_ (pr.mono sq))
          rw [upd_same, hp] <;> rfl
      · intro H6 ⟨q1, rs, hD, pr⟩
        rw [List.length_map, List.take_length] at pr
        refine ⟨D, rs, _, rfl, SqL.of hD, pr.kvs, fun p np => ?_⟩
        have ndy : ys.Nodup := pm.nodup_iff.mpr nd
        rw [merge_nd (by rw [map_fst]; exact ndy)]
        have K5 : Keep d c H H6 := (ka.trans k5).trans (Keep.of_same q1)
        have d6 := d5.mono q1
        have pd := d6.apart np
        have pairs : (ys.map fun a => (a, (par t a).getD "")).Perm t := by
          refine perm_pairs tr.nd ?_ fun x hx => ?_
          · rw [List.map_map, et]
            have e : (Prod.fst ∘ fun a : Str => (a, (par t a).getD "")) = id := rfl
            rw [e, List.map_id]
            exact pm
          · obtain ⟨a, ha, rfl⟩ := List.mem_map.mp hx
            obtain ⟨pa, hp⟩ := par_some tr.nd (show a ∈ t.map Prod.fst by rw [et]; exact pm.mem_iff.mp ha)
            rw [hp]
            exact par_mem hp
        refine k p (ys.map fun a => (a, (par t a).getD "")) _ (tr.perm pairs.symm) (by rw [List.length_map]; omega) (fun a ha => by
          obtain ⟨q0, hq0, e0⟩ := List.mem_map.mp ha
          obtain ⟨b0, hb0, e1⟩ := List.mem_map.mp hq0
          rw [← e0, ← e1]
          exact inp b0 (pm.mem_iff.mp hb0)) (K5.free np pd.1 pd.2) ?_ (d6.mono (same_new np)) (K5.trans (Keep.of_same (same_new np)))
        rw [upd_same]
        unfold prs
        rw [List.map_map] <;> rfl
end
end FT


/-! plain facts for k05 -/
namespace FT
open PySem L2 TL ClX LiI
section
variable {t : List (Str × Str)}
theorem selT_cnt (u : Int) (b : Bool) (bs ks : List Str) : (selT u b bs ks).length = (ks.filter fun a => decide (a ∉ bs)).length := by
  unfold selT
  rw [List.length_map]
theorem userT_cnt (u : Int) (ps gs : List Str) : (userT u ps gs).length = (ps.filter fun a => decide (a ∉ gs)).length + (gs.filter fun a => decide (a ∉ ps)).length := by
  unfold userT
  rw [List.length_append, selT_cnt, selT_cnt, List.filter_reverse, List.length_reverse]
theorem userT_dist (u : Int) (p q : Str) : ((userT u (pathOf t p) (pathOf t q)).length : Int) = dist t p q := by
  rw [userT_cnt]
  unfold dist
  omega
theorem dist_symm (p q : Str) : dist t p q = dist t q p := by
  unfold dist
  omega
theorem farS_symm : ∀ zs1 zs2 : List Str, farS t zs1 zs2 = farS t zs2 zs1
  | [], zs2 => by unfold farS; rw [List.zip_nil_left, List.zip_nil_right]
  | _ :: _, [] => by unfold farS; rw [List.zip_nil_left, List.zip_nil_right]
  | a :: zs1, b :: zs2 => by
    have h := farS_symm zs1 zs2
    unfold farS at h ⊢
    rw [List.zip_cons_cons, List.zip_cons_cons, List.map_cons, List.map_cons, List.sum_cons, List.sum_cons, h, dist_symm]
theorem chT_far {zs1 zs2 : List Str} (el : zs1.length = zs2.length) : ((chT t zs1 zs2 zs1.length).length : Int) = farS t zs1 zs2 := by
  have h : ∀ n, n ≤ zs1.length → ((chT t zs1 zs2 n).length : Int) = (((zs1.zip zs2).take n).map fun e => dist t e.1 e.2).sum := by
    intro n
    induction n with
    | zero => intro _; rw [List.take_zero] <;> rfl
    | succ n ih =>
      intro hn
      obtain ⟨a, ha⟩ : ∃ a, zs1[n]? = some a := ⟨_, List.getElem?_eq_getElem (by omega)⟩
      obtain ⟨b, hb⟩ : ∃ b, zs2[n]? = some b := ⟨_, List.getElem?_eq_getElem (by omega)⟩
      have hz : (zs1.zip zs2)[n]? = some (a, b) := by rw [List.getElem?_zip_eq_some]; exact ⟨ha, hb⟩
      have g1 : zs1.getD n "" = a := by rw [List.getD_eq_getElem?_getD, ha] <;> rfl
      have g2 : zs2.getD n "" = b := by rw [List.getD_eq_getElem?_getD, hb] <;> rfl
      rw [chT_succ, List.length_append, Int.natCast_add, ih (by omega), take_more hz, List.map_append, List.sum_append]
      unfold uT
      rw [g1, g2, userT_dist]
      simp
  have := h zs1.length (Nat.le_refl _)
  rw [this]
  unfold farS
  rw [List.take_of_length_le (by rw [List.length_zip]; omega)]
theorem farS_self (zs : List Str) : farS t zs zs = 0 := by
  unfold farS
  have d0 : ∀ p, dist t p p = 0 := fun p => by
    unfold dist
    rw [List.filter_eq_nil_iff.mpr fun x hx => by simp [hx]] <;> rfl
  induction zs with
  | nil => rfl
  | cons a zs ih =>
    rw [List.zip_cons_cons, List.map_cons, List.sum_cons, ih, d0] <;> rfl
theorem distT_user (o : TreeOk t) (u : Int) {p g : Str} (hp : Pl t p) (hg : Pl t g) : distT t p g = ((userT u (pathOf t p) (pathOf t g)).length : Int) := by
  unfold distT
  rw [userT_cnt, ← List.length_append]
  congr 1
  refine List.Perm.length_eq ((List.perm_ext_iff_of_nodup (o.nd.filter _) ?_).mpr fun b => ?_)
  · rw [List.nodup_append]
    refine ⟨(path_nd o hp).filter _, (path_nd o hg).filter _, fun x hx y hy e => ?_⟩
    subst e
    obtain ⟨m1, m2⟩ := List.mem_filter.mp hx
    exact absurd (List.mem_filter.mp hy).1 (of_decide_eq_true m2)
  · rw [List.mem_filter, List.mem_append, List.mem_filter, List.mem_filter]
    have k1 := path_all o hp b
    have k2 := path_all o hg b
    by_cases h1 : b ∈ pathOf t p <;> by_cases h2 : b ∈ pathOf t g <;> simp [h1, h2, k1, k2]
theorem sum_dist (o : TreeOk t) {zs1 zs2 : List Str} (pl1 : ∀ z ∈ zs1, Pl t z) (pl2 : ∀ z ∈ zs2, Pl t z) (n : Nat) : ((List.range n).map fun i => distT t (zs1.getD i "") (zs2.getD i "")).sum = ((chT t zs1 zs2 n).length : Int) := by
  have get : ∀ {zs : List Str} (i : Nat), (∀ z ∈ zs, Pl t z) → Pl t (zs.getD i "") := fun {zs} i pl => by
    rw [List.getD_eq_getElem?_getD]
    cases e : zs[i]? with
    | none => exact .inl rfl
    | some y => exact pl y (List.mem_of_getElem? e)
  induction n with
  | zero => rfl
  | succ n ih =>
    rw [List.range_succ, List.map_append, List.sum_append, ih, chT_succ, List.length_append, Int.natCast_add, List.map_cons, List.map_nil, List.sum_cons, List.sum_nil, Int.add_zero, distT_user o (n : Int) (get n pl1) (get n pl2)] <;> rfl
theorem chT_perm {ts : List (Str × Str)} (o : TreeOk ts) (p : ts.Perm t) (zs1 zs2 : List Str) (n : Nat) : chT t zs1 zs2 n = chT ts zs1 zs2 n := by
  unfold chT
  congr 1
  funext i
  unfold uT
  rw [path_perm o.nd p, path_perm o.nd p]
/-! ### one flag more -/
theorem zz_name : NameL "zzzz" := by decide +kernel
theorem zz_new (inp : ∀ a ∈ t.map Prod.fst, a ∈ pool1 ∨ a ∈ pool2) : ("zzzz" : Str) ∉ t.map Prod.fst := fun h => by
  rcases inp _ h with m | m
  · revert m
    decide +kernel
  · revert m
    decide +kernel
theorem zz_ok (o : TreeOk t) (lt : t.length < 12) (n : ("zzzz" : Str) ∉ t.map Prod.fst) : TreeOk (t ++ [(("zzzz" : Str), ("" : Str))]) := by
  obtain ⟨rk, hr⟩ := o.up
  refine ⟨by rw [List.length_append]; show 1 ≤ _ + 1; omega, by rw [List.length_append]; show _ + 1 ≤ 12; omega, ?_, fun z hz => ?_, fun a => if a = "zzzz" then 0 else rk a, fun q hq => ?_⟩
  · rw [List.map_append, List.nodup_append]
    exact ⟨o.nd, List.pairwise_singleton _ _, fun x hx y hy e => by
      have : y = "zzzz" := List.mem_singleton.mp hy
      rw [e, this] at hx
      exact n hx⟩
  · rw [List.map_append] at hz
    rcases List.mem_append.mp hz with h | h
    · exact o.nm z h
    · have : z = "zzzz" := List.mem_singleton.mp h
      rw [this]
      exact zz_name
  · have l : (t ++ [(("zzzz" : Str), ("" : Str))]).length = t.length + 1 := by rw [List.length_append] <;> rfl
    rw [l]
    rcases List.mem_append.mp hq with h | h
    · obtain ⟨h1, h2⟩ := hr q h
      have n1 : q.1 ≠ "zzzz" := fun z => n (by rw [← z]; exact List.mem_map.mpr ⟨q, h, rfl⟩)
      refine ⟨by show (if q.1 = "zzzz" then 0 else rk q.1) < _; rw [if_neg n1]; omega, h2.imp id fun h => ⟨by rw [List.map_append]; exact List.mem_append_left _ h.1, ?_⟩⟩
      show (if q.2 = "zzzz" then 0 else rk q.2) < (if q.1 = "zzzz" then 0 else rk q.1)
      rw [if_neg n1, if_neg fun z => n (by rw [← z]; exact h.1)]
      exact h.2
    · have : q = (("zzzz" : Str), ("" : Str)) := List.mem_singleton.mp h
      rw [this]
      exact ⟨by show (if ("zzzz" : Str) = "zzzz" then 0 else rk "zzzz") < _; rw [if_pos rfl]; omega, .inl rfl⟩
theorem zz1_ok : TreeOk [(("zzzz" : Str), ("" : Str))] := by
  refine ⟨by decide, by decide, by decide, fun z hz => ?_, fun _ => 0, fun q hq => ?_⟩
  · have : z = "zzzz" := List.mem_singleton.mp hz
    rw [this]
    exact zz_name
  · have : q = (("zzzz" : Str), ("" : Str)) := List.mem_singleton.mp hq
    rw [this]
    exact ⟨by decide, .inl rfl⟩
theorem eqDK_len {a b : List (Str × Str)} (h : a.length ≠ b.length) : eqDK (prs a) (prs b) = false := by
  unfold eqDK
  rw [prs_len, prs_len]
  simp [h]
end
end FT


/-! a generator def called by keywords alone -/
namespace Sg
open PySem PyProof.Rows GenW L2
section
variable {X : Cx} {k : Nat} {f : Addr} {fd : FuncData} {ps ks : List Str} {sp : SpG2} {x : Str} {p pos : Pos} {kw : Keyword} {kws : List Keyword} {tk : TA} {g : List Value → List Value → List Value} {gV : List V → List V → List V}
theorem run_gfn2K {pins : List (Addr × Obj)} {σ : L2.St} {H : Hp} {s : Shared} {ws : List Value} {zs : List V} {J : It2 → Prop} {E1 : Value → Shared → Prop} (F : GFn2 X.prog X.w X.K X.mg X.base k f fd ps sp) (hr : Room k X.A) (hb : KBn X.K fd ps 0 ks g gV)
    (I : Inv X pins σ H s) (r : Vals zs ws) (l : zs.length = ks.length) (h : sp (gV [] zs) H J) :
    wpAny (model X.prog X.w) X.A (call (.ref f) [] (ks.zip ws)) (fun u s' => GMade2 X.prog X.w X.K X.mg X.base k X.stack H s J u s') E1 s := by
  have r2 : Vals (gV [] zs) (g [] ws) := hb.rel .nil r
  refine wpAny_call (codeAny_mono (F.run X.A X.stack s H ⟨[], ks.zip ws⟩ (g [] ws) (gV [] zs) J hr I.env0 (hb.to s [] ws I.kIn rfl (r.length.symm.trans l)) r2 h) fun r s' hq => ?_)
  cases r with
  | error e => exact False.elim hq
  | ok fl =>
    cases fl with
    | ret u => exact hq
    | next => exact False.elim hq
    | brk => exact False.elim hq
    | cont => exact False.elim hq
def tCallGK (m : Nat) (sp : SpG2) (gV : List V → List V → List V) (tk : TA) : TGen2 := fun σ H R => tk σ H fun zs H1 => zs.length = m ∧ ∃ C, sp (gV [] zs) H1 C ∧ R C H1
/-- f(k = v, ..) of a generator def -/
theorem pgen2_callK0 (F : GFn2 X.prog X.w X.K X.mg X.base k f fd ps sp) (hr : Room k X.A) (hg : Gl X x) (hm : X.mg x = some (.ref f)) (hk : PySem.W.keepIn X.K (.ref f) = true) (hb : KBn X.K fd ps 0 ks g gV)
    (hkw : PK X (kw :: kws) tk) (hall : (backToKw pos (keywordEach (kw :: kws) X.env)).all (·.1.isSome) = true := by rfl) (hks : (backToKw pos (keywordEach (kw :: kws) X.env)).filterMap (·.1) = ks := by rfl)
    (hdb : (x == ("__debug__" : Str)) = false := by decide) (hpl : ((backTo pos (starEach [] X.env)).any (·.1) || (backToKw pos (keywordEach (kw :: kws) X.env)).any (·.1.isNone)) = false := by rfl) :
    PGen2 X k (.Call (.Name x p) [] (kw :: kws) pos) (tCallGK ks.length sp gV tk) := by
  refine ⟨fun pins s σ H R E hE I h => wpAny_mono (E := X.xe) ?_ (fun _ _ q => q) hE⟩
  refine wpAny_Call_Name_kw (ld_glob I hg hm ?_ hdb)
  refine PySem.W.callWith_KW0 (h₀ := X.base) I.ok.mod.kin hk hall ?_ hpl
  refine thn (hkw.run pos pins s σ H _ I h) fun ws s2 ⟨zs, H2, J, rz, l2, C, hsp, hR⟩ => ⟨J.kIn, ?_⟩
  rw [hks]
  exact wpAny_mono (run_gfn2K (E1 := X.xe) F hr hb J rz l2 hsp) (fun u s' q => ⟨H2, s2, C, J, q, hR⟩) fun _ _ z => z
end
end Sg


/-! [row for row in changes(..)] -/
namespace FT
open PySem L2 TL ClX LiI Sg
theorem lcg_rows {σ : St} {j : Nat} {H1 : Hp} {D CM : Addr} {Qd : Hp → Prop} {rows : List Tg} (hj : j < σ.length) (nD : H1 D = none) (few : rows.length ≤ 2000) (k : ∀ rs H', Same H1 H' → H' D = some (.lst (rs.map V.ref)) → Paired (RowT H') rs rows → Qd H') :
    ∃ J : It2, (∃ mu : Addr → Prop, (∀ b, mu b → H1 b = none) ∧ J = itCh true CM rows mu) ∧ ∃ W : Nat → Nat → Hp → Hp → Prop, (∃ m, W 0 m H1 (upd H1 D (.lst []))) ∧ ∀ i m Hs H, W i m Hs H →
      J.wk i Hs H ∧ (∀ cls d H', ¬ J.ex i H cls d H') ∧ (∀ H', J.fin i H H' → H' D ≠ none ∧ Qd H') ∧ ∀ x H', J.yld i H x H' → H' D ≠ none ∧ ∃ Nx : Hp → Prop, (∀ H'', Nx H'' → ∃ m', m' < m ∧ W (i + 1) m' H' H'') ∧
        gName j x (wipe σ [j]) H' fun σ2 H2 => wipe σ2 [j] = wipe σ [j] ∧ tYes σ2 H2 fun b H3 => if b = true then tVar j σ2 H3 fun y H4 => ∃ acc, H4 D = some (.lst acc) ∧ acc.length < sizeLine ∧ Nx (upd H4 D (.lst (acc ++ [y]))) else Nx H3 := by
  have big : 4000 ≤ sizeLine := by decide
  refine ⟨_, ⟨fun b => b = D, fun b e => by rw [e]; exact nD, rfl⟩, fun i m Hs Hc => m = rows.length - i ∧ i ≤ rows.length ∧ KpM (fun b => b = D) Hs Hc ∧ Same H1 Hc ∧ ∃ rs : List Addr, Hc D = some (.lst (rs.map V.ref)) ∧ Paired (RowT Hc) rs (rows.take i),
    ⟨rows.length, by omega, Nat.zero_le _, fun b u e n => by rw [upd_ne n]; exact e, same_new nD, [], upd_same, .nil⟩, ?_⟩
  rintro i m Hs Hc ⟨rfl, hi, km, sc, rs, hD, pr⟩
  have wkD : ∀ b, b = D → Hc b ≠ none := fun b e => by
    rw [e, hD]
    exact fun z => nomatch z
  have lr := pair_lenZ pr
  rw [List.length_take] at lr
  refine ⟨⟨km, wkD⟩, fun _ _ _ z => (by cases z.1), fun H' hf => ?_, fun xv H' hy => ?_⟩
  · obtain ⟨_, ei, sf⟩ := hf
    have ei : i = rows.length := ei
    rw [ei, List.take_length] at pr
    exact ⟨(fun z => by rw [sf _ _ hD] at z; cases z), k rs H' (sc.trans sf) (sf _ _ hD) (RowT.same sf pr)⟩
  · obtain ⟨_, sy, r, z, rfl, hz, hr⟩ := hy
    have hz : rows[i]? = some z := hz
    have il := (List.getElem?_eq_some_iff.mp hz).1
    have hD' := sy _ _ hD
    have rD : ∀ {r : Addr} {z : Tg}, RowT H' r z → r ≠ D := fun h e => by
      have h : H' _ = _ := h
      rw [e, hD'] at h
      cases h
    refine ⟨(fun z => by rw [hD'] at z; cases z), fun H'' => rows.length - (i + 1) = rows.length - (i + 1) ∧ i + 1 ≤ rows.length ∧ KpM (fun b => b = D) H' H'' ∧ Same H1 H'' ∧ ∃ rs : List Addr, H'' D = some (.lst (rs.map V.ref)) ∧ Paired (RowT H'') rs (rows.take (i + 1)), fun H'' w => ⟨rows.length - (i + 1), by omega, w⟩, ?_⟩
    refine ⟨by show (((σ.set j none).set j (some (.ref r))).set j none) = σ.set j none; rw [List.set_set, List.set_set], ?_⟩
    have hs : ((σ.set j none).set j (some (.ref r)))[j]? = some (some (.ref r)) := List.getElem?_set_self (by rw [List.length_set]; exact hj)
    refine ⟨_, hs, _, hD', by rw [List.length_map]; omega, rfl, il, fun b u e n => by rw [upd_ne n]; exact e, (sc.trans sy).put nD, rs ++ [r], by rw [upd_same, List.map_append] <;> rfl, ?_⟩
    rw [take_more hz]
    exact pair_appW (pair_impW (fun r' z' e => by
      show upd H' D _ r' = _
      rw [upd_ne (rD e)]
      exact e) (RowT.same sy pr)) (.cons (by
      show upd H' D _ r = _
      rw [upd_ne (rD hr)]
      exact hr) .nil)
/-- it raises -/
theorem lcg_raise {K : PySem.W.Frag} {H1 : Hp} {CM : Addr} {rows : List Tg} {W : XK} (ns : PySem.W.subIn K (.ref CM) (.type "StopIteration") = some false) (k : ∀ H', Same H1 H' → W (.ref CM) none H') :
    ∀ D, H1 D = none → ∃ J : It2, (∃ mu : Addr → Prop, (∀ b, mu b → H1 b = none) ∧ J = itCh false CM rows mu) ∧ J.wk 0 H1 (upd H1 D (.lst [])) ∧ (∀ x H', ¬ J.yld 0 (upd H1 D (.lst [])) x H') ∧ (∀ H', ¬ J.fin 0 (upd H1 D (.lst [])) H') ∧
      ∀ cls d H', J.ex 0 (upd H1 D (.lst [])) cls d H' → PySem.W.subIn K cls (.type "StopIteration") = some false ∧ W cls d H' := fun D nD => by
  refine ⟨_, ⟨fun b => b = D, fun b e => by rw [e]; exact nD, rfl⟩, ⟨fun b u e n => by rw [upd_ne n]; exact e, fun b e => by rw [e, upd_same]; exact fun z => nomatch z⟩, fun x H' z => (by cases z.1), fun H' z => (by cases z.1), ?_⟩
  rintro cls d H' ⟨_, rfl, rfl, s⟩
  exact ⟨ns, k H' ((same_new nD).trans s)⟩
end FT


/-! Own: a lambda handed to a def that calls it in a try: what is raised is wished for at the caller's very slots (the library's rule asks it for all slots). -/
namespace L2
open PySem PySem.Spec PyProof.Rows LamX
section
variable {X : Cx} {pins : List (Addr × Obj)} {σ : St} {H : Hp} {s : Shared}
theorem pe_actS {CXg : CXT} {Eg : XK} {Ng : List Str} {qg : Str} {sg : Scope} {g f c' : Addr} {cdg pm ctv : Value} {params : Arguments} {body : Expr} {scope : Scope} {k i : Nat} {a : Str} {pn : List (Addr × Obj)} {xe : Value → Shared → Prop} {W : WX} {tb : XK → TE} {p1 p2 : Pos}
    (I : Inv X pins σ H s) (L : LamS X.env.scope scope) (here : s.heap.get? f = some (PySem.W.kla_obj "<lambda>" (X.env.qual ++ "<lambda>") params body scope (cloFrom X.env.cells scope.names []) pm c' ctv)) (fno : H f = none) (ffr : f ∉ frs X.stack)
    (bd : bindArgs (PySem.W.kla_fn "<lambda>" (X.env.qual ++ "<lambda>") params body scope (cloFrom X.env.cells scope.names []) pm (.ref c') ctv) ⟨[], []⟩ = pure []) (tk : Takes ((cxOf CXg X.prog X.w X.K X.mg X.base Ng qg sg g cdg X.A X.stack s H Eg).tr pn xe) W)
    (room : Room (k + 1) (X.A.deeper (envOfC qg sg s.heap.objs.size g cdg))) (walk : ∀ (A : Around) (outer : List Env) (s : Shared) (H : Hp) (E : XK), Room k (A.deeper (lamEnv X scope s.heap.objs.size f c')) → PE (lamCx X A outer s H E scope f c') body (tb E))
    (hN : Ng[i]? = some a) (hv : Vis sg a) (hd : (a == ("__debug__" : Str)) = false := by decide) (hcd : (a == ("__classdict__" : Str)) = false := by decide) :
    PE ((cxOf CXg X.prog X.w X.K X.mg X.base Ng qg sg g cdg X.A X.stack s H Eg).tr pn xe) (.Call (.Name a p1) [] [] p2)
      (fun τ HZ Q => ∃ (Ech : XK) (Qn : VK), (∀ cls d H', Ech cls d H' → W cls d τ H') ∧ (∀ v H', Qn v H' → Q v H') ∧ τ[i]? = some (some (.ref f)) ∧ HZ c' = some (CodeO c' (X.env.qual ++ "<lambda>")) ∧ tb Ech σ HZ Qn) := by
  constructor
  intro pz sz τ HZ Q IZ ⟨Ech, Qn, imp, impQ, slot, code, want⟩
  refine wpAny_Call_Name_kw (thn ((pe_var (pos := p1) (i := i) hN hv hd hcd).run pz sz τ HZ (fun v H1 => v = .ref f ∧ H1 = HZ) IZ ⟨.ref f, slot, rfl, rfl⟩) fun u s1 ⟨v, H1, I1, r1, ev, eH⟩ => ?_)
  subst ev
  subst eH
  cases (show u = Value.ref f from r1)
  have still : s1.heap.get? f = some (PySem.W.kla_obj "<lambda>" (X.env.qual ++ "<lambda>") params body scope (cloFrom X.env.cells scope.names []) pm c' ctv) := I1.base.keep f _ here fno ffr (by simp [cxOf, Cx.tr])
  have grown : Un (frs X.stack) [] H H1 s.heap s1.heap := I1.base
  obtain ⟨⟨oc, ws, t, e1, e2, e3⟩, _, _⟩ := I1.hok c' _ code
  refine PySem.W.callWith_F0 ⟨_, _, _, _, still⟩ (wpAny_call (codeAny_mono (R := CR (L2.CX X.prog X.w) (envOfC qg sg s.heap.objs.size g cdg :: X.stack) X.prog X.w H1 s1 Qn Ech) ?_ fun r s' z => ?_))
  · show codeAny _ _ (.call (.ref f) ⟨[], []⟩) _ s1
    refine PySem.W.kla_callFunE room.depth still rfl L.co L.gen rfl ⟨c', oc, ws, t, rfl, e1, e2, e3⟩ ?_
    rw [bd]
    refine wpAny_pure (wpAny_newFunctionEnv (fun y hy => (L.own y hy).2) (fun y hy => absurd hy (by simp)) (fun h₁ ns sb => ⟨I1.nolimit.fresh _ sb, ?_⟩) L.kind)
    have kp : ∀ b o, s1.heap.get? b = some o → h₁.get? b = some o := fun b o e => sb.extBut b o (Nat.ne_of_lt (Heap.lt_size e)) (Heap.get?_push_of_some _ e)
    have J : Inv (lamCx X (X.A.deeper (envOfC qg sg s.heap.objs.size g cdg)) (envOfC qg sg s.heap.objs.size g cdg :: X.stack) s1 H1 Ech scope f c') [] σ H1 { s1 with heap := h₁, toks := s1.toks + ([] : List (Str × Value)).length } := lam_start2 I L I1.env0 room.hd grown ns kp
    exact PySem.W.kla_codeExpr (wpAny_mono ((walk _ _ s1 H1 _ (room.deeper _)).run [] _ _ H1 Qn J want) (fun v s' ⟨w, H', J', rv, q⟩ => ⟨w, H', J'.os, J'.bare, J'.base, J'.hok, rv, q⟩) fun _ _ z => z)
  · match r, z with
    | .error e, z => exact tk e s' (XE.of_call I1 (fun cls d H' h => imp cls d H' h) z)
    | .ok (.ret u), z =>
      obtain ⟨v, H2, J2, rv, q⟩ := I1.after z
      exact ⟨v, H2, J2, rv, impQ v H2 q⟩
    | .ok .next, z => exact z.elim
    | .ok .brk, z => exact z.elim
    | .ok .cont, z => exact z.elim
end
/-- the def that calls what it got, in its slot 0 -/
def GivesS (X : Cx) (Ng : List Str) (x : Str) (sg : Scope) (g : Addr) (cdg : Value) (bg : List Stmt) (a : Str) (q : Str) (TT : (XK → Hp → VK → Prop) → Hp → VK → Prop) : Prop :=
  ∀ (f c' : Addr) (s : Shared) (H : Hp) (Q : VK) (tl : XK → Hp → VK → Prop),
    (∀ (W : WX) (pn : List (Addr × Obj)) (xe : Value → Shared → Prop) (p1 p2 : Pos), Takes ((cxOf C8.CX0 X.prog X.w X.K X.mg X.base Ng x sg g cdg X.A X.stack s H C8.E0).tr pn xe) W →
      PE ((cxOf C8.CX0 X.prog X.w X.K X.mg X.base Ng x sg g cdg X.A X.stack s H C8.E0).tr pn xe) (.Call (.Name a p1) [] [] p2) (fun τ HZ Q => ∃ (Ech : XK) (Qn : VK), (∀ cls d H', Ech cls d H' → W cls d τ H') ∧ (∀ v H', Qn v H' → Q v H') ∧ τ[0]? = some (some (.ref f)) ∧ HZ c' = some (CodeO c' q) ∧ tl Ech HZ Qn)) →
    H c' = some (CodeO c' q) → TT tl H Q → ∃ t, PSs (cxOf C8.CX0 X.prog X.w X.K X.mg X.base Ng x sg g cdg X.A X.stack s H C8.E0).nox bg t ∧ t { nx := fun _ H' => Q .non H', rt := Q } (L2.start Ng [.ref f]) H
/-- x(lambda: body), x such a def -/
theorem pe_lamS {X : Cx} {T : List (Addr × Str)} {TT : (XK → Hp → VK → Prop) → Hp → VK → Prop} {x a : Str} {g c P : Addr} {k : Nat} {st : Stmt} {fd : FuncData} {Ng : List Str} {params : Arguments} {body : Expr} {scope : Scope} {t : XK → TE} {p lpos pos : Pos} (hg : Gl X x) (hm : X.mg x = some (.ref g))
    (F : Fun X.K x x st g fd) (hb : Binds X.K fd [a] []) (Sg : FnScope Ng [a] (defScope st)) (hNg : Ng[0]? = some a) (hva : Vis (defScope st) a) (gives : ∀ cdg, GivesS X Ng x (defScope st) g cdg (defBody st) a (X.env.qual ++ "<lambda>") TT)
    (TB : TabB X.base X.mg c P) (code : X.env.code = .ref c) (mT : (P, X.env.qual ++ "<lambda>") ∈ T) (uT : ∀ p ∈ T, p.1 = P → p.2 = X.env.qual ++ "<lambda>") (room : Room (k + 2) X.A) (L : LamS X.env.scope scope) (dfl : defaultsOf params X.env = ([], []))
    (bd : ∀ (q : Str) (cl : List (Str × Addr)) (pm cv ctv : Value), bindArgs (PySem.W.kla_fn "<lambda>" q params body scope cl pm cv ctv) ⟨[], []⟩ = pure [])
    (walk : ∀ (A : Around) (outer : List Env) (s : Shared) (H : Hp) (E : XK) (f c' : Addr), Room k (A.deeper (lamEnv X scope s.heap.objs.size f c')) → PE (lamCx X A outer s H E scope f c') body (t E))
    (hdb : (x == ("__debug__" : Str)) = false := by decide) (hd : (a == ("__debug__" : Str)) = false := by decide) (hcd : (a == ("__classdict__" : Str)) = false := by decide) : PE X (.Call (.Name x p) [.Lambda params body scope lpos] [] pos) (tLam T TT t) := by
  constructor
  intro pins s σ H Q I ⟨hT, want⟩
  refine wpAny_Call_Name_kw (ld_glob I hg hm ?_ hdb)
  refine PySem.W.callWith_K (h₀ := X.base) I.ok.mod.kin F.kp (pos := pos) ?_ (by rfl) (by rfl)
  show wpAny _ _ (spliced ((false, eval (.Lambda params body scope lpos) X.env) :: backTo pos (starEach [] X.env))) _ _ s
  refine Calls.spliced_cons (lam_make2 I TB code mT uT hT dfl (L.has I.ok) fun f c' pm' ctv H1 s' I1 eN T1 of fn fr co => Calls.spliced_nil ⟨I1.kIn, wpAny_call (codeAny_mono (R := CR C8.CX0 X.stack X.prog X.w H1 s' Q C8.E0) ?_ fun r s2 z => ?_)⟩)
  · obtain ⟨oc, od, kV, doc, pm, an, cdv, ct, osl, rfl, lk, cin⟩ := F.ex
    refine run_ofS (N := Ng) (ps := [a]) (us := [.ref f]) (vs := [.ref f]) lk cin Sg room I1.env0 (hb s' [.ref f] I1.kIn rfl) (.cons rfl .nil) rfl fun room' => ?_
    obtain ⟨t', term, q⟩ := gives cdv f c' s' H1 Q (fun E H' Q' => t E σ H' Q') (fun W pn xe p1 p2 tk => pe_actS (i := 0) I1 L of fn fr (bd _ _ _ _ _) tk room' (fun A outer s H E hr2 => walk A outer s H E f c' hr2) hNg hva hd hcd) co (want H1 eN T1)
    exact ⟨t', term.nox, q⟩
  · match r, z with
    | .error e, z => exact (show False from z).elim
    | .ok (.ret u), z => exact I1.after z
    | .ok .next, z => exact z.elim
    | .ok .brk, z => exact z.elim
    | .ok .cont, z => exact z.elim
end L2


/-! _law_error: what it makes of a lambda -/
namespace FT
open PySem L2 TL ClX LamX NdefX
/-- an error that is caught: one of the classes C i, with its word -/
def TError (C : Nat → Addr) (wd : Nat → Str) (n : Nat) : (XK → Hp → VK → Prop) → Hp → VK → Prop := fun tl H Q =>
  tl (fun cls d H' => ∃ i, i < n ∧ cls = .ref (C i) ∧ (d = none ∨ ∃ dd fs, d = some dd ∧ H' dd = some (.xd fs)) ∧ ∀ H'', Same H' H'' → Q (.str (wd i)) H'') H fun _ H' => ∀ H'', Same H' H'' → Q .non H''
/-- the five classes of _law_error -/
def cn5 (i : Nat) : Str := (["InvalidUsers", "InvalidSizes", "Mismatch", "InvalidNumber", "NotBest"] : List Str).getD i ""
def wd5 (i : Nat) : Str := (["users", "sizes", "mismatch", "number", "notbest"] : List Str).getD i ""
structure Cl5 (K : PySem.W.Frag) (mg : Str → Option Value) (R : Addr) (C : Nat → Addr) : Prop where
  gR : mg "RolloutError" = some (.ref R)
  g : ∀ i, i < 5 → mg (cn5 i) = some (.ref (C i))
  x : ∀ i, i < 5 → XCls K (C i)
  kit : ∀ i j, i < 5 → j < 5 → PySem.W.kitOne K (.ref (C i)) (.ref (C j)) = some (decide (i = j))
  kitV : ∀ i, i < 5 → PySem.W.kitOne K (.ref (C i)) (.type "ValueError") = some true
  te : ∀ i, i < 5 → PySem.W.exmOne K (.ref (C i)) (.ref R) = some true
theorem XV_mono {H H' : Hp} {a C : Addr} {fs : List (Str × V)} (s : Same H H') (x : XV H a C fs) : XV H' a C fs := by
  rcases x with ⟨x, e⟩ | ⟨dx, x, y⟩
  · exact .inl ⟨x.elim (fun q => .inl (s _ _ q)) (fun q => .inr (s _ _ q)), e⟩
  · exact .inr ⟨dx, x.elim (fun q => .inl (s _ _ q)) (fun q => .inr (s _ _ q)), y.elim (fun q => .inl (s _ _ q)) (fun q => .inr (s _ _ q))⟩
def marks5 (i : Nat) : List V := (List.range 5).map fun j => .bl (decide (i = j))
theorem upTo5 {Pr : Nat → Prop} (h0 : Pr 0) (h1 : Pr 1) (h2 : Pr 2) (h3 : Pr 3) (h4 : Pr 4) : ∀ i, i < 5 → Pr i := by
  intro i hi
  match i, hi with
  | 0, _ => exact h0
  | 1, _ => exact h1
  | 2, _ => exact h2
  | 3, _ => exact h3
  | 4, _ => exact h4
theorem marks_flat (i : Nat) : (marks5 i).all flatV = true := rfl
theorem marks_count : ∀ i, i < 5 → (marks5 i).countP (fun z => eqV z (.bl true)) = 1 := upTo5 rfl rfl rfl rfl rfl
theorem marks_at : ∀ i, i < 5 → (marks5 i)[i]? = some (.bl true) ∧ ∀ (m : Nat) (z' : V), m < i → (marks5 i)[m]? = some z' → eqV z' (.bl true) = false := fun i hi => by
  have e : ∀ m, m < 5 → (marks5 i)[m]? = some (.bl (decide (i = m))) := upTo5 rfl rfl rfl rfl rfl
  refine ⟨by rw [e i hi, decide_eq_true rfl], fun m z' lt h => ?_⟩
  rw [e m (by omega), decide_eq_false (by omega)] at h
  cases h
  rfl
theorem words_at : ∀ i, i < 5 → ([V.str "users", .str "sizes", .str "mismatch", .str "number", .str "notbest"] : List V)[i]? = some (.str (wd5 i)) := upTo5 rfl rfl rfl rfl rfl
/-- [..] + [..]: the second list new -/
theorem cat_seg {H : Hp} {l : Addr} {xs ys : List V} {Q : VK} (hl : H l = some (.lst xs)) (few : xs.length + ys.length ≤ 1000) (k : ∀ p H', Same H H' → H p = none → H' p = some (.lst (xs ++ ys)) → Q (.ref p) H') :
    ys.length ≤ sizeLine ∧ ∀ q, H q = none → rCat (.ref l) (.ref q) (upd H q (.lst ys)) Q := by
  have big : 1000 ≤ sizeLine := by decide
  refine ⟨by omega, fun q nq => ⟨l, q, xs, ys, rfl, rfl, by rw [upd_ne (ne_of_none hl nq)]; exact hl, upd_same, by omega, fun p np => ?_⟩⟩
  have s1 := same_new (o := .lst ys) nq
  exact k p _ (s1.trans (same_new np)) (s1.free np) upd_same
abbrev NEr : List Str := ["_law_work", "_law_error_here", "e", "_law_marks"]
theorem scEr : FnScope NEr ["_law_work"] (defScope s__law_error) := ⟨rfl, rfl, rfl, by decide +kernel, rfl, by decide +kernel, by decide +kernel⟩
theorem isi_rd {K : PySem.W.Frag} {σ : St} {H : Hp} {a Ci D : Addr} {fs : List (Str × V)} {b : Bool} {Q : VK} (h0 : σ[1]? = some (some (.ref a))) (X : XCls K Ci) (xv : XV H a Ci fs) (kit : PySem.W.kitOne K (.ref Ci) (.ref D) = some b) (q : Q (.bl b) H) :
    tCB (rIsX K) (tCons (tVar 1) (tCons (tC (.ref D)) tNil)) σ H Q := ⟨_, h0, a, Ci, fs, .ref D, _, b, rfl, .own _, X, xv, kit, q⟩
theorem error_gives {X : Cx} {g R : Addr} {C : Nat → Addr} {cdg : Value} {q : Str} (N : Nm X.mg) (L : Cl5 X.K X.mg R C) : GivesS X NEr "_law_error" (defScope s__law_error) g cdg (defBody s__law_error) "_law_work" q (TError C wd5 5) := by
  intro f c' s H Q tl act hc h
  refine ⟨_, pss_cons (ps_set (i := 1) scEr.nd rfl (.inl rfl) pe_non)
    (pss_cons (ps_try_keep (X := (cxOf C8.CX0 X.prog X.w X.K X.mg X.base NEr "_law_error" (defScope s__law_error) g cdg X.A X.stack s H C8.E0).nox) (c := .ref R) (i := 2)
      rfl rfl rfl scEr.nd rfl rfl ⟨rfl, by decide, .inl L.gR⟩ LamX.takes0 (fun W pn xe tk _ => pss_one (ps_expr (act W pn xe _ _ tk))) (fun a oe cls d pn hz hf => pss_one (ps_set (i := 1) scEr.nd rfl (.inl rfl) (pv 2))))
    (pss_cons (ps_if (pt_cmpR op_isN (pv 1) pe_non (nomark _)) (pss_one (ps_ret pe_non)) pss_nil)
    (pss_cons (ps_set (i := 3) scEr.nd rfl (.inl rfl) (pe_lst (pa_cons (pe_callB call_isX (by rfl) N.isi (by decide +kernel) (pa_cons (pv 1) (pa_cons (pe_glob (v := .ref (C 0)) rfl (L.g 0 (by decide)) rfl) pa_nil))) (pa_cons (pe_callB call_isX (by rfl) N.isi (by decide +kernel) (pa_cons (pv 1) (pa_cons (pe_glob (v := .ref (C 1)) rfl (L.g 1 (by decide)) rfl) pa_nil)))
      (pa_cons (pe_callB call_isX (by rfl) N.isi (by decide +kernel) (pa_cons (pv 1) (pa_cons (pe_glob (v := .ref (C 2)) rfl (L.g 2 (by decide)) rfl) pa_nil))) pa_nil)))))
    (pss_cons (ps_set (i := 3) scEr.nd rfl (.inl rfl) (pe_op op_cat (pv 3) (pe_lst (pa_cons (pe_callB call_isX (by rfl) N.isi (by decide +kernel) (pa_cons (pv 1) (pa_cons (pe_glob (v := .ref (C 3)) rfl (L.g 3 (by decide)) rfl) pa_nil))) (pa_cons (pe_callB call_isX (by rfl) N.isi (by decide +kernel) (pa_cons (pv 1) (pa_cons (pe_glob (v := .ref (C 4)) rfl (L.g 4 (by decide)) rfl) pa_nil))) pa_nil)))))
    (pss_cons (ps_if (PW.pt (pw_or (pt_cmpR op_ne (pe_bm PySem.F.plainAttrs_list PySem.F.slot_list_count PySem.F.type_list_count mt_countF (pv 3) (pa_cons pe_bl pa_nil)) pe_int (nomark _)) (pw_or1 (pt_not (pt_val (pe_callB call_isX (by rfl) N.isi (by decide +kernel) (pa_cons (pv 1) (pa_cons (pe_bltn (v := .ty "ValueError") (u := .type "ValueError") (by rfl) N.vE (by decide +kernel) rfl) pa_nil)))))))) (pss_one (ps_ret pe_str)) pss_nil)
    (pss_one (ps_ret (pe_ix ix_list (pe_lst (pa_cons pe_str (pa_cons pe_str (pa_cons pe_str (pa_cons pe_str (pa_cons pe_str pa_nil)))))) (pe_bm PySem.F.plainAttrs_list PySem.F.slot_list_index PySem.F.type_list_index mt_index (pv 3) (pa_cons pe_bl pa_nil)) (fun _ _ => rfl))))))))), ?_⟩
  refine ⟨_, _, fun cls d H' z => ?_, fun v H' z => ?_, rfl, hc, h⟩
  · obtain ⟨i, hi, rfl, hd, k⟩ := z
    refine ⟨true, C i, rfl, L.te i hi, fun _ a ha => ⟨_, rfl, ?_⟩, fun z => nomatch z⟩
    obtain ⟨H2, e2⟩ : ∃ X, X = upd H' a (exg a (C i) d) := ⟨_, rfl⟩
    have s2 : Same H' H2 := e2 ▸ same_new ha
    have big : 1000 ≤ sizeLine := by decide
    obtain ⟨fs, xv⟩ : ∃ fs, XV H2 a (C i) fs := by
      rcases hd with rfl | ⟨dd, fs, rfl, hdd⟩
      · exact ⟨[], .inl ⟨.inr (by rw [e2]; exact upd_same), rfl⟩⟩
      · exact ⟨fs, .inr ⟨dd, .inr (by rw [e2]; exact upd_same), .inr (s2 _ _ hdd)⟩⟩
    subst e2
    have Xi := L.x i hi
    refine ⟨_, rfl, rfl, _, rfl, iteF ?_⟩
    refine isi_rd rfl Xi xv (L.kit i 0 hi (by decide)) (isi_rd rfl Xi xv (L.kit i 1 hi (by decide)) (isi_rd rfl Xi xv (L.kit i 2 hi (by decide)) ⟨by show 3 ≤ sizeLine; omega, fun p0 n0 => ?_⟩))
    have s3 := same_new (o := .lst ([.bl (decide (i = 0)), .bl (decide (i = 1)), .bl (decide (i = 2))] : List V)) n0
    have a3 := upd_same (H := upd H' a (exg a (C i) d)) (a := p0) (o := .lst ([.bl (decide (i = 0)), .bl (decide (i = 1)), .bl (decide (i = 2))] : List V))
    have xv3 := XV_mono s3 xv
    refine ⟨_, rfl, isi_rd rfl Xi xv3 (L.kit i 3 hi (by decide)) (isi_rd rfl Xi xv3 (L.kit i 4 hi (by decide)) (cat_seg a3 (by show 3 + 2 ≤ 1000; omega) fun p1 H4 s4 n1 a4 => ?_))⟩
    have a4' : H4 p1 = some (.lst (marks5 i)) := a4
    have xv4 := XV_mono s4 xv3
    refine ⟨_, rfl, .inl ⟨rfl, _, SqL.of a4'⟩, p1, marks5 i, .bl true, rfl, rfl, SqL.of a4', rfl, marks_flat i, rfl, _, rfl, ?_⟩
    rw [marks_count i hi]
    refine iteF ?_
    refine ⟨_, rfl, a, C i, fs, .ty "ValueError", .type "ValueError", true, rfl, .ty _, Xi, xv4, L.kitV i hi, true, rfl, iteF ?_⟩
    refine ⟨by show 5 ≤ sizeLine; omega, fun pl npl => ?_⟩
    have s5 : Same H4 (upd H4 pl (.lst [.str "users", .str "sizes", .str "mismatch", .str "number", .str "notbest"])) := same_new npl
    obtain ⟨m1, m2⟩ := marks_at i hi
    refine ⟨_, rfl, .inl ⟨rfl, _, SqL.of (s5 _ _ a4')⟩, p1, marks5 i, .bl true, i, .bl true, rfl, rfl, SqL.of (s5 _ _ a4'), rfl, marks_flat i, m1, rfl, m2, ?_⟩
    exact ⟨pl, _, _, .str (wd5 i), rfl, rfl, SqL.of upd_same, atI_nat (words_at i hi), k _ (((s2.trans s3).trans s4).trans s5)⟩
  · exact ⟨_, rfl, rfl, _, rfl, iteT (z H' Same.refl)⟩
end FT


/-! assignments stay while the draws go on; readings of ifs -/
namespace FT
open PySem L2 TL ClX LamX NdefX LiI
theorem DrawAt.notS {H : Hp} {d c b : Addr} {zs : List Str} (x : DrawAt H d c) (e : H b = some (.lst (zs.map V.str))) : b ≠ d ∧ b ≠ c := by
  obtain ⟨nx, mx, ct, cells, z1, z2, ne, _⟩ := x
  constructor
  · refine ne_of e z1 fun z => ?_
    have z := HO.lst.inj z
    cases zs with
    | nil => cases z
    | cons a zs => cases z
  · refine ne_of e z2 fun z => ?_
    have z := HO.lst.inj z
    cases cells with
    | nil => exact ne rfl
    | cons a cs =>
      cases zs with
      | nil => cases z
      | cons b zs => cases z
theorem AAt.keepN {CA y x : Addr} {H H' : Hp} {d c : Addr} {zs : List Str} (dr : DrawAt H d c) (k : KeepN d c H H') (h : AAt CA H y x zs) : AAt CA H' y x zs := by
  obtain ⟨dy, p, e1, e2⟩ := h
  obtain ⟨a1, a2⟩ := dr.notD e1 (fun xs z => nomatch z)
  obtain ⟨b1, b2⟩ := dr.notS e2
  exact ⟨dy, p, k _ _ a1 a2 e1 (fun ps z => nomatch z), k _ _ b1 b2 e2 (fun ps z => nomatch z)⟩
end FT


/-! two keywords, turned; defs that get a lambda -/
namespace FT
open PySem L2 TL ClX
def turn2 {α : Type} : List α → List α
  | [a, b] => [b, a]
  | l => l
theorem turn2_rel {vs : List V} {us : List Value} (r : Vals vs us) : Vals (turn2 vs) (turn2 us) := by
  cases r with
  | nil => exact .nil
  | cons a r =>
    cases r with
    | nil => exact .cons a .nil
    | cons b r =>
      cases r with
      | nil => exact .cons b (.cons a .nil)
      | cons c r => exact .cons a (.cons b (.cons c r))
abbrev tn2 (α : Type) : List α → List α → List α := fun _ ws => turn2 ws
theorem kw2 {K : PySem.W.Frag} {x qual a b : Str} {st : Stmt} {f : Addr} {fd : FuncData} {ps : List Str} (F : L2.Fun K x qual st f fd)
    (h : ∀ (kV doc pm : Value) (an : Option Addr) (cdv ct u v : Value), bindArgs (PySem.W.fnOf x qual (defArgs st) (defBody st) (defScope st) .none kV doc pm an cdv ct) ⟨[], [(a, u), (b, v)]⟩ = pure (ps.zip [v, u])) :
    KBn K fd ps 0 [a, b] (tn2 Value) (tn2 V) := by
  obtain ⟨oc, od, kV, doc, pm, an, cdv, ct, osl, rfl, lk, hcd⟩ := F.ex
  refine ⟨fun s us ws _ h1 h2 => ?_, fun _ r => turn2_rel r⟩
  match us, ws, h1, h2 with
  | [], [u, v], _, _ => exact .of_eq (h kV doc pm an cdv ct u v)
/-- the two defs that get a lambda -/
structure Ge (K : PySem.W.Frag) (mg : Str → Option Value) (x : Str) (st : Stmt) (f : Addr) (fd : FuncData) : Prop where
  fn : Fun K x x st f fd
  bn : Binds K fd ["_law_work"] []
  mgn : mg x = some (.ref f)
end FT


/-! the law of k05 -/
namespace FT
open PySem L2 TL ClX LamX NdefX LiI Sg
structure W05 (P : Program) (w : World) (K : PySem.W.Frag) (mg : Str → Option Value) (base : Heap) (CF CA CM : Addr) (mc mcA : Value) (f : Nat → Addr) (fd : Nat → FuncData) : Prop where
  Z : Fc K mg CF mc
  B : Ac K mg CA mcA
  bg : Dn P w K mg base CX0 1 "_law_begin" ["_law_script"] (spBegin K) (f 0) (fd 0)
  dt : Dn P w K mg base CX0 1 "_law_take" ["_law_draw", "_law_size"] spDraw (f 1) (fd 1)
  dp : Dn P w K mg base CX0 2 "_law_pick" ["_law_draw", "_law_some"] (spPick K) (f 2) (fd 2)
  pa : Dn P w K mg base CX0 4 "_law_parents" ["_law_draw", "_law_many"] spParentsP (f 3) (fd 3)
  far : Dn P w K mg base CX0 2 "_law_far" ["_law_above", "_law_spot", "_law_goal"] spFar (f 4) (fd 4)
  due : Dn P w K mg base CX0 2 "_law_due" ["_law_above", "_law_here", "_law_there"] spDue (f 5) (fd 5)
  pr : Dn P w K mg base CX0 2 "_law_paths_right" ["_law_above", "_law_here", "_law_there", "_law_told"] spPathsR (f 6) (fd 6)
  op : Dn P w K mg base CX0 1 "_law_other_parents" ["_law_above"] spOtherP (f 7) (fd 7)
  fi : FnOk P w K mg base CX0 3 (f 8) (fd 8) ["self", "parents"] (spFInit CF)
  fim : Mk K CF (f 8)
  fib : Binds K (fd 8) ["self", "parents"] []
  ai : FnOk P w K mg base CX0 1 (f 9) (fd 9) ["self", "forest", "places"] (spAInit CF CA)
  aim : Mk K CA (f 9)
  aib : Binds K (fd 9) ["self", "forest", "places"] []
  to : Dn P w K mg base (L2.CX P w) 4 "toggles" ["one", "other"] (spTogglesE CF CA CM) (f 10) (fd 10)
  tok : KBn K (fd 10) ["one", "other"] 0 ["other", "one"] (tn2 Value) (tn2 V)
  ch : GFn2 P w K mg base 4 (f 11) (fd 11) ["one", "other"] (spCh CF CA CM)
  chp : PySem.W.keepIn K (.ref (f 11)) = true
  chb : Binds K (fd 11) ["one", "other"] []
  chg : mg "changes" = some (.ref (f 11))
  chk : KBn K (fd 11) ["one", "other"] 0 ["other", "one"] (tn2 Value) (tn2 V)
def spLaw05 (K : PySem.W.Frag) (T : List (Addr × Str)) : Sp := fun vs H Q _ => ∃ (a : Addr) (ns : List Int), vs = [.ref a] ∧ SqL K H a (ns.map V.int) ∧ ns.length ≤ 63 ∧ Tabs T H ∧ ∀ H', Q (.bl true) H'
abbrev N05 : List Str := ["_law_script", "_law_draw", "_law_turn", "_law_above", "_law_many", "_law_spots", "_law_here", "_law_there", "_law_start", "_law_goal", "_law_told", "_law_due_here", "_law_more", "_law_odd", "_law_some", "_law_moved", "_law_strange", "_law_user", "_law_spot", "_law_row"]
/-- the names of `lambda: [_law_row for _law_row in changes(_law_strange, _law_start)]` -/
def lamSc05 : Scope := { kind := .function, names := [("_law_start", .free), ("_law_strange", .free), ("changes", .globalImplicit)], isGenerator := false, isCoroutine := false, more := [("fast", .str "_law_row"), ("fast", .str "_law_start"), ("fast", .str "_law_strange")] }
theorem join_te {t : TE} {σ : St} {H : Hp} {Q : VK} (G : V → Hp → Prop) (h : ∀ Q' : VK, (∀ v H', G v H' → Q' v H') → t σ H Q') (k : ∀ v H', G v H' → Q v H') : t σ H Q := h Q k
/-- an assignment that does not match -/
def Str05 (CF CA : Addr) (us : List (Str × Str)) (zs : List Str) (H : Hp) (r : Addr) : Prop := ∃ (x' : Addr) (us' : List (Str × Str)) (zs' : List Str), AAt CA H r x' zs' ∧ FAt CF H x' us' ∧ TreeOk us' ∧ zs'.length ≤ 60 ∧ matB us us' zs zs' = false ∧ matB us' us zs' zs = false
theorem Str05.mono {CF CA : Addr} {us : List (Str × Str)} {zs : List Str} {H H' : Hp} {r : Addr} (s : Same H H') (h : Str05 CF CA us zs H r) : Str05 CF CA us zs H' r := let ⟨x', us', zs', a, b, c⟩ := h; ⟨x', us', zs', a.mono s, b.mono s, c⟩
theorem Str05.keepN {CF CA d c : Addr} {us : List (Str × Str)} {zs : List Str} {H H' : Hp} {r : Addr} (dr : DrawAt H d c) (k : KeepN d c H H') (h : Str05 CF CA us zs H r) : Str05 CF CA us zs H' r := let ⟨x', us', zs', a, b, e⟩ := h; ⟨x', us', zs', a.keepN dr k, b.keepN dr k, e⟩
theorem rep5 (n : Nat) (a : Str) : (List.replicate n [V.str a]).flatten = (List.replicate n a).map V.str := by
  induction n with
  | zero => rfl
  | succ n ih => rw [List.replicate_succ, List.flatten_cons, ih, List.replicate_succ, List.map_cons] <;> rfl
theorem join_ifT {t : TT} {tb : TS} {D : Ends} {σ : St} {H : Hp} (G : Bool → Hp → Prop) (R : St → Hp → Prop) (ht : ∀ Q' : Bool → Hp → Prop, (∀ b H', G b H' → Q' b H') → t σ H Q') (hb : ∀ H', G true H' → ∀ D' : Ends, (∀ σ' H', R σ' H' → D'.nx σ' H') → tb D' σ H') (k0 : ∀ H', G false H' → R σ H') (k : ∀ σ' H', R σ' H' → D.nx σ' H') : tIfS t tb tNext D σ H :=
  ht _ fun b H' g => by
    cases b with
    | false => exact iteF (k _ _ (k0 H' g))
    | true => exact iteT (hb H' g D k)
section
variable {P : Program} {w : World} {K : PySem.W.Frag} {mg : Str → Option Value} {base : Heap}
theorem sc05 : FnScope N05 ["_law_script"] (defScope s_law) := ⟨rfl, rfl, rfl, by decide +kernel, rfl, by decide +kernel, by decide +kernel⟩
theorem ok_law05 {f0 fEr CF CA CM R co ta : Addr} {mc mcA : Value} {C5 : Nat → Addr} {T : List (Addr × Str)} {f : Nat → Addr} {fd : Nat → FuncData} {fd0 fdEr : FuncData} (F : FunC K "law" "law" s_law f0 fd0 co) (N : Nm mg) (L : W05 P w K mg base CF CA CM mc mcA f fd)
    (GE : Ge K mg "_law_error" s__law_error fEr fdEr) (C : Cl5 K mg R C5) (e2 : C5 2 = CM) (ns : PySem.W.subIn K (.ref CM) (.type "StopIteration") = some false) (TB : TabB base mg co ta) (hmT : (ta, lamQ "law") ∈ T) (hut : ∀ p ∈ T, p.1 = ta → p.2 = lamQ "law") : FnG P w K mg base CX0 8 f0 fd0 ["_law_script"] (spLaw05 K T) := by
  refine F.okG sc05 (fun vs H Q E h => ?_) (fun A outer s H vs Q E clr hr h => ?_)
  · obtain ⟨a, ns, rfl, _⟩ := h
    rfl
  · obtain ⟨a, nums, rfl, hS, hlen, tT, k⟩ := h
    have hu := hu_of hr
    have hr1 : Room 1 _ := hr.mono (by decide)
    have hr2 : Room 2 _ := hr.mono (by decide)
    have hr4 : Room 4 _ := hr.mono (by decide)
    have hr5 : Room 5 _ := hr.mono (by decide)
    have nd := sc05.nd
    have big : 4000 ≤ sizeLine := by decide
    refine ⟨_, pss_cons (ps_set (i := 1) nd rfl (.inr rfl) (pe_call L.bg.ok hr1 rfl L.bg.mgn L.bg.kp L.bg.bn .nil pass0 (pa_cons (pv 0) pa_nil)))
      (pss_cons (ps_for PassesOwn.never rfl (pi_range1 rfl N.rng (pa_cons (pe_op op_add pe_int (pe_callB (call_min2 rfl) (by rfl) N.min (by decide +kernel) (pa_cons (pe_callB call_len_seq (by rfl) N.len PySem.boot_len (pa_cons (pv 0) pa_nil)) (pa_cons pe_int pa_nil)))) pa_nil)) (pg_name (i := 2) nd rfl (.inl rfl))
        (pss_cons (ps_asg (pe_tup (pa_cons (pe_call L.pa.ok hr4 rfl L.pa.mgn L.pa.kp L.pa.bn .nil pass0 (pa_cons (pv 1) (pa_cons (pe_op op_add pe_int (pe_call L.dt.ok hr1 rfl L.dt.mgn L.dt.kp L.dt.bn .nil pass0 (pa_cons (pv 1) (pa_cons pe_int pa_nil)))) pa_nil)))
              (pa_cons (pe_op op_add pe_int (pe_call L.dt.ok hr1 rfl L.dt.mgn L.dt.kp L.dt.bn .nil pass0 (pa_cons (pv 1) (pa_cons pe_int pa_nil)))) pa_nil))) (pg_tup rfl (pgs_cons (pg_name (i := 3) nd rfl (.inr rfl)) (pgs_cons (pg_name (i := 4) nd rfl (.inl rfl)) pgs_nil))))
        (pss_cons (ps_set (i := 5) nd rfl (.inr rfl) (pe_op op_cat (pe_lst (pa_cons pe_str pa_nil)) (pe_callB (call_sortedD rfl) (by rfl) N.srt (by decide +kernel) (pa_cons (pv 3) pa_nil))))
        (pss_cons (ps_setLc (i := 6) (own := [("_law_user", 17)]) (g := gName 17) (tt := tYes) (te := tCall (spPick K) [] E0 (tCons (tVar 1) (tCons (tVar 5) tNil))) rfl nd rfl rfl (sw_true rfl rfl rfl (by decide +kernel)) (pi_range1 rfl N.rng (pa_cons (pv 4) pa_nil)) (blkOk_by (N := N05) (sc := defScope s_law) (by decide +kernel)) (fun _ _ _ _ _ => pg_name (i := 17) nd rfl (Or.inl rfl)) (fun _ _ _ _ _ => pts_nil)
              (fun _ _ _ _ _ => pe_call L.dp.ok hr2 rfl L.dp.mgn L.dp.kp L.dp.bn .nil pass0 (pa_cons (pv 1) (pa_cons (pv 5) pa_nil))))
        (pss_cons (ps_set (i := 7) nd rfl (.inr rfl) (pe_lc (own := [("_law_user", 17)]) (g := gName 17) (tt := tYes) (te := tCall (spPick K) [] E0 (tCons (tVar 1) (tCons (tVar 5) tNil))) rfl nd (pi_range1 rfl N.rng (pa_cons (pv 4) pa_nil)) (blkOk_by (N := N05) (sc := defScope s_law) (by decide +kernel)) (fun _ _ _ _ _ => pg_name (i := 17) nd rfl (Or.inl rfl)) (fun _ _ _ _ _ => pts_nil)
              (fun _ _ _ _ _ => pe_call L.dp.ok hr2 rfl L.dp.mgn L.dp.kp L.dp.bn .nil pass0 (pa_cons (pv 1) (pa_cons (pv 5) pa_nil)))))
        (pss_cons (ps_if (pt_cmpR op_eq (pe_call L.dt.ok hr1 rfl L.dt.mgn L.dt.kp L.dt.bn .nil pass0 (pa_cons (pv 1) (pa_cons pe_int pa_nil))) pe_int (nomark _))
            (pss_one (ps_set (i := 7) nd rfl (.inr rfl) (pe_lc (own := [("_law_spot", 18)]) (g := gName 18) (tt := tYes) (te := tCall (spPick K) [] E0 (tCons (tVar 1) (tCons (tLst (tCons (tVar 18) (tCons (tVar 18) (tCons (tVar 18) (tCons (tCall (spPick K) [] E0 (tCons (tVar 1) (tCons (tVar 5) tNil))) tNil))))) tNil))) rfl nd (pi_list (pv 6)) (blkOk_by (N := N05) (sc := defScope s_law) (by decide +kernel)) (fun _ _ _ _ _ => pg_name (i := 18) nd rfl (Or.inl rfl)) (fun _ _ _ _ _ => pts_nil)
              (fun _ _ _ _ _ => pe_call L.dp.ok hr2 rfl L.dp.mgn L.dp.kp L.dp.bn .nil pass0 (pa_cons (pv 1) (pa_cons (pe_lst (pa_cons (pv 18) (pa_cons (pv 18) (pa_cons (pv 18) (pa_cons (pe_call L.dp.ok hr2 rfl L.dp.mgn L.dp.kp L.dp.bn .nil pass0 (pa_cons (pv 1) (pa_cons (pv 5) pa_nil))) pa_nil))))) pa_nil)))))) pss_nil)
        (pss_cons (ps_asg (pe_tup (pa_cons (pe_make L.aim L.ai hr2 (by rfl) L.B.gA L.aib .nil pass0 (pa_cons (pe_make L.fim L.fi hr4 (by rfl) L.Z.gF L.fib .nil pass0 (pa_cons (pv 3) pa_nil)) (pa_cons (pv 6) pa_nil)))
            (pa_cons (pe_make L.aim L.ai hr2 (by rfl) L.B.gA L.aib .nil pass0 (pa_cons (pe_make L.fim L.fi hr4 (by rfl) L.Z.gF L.fib .nil pass0 (pa_cons (pv 3) pa_nil)) (pa_cons (pv 7) pa_nil))) pa_nil)))
          (pg_tup rfl (pgs_cons (pg_name (i := 8) nd rfl (.inr rfl)) (pgs_cons (pg_name (i := 9) nd rfl (.inl rfl)) pgs_nil))))
        (pss_cons (ps_par (i := 10) (j := 11) rfl nd rfl rfl (by decide) rfl rfl
            (pa_cons (pe_lcG (k := 4) (own := [("_law_row", 19)]) (g := gName 19) (tt := tYes) (te := tVar 19) rfl hr5 nd (pgen2_call L.ch hr4 rfl L.chg L.chp L.chb .nil (pa_cons (pv 8) (pa_cons (pv 9) pa_nil))) (blkOk_by (N := N05) (sc := defScope s_law) (by decide +kernel)) (by decide +kernel) (fun _ _ _ _ _ => pg_name (i := 19) nd rfl (Or.inl rfl)) (fun _ _ _ _ _ => pts_nil) (fun _ _ _ _ _ => pv 19))
            (pa_cons (pe_call L.due.ok hr2 rfl L.due.mgn L.due.kp L.due.bn .nil pass0 (pa_cons (pv 3) (pa_cons (pv 6) (pa_cons (pv 7) pa_nil)))) pa_nil)) (by rfl))
        (pss_cons (ps_if (PW.pt (pw_or (pt_cmpR op_ne (pe_callB (call_repr clr.deeper hr.units) (by rfl) N.rep (by decide +kernel) (pa_cons (pv 10) pa_nil)) (pe_callB (call_repr clr.deeper hr.units) (by rfl) N.rep (by decide +kernel) (pa_cons (pv 11) pa_nil)) (nomark _))
            (pw_or1 (pt_cmpR (op_neD hr.units) (pe_lcG (k := 4) (own := [("_law_row", 19)]) (g := gName 19) (tt := tYes) (te := tVar 19) rfl hr5 nd (pgen2_callK0 L.ch hr4 rfl L.chg L.chp L.chk (pk_cons (pv 9) (pk_cons (pv 8) pk_nil))) (blkOk_by (N := N05) (sc := defScope s_law) (by decide +kernel)) (by decide +kernel) (fun _ _ _ _ _ => pg_name (i := 19) nd rfl (Or.inl rfl)) (fun _ _ _ _ _ => pts_nil) (fun _ _ _ _ _ => pv 19)) (pv 11) (nomark _))))) (pss_one (ps_ret pe_bl)) pss_nil)
        (pss_cons (ps_if (PW.pt (pw_or (pt_cmpR op_ne (pe_call (E := E0) L.to.ok hr4 rfl L.to.mgn L.to.kp L.to.bn .nil L2.passL (pa_cons (pv 8) (pa_cons (pv 9) pa_nil))) (pe_callB call_len_seq (by rfl) N.len PySem.boot_len (pa_cons (pv 11) pa_nil)) (nomark _))
            (pw_or1 (pt_cmpR op_ne (pe_callK0 (E := E0) L.to.ok hr4 rfl L.to.mgn L.to.kp L.tok L2.passL (pk_cons (pv 8) (pk_cons (pv 9) pk_nil))) (pe_callB call_len_seq (by rfl) N.len PySem.boot_len (pa_cons (pv 11) pa_nil)) (nomark _))))) (pss_one (ps_ret pe_bl)) pss_nil)
        (pss_cons (ps_if (pt_cmpR op_ne (pe_callB call_len_seq (by rfl) N.len PySem.boot_len (pa_cons (pv 11) pa_nil)) (pe_callB (cr_sum rfl) (by rfl) N.sum (by decide +kernel) (pa_cons (pe_lc (own := [("_law_user", 17), ("_law_spot", 18)]) (g := gTup K 2 (gCons (gName 17) (gCons (gName 18) gNil))) (tt := tYes) (te := tCall spFar [] E0 (tCons (tVar 3) (tCons (tVar 18) (tCons (tOp (rIxL K) (tVar 7) (tVar 17)) tNil)))) rfl nd (pi_enum rfl N.enu (pa_cons (pv 6) pa_nil))
              (blkOk_by (N := N05) (sc := defScope s_law) (by decide +kernel)) (fun _ _ _ _ _ => pg_tup rfl (pgs_cons (pg_name (i := 17) nd rfl (Or.inl rfl)) (pgs_cons (pg_name (i := 18) nd rfl (Or.inl rfl)) pgs_nil))) (fun _ _ _ _ _ => pts_nil)
              (fun _ _ _ _ _ => pe_call L.far.ok hr2 rfl L.far.mgn L.far.kp L.far.bn .nil pass0 (pa_cons (pv 3) (pa_cons (pv 18) (pa_cons (pe_ix ix_list (pv 7) (pv 17) (fun _ _ => rfl)) pa_nil))))) pa_nil)) (nomark _)) (pss_one (ps_ret pe_bl)) pss_nil)
        (pss_cons (ps_if (PW.pt (pw_or (pt_not (pt_val (pe_call L.pr.ok hr2 rfl L.pr.mgn L.pr.kp L.pr.bn .nil pass0 (pa_cons (pv 3) (pa_cons (pv 6) (pa_cons (pv 7) (pa_cons (pv 10) pa_nil)))))))
            (pw_or1 (pt_cmpR op_ne (pe_call (E := E0) L.to.ok hr4 rfl L.to.mgn L.to.kp L.to.bn .nil L2.passL (pa_cons (pv 8) (pa_cons (pv 8) pa_nil))) pe_int (nomark _))))) (pss_one (ps_ret pe_bl)) pss_nil)
        (pss_cons (ps_set (i := 12) nd rfl (.inl rfl) (pe_ifExp (pt_cmpR op_lt (pe_callB call_lenD (by rfl) N.len PySem.boot_len (pa_cons (pv 3) pa_nil)) pe_int (nomark _)) (pe_callTy call_dictD (by rfl) N.dct (by decide +kernel) (pa_cons (pv 3) pa_nil)) pe_dnewK))
        (pss_cons (ps_dput hu (pv 12) pe_str pe_str rfl)
        (pss_cons (ps_set (i := 13) nd rfl (.inl rfl) (pe_make L.aim L.ai hr2 (by rfl) L.B.gA L.aib .nil pass0 (pa_cons (pe_make L.fim L.fi hr4 (by rfl) L.Z.gF L.fib .nil pass0 (pa_cons (pv 12) pa_nil)) (pa_cons (pe_op op_rep (pe_lst (pa_cons pe_str pa_nil)) (pv 4)) pa_nil))))
        (pss_cons (ps_set (i := 14) nd rfl (.inl rfl) (pe_lst (pa_cons (pe_make L.aim L.ai hr2 (by rfl) L.B.gA L.aib .nil pass0 (pa_cons (pe_make L.fim L.fi hr4 (by rfl) L.Z.gF L.fib .nil pass0 (pa_cons (pv 3) pa_nil))
              (pa_cons (pe_orT (pe_slice sl_list (pe_op op_cat (pv 6) (pe_op op_rep (pe_lst (pa_cons pe_str pa_nil)) pe_int)) po_none (po_some (pe_op op_sub (pv 4) pe_int))) (pe_one (pe_lst (pa_cons pe_str (pa_cons pe_str pa_nil))))) pa_nil))) (pa_cons (pv 13) pa_nil))))
        (pss_cons (ps_set (i := 15) nd rfl (.inl rfl) (pe_call L.op.ok hr1 rfl L.op.mgn L.op.kp L.op.bn .nil pass0 (pa_cons (pv 3) pa_nil)))
        (pss_cons (ps_if (pt_cmpR op_notN (pv 15) pe_non (nomark _)) (pss_one (ps_expr (pe_bm PySem.F.plainAttrs_list PySem.F.slot_list_append PySem.F.type_list_append mt_append (pv 14) (pa_cons (pe_make L.aim L.ai hr2 (by rfl) L.B.gA L.aib .nil pass0 (pa_cons (pe_make L.fim L.fi hr4 (by rfl) L.Z.gF L.fib .nil pass0 (pa_cons (pv 15) pa_nil)) (pa_cons (pv 6) pa_nil))) pa_nil)))) pss_nil)
        (pss_one (ps_for PassesOwn.never rfl (pi_list (pv 14)) (pg_name (i := 16) nd rfl (.inr rfl))
          (pss_cons (ps_if (pt_cmpR op_ne (pe_lamS (T := T) (k := 5) (t := fun E => tCall (spTogglesE CF CA CM) [] E (tCons (tVar 8) (tCons (tVar 16) tNil))) rfl GE.mgn GE.fn GE.bn scEr rfl (.inl rfl) (fun cdg => error_gives N C) TB rfl hmT hut hr (lamS_by (sc := defScope s_law) (by decide +kernel)) rfl (fun _ _ _ _ _ => rfl)
              (fun A outer s H E f c' hr2 => pe_call L.to.ok (hr2.mono (by decide)) rfl L.to.mgn L.to.kp L.to.bn .nil (passes_call (takes_of rfl rfl rfl rfl) (fun _ _ _ _ h => h)) (pa_cons (pv 8) (pa_cons (pv 16) pa_nil)))) pe_str (nomark _)) (pss_one (ps_ret pe_bl)) pss_nil)
          (pss_one (ps_if (pt_cmpR op_ne (pe_lamS (T := T) (k := 5) (t := fun E => tLcGX K (tCallG2 (spCh CF CA CM) [] (tCons (tVar 16) (tCons (tVar 8) tNil))) (fun cls d _ H => E cls d H)) rfl GE.mgn GE.fn GE.bn scEr rfl (.inl rfl) (fun cdg => error_gives N C) TB rfl hmT hut hr (lamS_by (sc := defScope s_law) (by decide +kernel)) rfl (fun _ _ _ _ _ => rfl)
              (fun A outer s H E f c' hr2 => pe_lcGX (k := 4) (own := [("_law_row", 19)]) (takes_of rfl rfl rfl rfl) ⟨rfl, rfl⟩ rfl hr2 nd (pgen2_call L.ch (hr2.mono (by decide)) rfl L.chg L.chp L.chb .nil (pa_cons (pv 16) (pa_cons (pv 8) pa_nil))) (blkOk_by (N := N05) (sc := lamSc05) (by decide +kernel)) (by decide +kernel) (fun _ => rfl))) pe_str (nomark _)) (pss_one (ps_ret pe_bl)) pss_nil)))))))))))))))))))))))
      (pss_one (ps_ret pe_bl))), ?_⟩
    refine ⟨_, rfl, a, nums, rfl, hS, hlen, fun H0 d c s0 ndd ncc dr0 => ?_⟩
    have tT0 : Tabs T H0 := tT.ext s0
    refine ⟨_, rfl, a, _, rfl, .inl (Same.sql s0 hS), _, _, rfl, _, _, rfl, rfl, ?_⟩
    obtain ⟨m, em⟩ : ∃ m : Int, m = 4 + (if (12 : Int) < ((nums.map V.int).length : Int) then 12 else ((nums.map V.int).length : Int)) := ⟨_, rfl⟩
    have lm : 0 ≤ m ∧ m ≤ 20 := by
      rw [List.length_map] at em
      subst em
      split <;> constructor <;> omega
    refine ⟨m, by rw [em] <;> rfl, by omega, by omega, ?_⟩
    refine for_it (walk_range (lo := 0) (n := m.toNat)) (fun j σ' H' => (∃ u2 u3 u4 u5 u6 u7 u8 u9 u10 u11 u12 u13 u14 u15 u16, σ' = [some (.ref a), some (.ref d), u2, u3, u4, u5, u6, u7, u8, u9, u10, u11, u12, u13, u14, u15, u16, none, none, none]) ∧ DrawAt H' d c ∧ Tabs T H') ⟨⟨_, _, _, _, _, _, _, _, _, _, _, _, _, _, _, rfl⟩, dr0, tT0⟩ (fun _ _ _ _ _ => trivial) ?_ (fun σ' H' _ => k H')
    intro jj xj σ' Ha Hb hj ⟨⟨u2, u3, u4, u5, u6, u7, u8, u9, u10, u11, u12, u13, u14, u15, u16, e⟩, dr, tb⟩ ⟨ea, eb⟩
    subst e
    subst ea
    subst eb
    clear em lm hj
    -- the tree, how many users
    refine ⟨_, rfl, _, rfl, d, c, 12, rfl, dr, by decide, by decide, fun k1 H1 k10 k11 dr1 kp1 => ⟨_, _, rfl, rfl, d, c, (1 + k1).toNat, by rw [Int.toNat_of_nonneg (by omega)] <;> rfl, dr1, by omega, by omega, fun q t H2 o lt inp nq hq dr2 kp2 => ?_⟩⟩
    refine ⟨_, rfl, d, c, 60, rfl, dr2, by decide, by decide, fun k2 H3 k20 k21 dr3 kp3 => ⟨_, _, rfl, rfl, by show 2 ≤ sizeLine; omega, fun tp ntp => ⟨tp, _, rfl, .inl (.inl upd_same), rfl, _, _, rfl, _, _, rfl, rfl, ?_⟩⟩⟩
    obtain ⟨n, en⟩ : ∃ n : Int, n = 1 + k2 := ⟨_, rfl⟩
    have n1 : 1 ≤ n := by omega
    have n60 : n ≤ 60 := by omega
    show (_ : St → Hp → Prop) [some (.ref a), some (.ref d), _, some (.ref q), some (.int (1 + k2)), u5, u6, u7, u8, u9, u10, u11, u12, u13, u14, u15, u16, none, none, none] (upd H3 tp (.tup [.ref q, .int (1 + k2)]))
    rw [← en]
    have few := o.few
    have tb1 := tabs_keep tb dr kp1
    have tb2 := tabs_keep tb1 dr1 kp2
    have tb3 := tabs_keep tb2 dr2 kp3
    obtain ⟨qd, qc⟩ := dr2.notD hq (fun xs z => nomatch z)
    have stp := same_new (o := .tup [.ref q, .int n]) ntp
    obtain ⟨H, eH⟩ : ∃ X, X = upd H3 tp (.tup [.ref q, .int n]) := ⟨_, rfl⟩
    rw [← eH] at stp ⊢
    clear eH
    have hq : H q = some (.dK (prs t)) := stp _ _ (kp3 q _ qd qc hq)
    have dr : DrawAt H d c := dr3.mono stp
    have tb : Tabs T H := tb3.ext stp
    clear tb1 tb2 tb3 stp ntp
    -- the places to pick from
    refine ⟨by show 1 ≤ sizeLine; omega, fun p2 m2 => ?_⟩
    refine ⟨_, rfl, q, prs t, t.map Prod.fst, rfl, .inl (by rw [upd_ne (ne_of_none hq m2)]; exact hq), prs_keys t, by rw [List.length_map]; omega, fun ks p3 pks srt m3 => ?_⟩
    have lks := pks.length_eq
    rw [List.length_map] at lks
    refine ⟨p2, p3, [.str ""], ks.map V.str, rfl, rfl, by rw [upd_ne (ne_of_none upd_same m3), upd_same], upd_same, by rw [List.length_map]; show 1 + _ ≤ sizeLine; omega, fun ps mps => ?_⟩
    have t1 := same_new (o := .lst [.str ""]) m2
    have t2 := same_new (o := .lst (ks.map V.str)) m3
    have t3 := same_new (o := .lst ([.str ""] ++ ks.map V.str)) mps
    obtain ⟨H1, e1⟩ : ∃ X, X = upd (upd (upd H p2 (.lst [.str ""])) p3 (.lst (ks.map V.str))) ps (.lst ([.str ""] ++ ks.map V.str)) := ⟨_, rfl⟩
    have s01 : Same H H1 := e1 ▸ (t1.trans (t2.trans t3))
    have hps : H1 ps = some (.lst ((("" : Str) :: ks).map V.str)) := by rw [e1]; exact upd_same
    obtain ⟨psd, psc⟩ := ((dr.mono t1).mono t2).apart mps
    rw [← e1]
    clear e1 t1 t2 t3
    have dr1 := dr.mono s01
    have tb1 := tb.ext s01
    have hq1 := s01 _ _ hq
    -- the first list
    have inPl : ∀ z ∈ ("" : Str) :: ks, Pl t z := fun z hz => (List.mem_cons.mp hz).imp id fun h => pks.mem_iff.mp h
    refine ⟨_, rfl, n, rfl, by omega, by omega, fun D nD => ?_⟩
    obtain ⟨Dd, Dc⟩ := dr1.apart nD
    have sD := same_new (o := .lst []) nD
    refine lc_it (walk_range (lo := 0) (n := n.toNat)) (fun j H' => DrawAt H' d c ∧ Keep d c H1 H' ∧ ∃ zs : List Str, H' D = some (.lst (zs.map V.str)) ∧ zs.length = j ∧ ∀ z ∈ zs, Pl t z) ⟨dr1.mono sD, Keep.of_same sD, [], upd_same, rfl, fun z hz => by cases hz⟩ (fun _ _ _ _ => trivial) ?_ ?_
    · intro j yv Hx Hy hj ⟨da, ka, zs, hD, lz, pz⟩ ⟨eb, ey⟩
      subst eb
      subst ey
      refine ⟨rfl, ?_⟩
      refine ⟨_, rfl, _, rfl, d, c, .ref ps, (("" : Str) :: ks).length, (fun _ x => ∃ z, x = .str z ∧ z ∈ (("" : Str) :: ks)), rfl, da, .inl ⟨ps, _, rfl, psd, psc, ka ps _ psd psc hps, by rw [List.length_map], items_strs (ws := ("" : Str) :: ks) fun z hz => hz⟩, Nat.succ_pos _, by rw [List.length_cons]; omega, fun i x H6 px dr6 k6 => ?_⟩
      obtain ⟨z, rfl, mz⟩ := px
      have hD6 := k6 D _ Dd Dc hD
      exact ⟨_, hD6, by rw [List.length_map]; omega, dr6.off Dd Dc, (ka.trans k6).put nD, zs ++ [z], by rw [upd_same, List.map_append] <;> rfl, by rw [List.length_append, lz] <;> rfl, fun y hy => (List.mem_append.mp hy).elim (pz y) fun h => by rw [List.mem_singleton.mp h]; exact inPl z mz⟩
    intro H2 ⟨dr2, kp2, zs, hD2, lz, pz⟩
    have hps2 := kp2 ps _ psd psc hps
    -- the second one
    refine ⟨_, rfl, n, rfl, by omega, by omega, fun D2 nD2 => ?_⟩
    obtain ⟨Ed, Ec⟩ := dr2.apart nD2
    have sE := same_new (o := .lst []) nD2
    have D2D : D ≠ D2 := ne_of_none hD2 nD2
    refine lc_it (walk_range (lo := 0) (n := n.toNat)) (fun j H' => DrawAt H' d c ∧ Keep d c H2 H' ∧ ∃ zs : List Str, H' D2 = some (.lst (zs.map V.str)) ∧ zs.length = j ∧ ∀ z ∈ zs, Pl t z) ⟨dr2.mono sE, Keep.of_same sE, [], upd_same, rfl, fun z hz => by cases hz⟩ (fun _ _ _ _ => trivial) ?_ ?_
    · intro j yv Hx Hy hj ⟨da, ka, ws, hD, lz, pw⟩ ⟨eb, ey⟩
      subst eb
      subst ey
      refine ⟨rfl, ?_⟩
      refine ⟨_, rfl, _, rfl, d, c, .ref ps, (("" : Str) :: ks).length, (fun _ x => ∃ z, x = .str z ∧ z ∈ (("" : Str) :: ks)), rfl, da, .inl ⟨ps, _, rfl, psd, psc, ka ps _ psd psc hps2, by rw [List.length_map], items_strs (ws := ("" : Str) :: ks) fun z hz => hz⟩, Nat.succ_pos _, by rw [List.length_cons]; omega, fun i x H6 px dr6 k6 => ?_⟩
      obtain ⟨z, rfl, mz⟩ := px
      have hD6 := k6 D2 _ Ed Ec hD
      exact ⟨_, hD6, by rw [List.length_map]; omega, dr6.off Ed Ec, (ka.trans k6).put nD2, ws ++ [z], by rw [upd_same, List.map_append] <;> rfl, by rw [List.length_append, lz] <;> rfl, fun y hy => (List.mem_append.mp hy).elim (pw y) fun h => by rw [List.mem_singleton.mp h]; exact inPl z mz⟩
    intro H3 ⟨dr3, kp3, ws, hE3, lw, pw⟩
    have kp03 : Keep d c H1 H3 := kp2.trans kp3
    have tb3 := tabs_keep tb1 dr1 kp03
    have hD3 := kp3 D _ Dd Dc hD2
    have hps3 := kp3 ps _ psd psc hps2
    have hq3 := kp03 q _ qd qc hq1
    have lzn : (zs.length : Int) = n := by rw [lz]; omega
    have lwz : ws.length = zs.length := by rw [lw, lz]
    -- a few moved
    dsimp only [gName]
    refine join_ifT (fun _ H' => DrawAt H' d c ∧ Keep d c H3 H') (fun σ' H' => ∃ (l2 : Addr) (zs2 : List Str), σ' = [some (.ref a), some (.ref d), some (.int (0 + ((jj : Nat) : Int))), some (.ref q), some (.int n), some (.ref ps), some (.ref D), some (.ref l2), u8, u9, u10, u11, u12, u13, u14, u15, u16, none, none, none] ∧ DrawAt H' d c ∧ Keep d c H3 H' ∧ H' l2 = some (.lst (zs2.map V.str)) ∧ zs2.length = zs.length ∧ ∀ z ∈ zs2, Pl t z) (fun Q' kq => ?_) (fun H4 ⟨dr4, kp4⟩ D' kn => ?_) (fun H4 ⟨dr4, kp4⟩ => ⟨D2, ws, rfl, dr4, kp4, kp4 D2 _ Ed Ec hE3, lwz, pw⟩) ?_
    · exact ⟨_, rfl, d, c, 2, rfl, dr3, by decide, by decide, fun kk H4 k0 k1 dr4 kp4 => ⟨rfl, _, rfl, kq _ H4 ⟨dr4, kp4⟩⟩⟩
    · have hD4 := kp4 D _ Dd Dc hD3
      have hps4 := kp4 ps _ psd psc hps3
      refine ⟨_, rfl, D, rfl, ⟨_, SqL.of hD4⟩, fun L nL => ?_⟩
      obtain ⟨Ld, Lc⟩ := dr4.apart nL
      have sL := same_new (o := .lst []) nL
      refine lc_it walk_list (fun j H' => DrawAt H' d c ∧ Keep d c H4 H' ∧ ∃ ws : List Str, H' L = some (.lst (ws.map V.str)) ∧ ws.length = j ∧ ∀ z ∈ ws, Pl t z) ⟨dr4.mono sL, Keep.of_same sL, [], upd_same, rfl, fun z hz => by cases hz⟩ (fun j H' _ z => SqL.of (z.2.1 D _ Dd Dc hD4)) ?_ ?_
      · intro j yv Hx Hy hj ⟨da, ka, ws, hL, lw', pw'⟩ ⟨eb, ex⟩
        subst eb
        obtain ⟨b, hb, rfl⟩ := map_of (f := V.str) (l := zs) ex
        have pb := pz b (List.mem_of_getElem? hb)
        refine ⟨rfl, ?_⟩
        refine ⟨_, rfl, _, rfl, _, rfl, _, rfl, _, rfl, _, rfl, d, c, .ref ps, (("" : Str) :: ks).length, (fun _ x => ∃ z, x = .str z ∧ z ∈ (("" : Str) :: ks)), rfl, da, .inl ⟨ps, _, rfl, psd, psc, ka ps _ psd psc hps4, by rw [List.length_map], items_strs (ws := ("" : Str) :: ks) fun z hz => hz⟩, Nat.succ_pos _, by rw [List.length_cons]; omega, fun i x H6 px dr6 k6 => ?_⟩
        obtain ⟨z, rfl, mz⟩ := px
        refine ⟨by show 4 ≤ sizeLine; omega, fun pl npl => ?_⟩
        obtain ⟨pld, plc'⟩ := dr6.apart npl
        have s6 := same_new (o := .lst [V.str b, .str b, .str b, .str z]) npl
        refine ⟨d, c, .ref pl, 4, (fun _ x => ∃ z', x = .str z' ∧ z' ∈ ([b, b, b, z] : List Str)), rfl, dr6.mono s6, .inl ⟨pl, _, rfl, pld, plc', upd_same, rfl, items_strs (ws := [b, b, b, z]) fun z hz => hz⟩, by decide, by decide, fun i' x' H7 px' dr7 k7 => ?_⟩
        obtain ⟨z', rfl, mz'⟩ := px'
        have k67 := (k6.trans (Keep.of_same s6)).trans k7
        have hL7 := k67 L _ Ld Lc hL
        have pz' : Pl t z' := by
          rcases List.mem_cons.mp mz' with h | h
          · rw [h]; exact pb
          rcases List.mem_cons.mp h with h | h
          · rw [h]; exact pb
          rcases List.mem_cons.mp h with h | h
          · rw [h]; exact pb
          · rw [List.mem_singleton.mp h]; exact inPl z mz
        have jl := (List.getElem?_eq_some_iff.mp hb).1
        exact ⟨_, hL7, by rw [List.length_map]; omega, dr7.off Ld Lc, (ka.trans k67).put nL, ws ++ [z'], by rw [upd_same, List.map_append] <;> rfl, by rw [List.length_append, lw'] <;> rfl, fun y hy => (List.mem_append.mp hy).elim (pw' y) fun h => by rw [List.mem_singleton.mp h]; exact pz'⟩
      intro H5 ⟨dr5, kp5, ws5, hL5, lw5, pw5⟩
      rw [List.length_map] at lw5
      exact kn _ _ ⟨L, ws5, rfl, dr5, kp4.trans kp5, hL5, lw5, pw5⟩
    rintro σ' H4 ⟨l2, zs2, rfl, dr4, kp4, hl2, el, pl2⟩
    have hD4 := kp4 D _ Dd Dc hD3
    have hq4 := kp4 q _ qd qc hq3
    have tb4 := tabs_keep tb3 dr3 kp4
    have n1' : 1 ≤ zs.length := by omega
    have n60' : zs.length ≤ 60 := by omega
    clear dr1 tb1 hq1 s01 hps dr2 kp2 hD2 hps2 dr3 kp3 hE3 kp03 tb3 hD3 hps3 hq3 kp4 pw lwz lw
    -- two assignments
    refine ⟨_, rfl, fun x dx nx ndx nxd => ?_⟩
    have sN : Same H4 (upd (upd H4 dx (.own x)) x (.ins CF dx [])) := fun b u e => by
      rw [upd_ne (ne_of_none e nx), upd_ne (ne_of_none e ndx)]
      exact e
    refine ⟨x, q, dx, t, rfl, upd_same, sN _ _ hq4, o, fun H5 us pts asc fa5 oth => ⟨rfl, _, rfl, fun y dy ny ndy nyd => ?_⟩⟩
    have s45 : Same H4 H5 := fun b u e => oth b u (ne_of_none e nx) (sN _ _ e)
    have ot : TreeOk us := o.perm pts.symm
    have pk : (us.map Prod.fst).Perm (t.map Prod.fst) := pts.map _
    have plU : ∀ {l : List Str}, (∀ z ∈ l, Pl t z) → ∀ z ∈ l, Pl us z := fun h z hz => (h z hz).imp id fun m => pk.mem_iff.mpr m
    have sN1 : Same H5 (upd (upd H5 dy (.own y)) y (.ins CA dy [])) := fun b u e => by
      rw [upd_ne (ne_of_none e ny), upd_ne (ne_of_none e ndy)]
      exact e
    refine ⟨y, x, D, dy, us, zs, rfl, upd_same, fa5.mono sN1, ot, sN1 _ _ (s45 _ _ hD4), n1', n60', plU pz, fun H6 aa6 oth2 => ⟨rfl, ?_⟩⟩
    have s56 : Same H5 H6 := fun b u e => oth2 b u (ne_of_none e ny) (sN1 _ _ e)
    have s46 := s45.trans s56
    refine ⟨_, rfl, fun x2 dx2 nx2 ndx2 nxd2 => ?_⟩
    have sN2 : Same H6 (upd (upd H6 dx2 (.own x2)) x2 (.ins CF dx2 [])) := fun b u e => by
      rw [upd_ne (ne_of_none e nx2), upd_ne (ne_of_none e ndx2)]
      exact e
    refine ⟨x2, q, dx2, t, rfl, upd_same, sN2 _ _ (s46 _ _ hq4), o, fun H7 us2 pts2 asc2 fb7 oth3 => ⟨rfl, _, rfl, fun y2 dy2 ny2 ndy2 nyd2 => ?_⟩⟩
    have s67 : Same H6 H7 := fun b u e => oth3 b u (ne_of_none e nx2) (sN2 _ _ e)
    have evs : us = us2 := (asc_one ot (pts2.trans pts.symm) asc asc2).symm
    subst evs
    have sN3 : Same H7 (upd (upd H7 dy2 (.own y2)) y2 (.ins CA dy2 [])) := fun b u e => by
      rw [upd_ne (ne_of_none e ny2), upd_ne (ne_of_none e ndy2)]
      exact e
    refine ⟨y2, x2, l2, dy2, us, zs2, rfl, upd_same, fb7.mono sN3, ot, sN3 _ _ (s67 _ _ (s46 _ _ hl2)), by omega, by omega, plU pl2, fun H8 ab8 oth4 => ⟨rfl, ?_⟩⟩
    have s78 : Same H7 H8 := fun b u e => oth4 b u (ne_of_none e ny2) (sN3 _ _ e)
    have s48 := (s46.trans s67).trans s78
    have s68 := s67.trans s78
    refine ⟨by show 2 ≤ sizeLine; omega, fun tp ntp => ⟨tp, _, rfl, .inl (.inl upd_same), rfl, _, _, rfl, _, _, rfl, rfl, ?_⟩⟩
    have st := same_new (o := .tup [.ref y, .ref y2]) ntp
    obtain ⟨H9, e9⟩ : ∃ X, X = upd H8 tp (.tup [.ref y, .ref y2]) := ⟨_, rfl⟩
    rw [← e9] at st
    have s49 := s48.trans st
    have aa9 := aa6.mono (s68.trans st)
    have ab9 := ab8.mono st
    have fa9 := fa5.mono ((s56.trans s68).trans st)
    have fb9 := fb7.mono (s78.trans st)
    have dr9 := dr4.mono s49
    have tb9 := tb4.ext s49
    have hq9 := s49 _ _ hq4
    have hD9 := s49 _ _ hD4
    have hl9 := s49 _ _ hl2
    show (_ : St → Hp → Prop) [some (.ref a), some (.ref d), some (.int (0 + ((jj : Nat) : Int))), some (.ref q), some (.int n), some (.ref ps), some (.ref D), some (.ref l2), some (.ref y), some (.ref y2), u10, u11, u12, u13, u14, u15, u16, none, none, none] (upd H8 tp (.tup [.ref y, .ref y2]))
    rw [← e9]
    clear e9 st ntp s48 s68 s78 s67 s46 s56 s45 sN sN1 sN2 sN3 oth oth2 oth3 oth4 ab8 fb7 aa6 fa5 s49 dr4 tb4 hq4 hD4 hl2
    -- told, due
    have mat : matB us us zs zs2 = true := matB_self ot el.symm
    obtain ⟨rows, er⟩ : ∃ rows, rows = chT us zs zs2 zs.length := ⟨_, rfl⟩
    have lrow : rows.length ≤ 2000 := by
      have := chT_len (zs1 := zs) (zs2 := zs2) ot.few zs.length
      rw [er]
      omega
    have okr : ∀ z ∈ rows, TgOk z := by
      rw [er]
      exact chT_ok ot (plU pz) (plU pl2) n60'
    obtain ⟨v1, v2, v3, v4, shp, lay⟩ := tgs_fit okr lrow
    refine ⟨_, rfl, _, rfl, _, ⟨y, y2, x, x2, us, us, zs, zs2, rfl, aa9, ab9, fa9, fb9, ot, n60', fun _ => ⟨rfl, plU pz, plU pl2⟩, rfl⟩, fun D9 nD9 => ?_⟩
    rw [mat, ← er]
    refine lcg_rows (j := 19) ?_ nD9 lrow fun rs H10 s10 hT10 pr10 => ?_
    · show 19 < 20
      decide
    refine ⟨_, rfl, _, rfl, _, rfl, q, D, l2, t, zs, zs2, rfl, s10 _ _ hq9, o, s10 _ _ hD9, s10 _ _ hl9, el.symm, n60', pz, pl2, fun pd rs2 H11 s11 npd hpd pr11 => ⟨_, _, rfl, ?_⟩⟩
    rw [chT_perm ot pts zs zs2, ← er] at pr11
    have lr2 := pair_lenZ pr11
    have s911 := s10.trans s11
    have hT11 := s11 _ _ hT10
    have pt11 := RowT.same s11 pr10
    -- the same rows
    refine ⟨_, rfl, _, .list (rows.map tgD), rfl, .inl ⟨.lst (SqL.of hT11) (tgs_dps pt11), v1⟩, v2, v3, v4, _, rfl, _, .list (rows.map tgD), rfl, .inl ⟨.lst (SqL.of hpd) (tgs_dps pr11), v1⟩, v2, v3, v4, rfl, _, rfl, ?_⟩
    rw [decide_eq_true rfl]
    refine iteF ?_
    refine ⟨_, rfl, _, rfl, rfl, _, ⟨y, y2, x, x2, us, us, zs, zs2, rfl, aa9.mono s911, ab9.mono s911, fa9.mono s911, fb9.mono s911, ot, n60', fun _ => ⟨rfl, plU pz, plU pl2⟩, rfl⟩, fun D12 nD12 => ?_⟩
    rw [mat, ← er]
    refine lcg_rows (j := 19) ?_ nD12 lrow fun rs3 H12 s12 hK12 pr12 => ?_
    · show 19 < 20
      decide
    refine ⟨_, rfl, .list (rows.map tgD), .list (rows.map tgD), .lst (SqL.of hK12) (tgs_dps pr12), .lst (SqL.of (s12 _ _ hpd)) (tgs_dps (RowT.same s12 pr11)), shp, shp, _, rfl, ?_⟩
    rw [SeqAt.eqv_refl _ lay]
    refine iteF ?_
    have s912 := s911.trans s12
    -- how many
    have far : ((rows.length : Nat) : Int) = farS us zs zs2 := by rw [er]; exact chT_far el.symm
    refine ⟨_, rfl, _, rfl, y, y2, x, x2, us, us, zs, zs2, rfl, aa9.mono s912, ab9.mono s912, fa9.mono s912, fb9.mono s912, .inr ⟨rfl, ot, el.symm, by omega, plU pz, plU pl2, fun H13 s13 => ?_⟩⟩
    have hpd13 := s13 _ _ (s12 _ _ hpd)
    refine ⟨_, rfl, pd, _, rfl, .inl (SqL.of hpd13), rfl, _, rfl, ?_⟩
    rw [decide_eq_true (show V.int (farS us zs zs2) = V.int ((rs2.map V.ref).length : Int) by rw [List.length_map, lr2, far])]
    refine iteF ?_
    have s913 := s912.trans s13
    refine ⟨_, rfl, _, rfl, rfl, y2, y, x2, x, us, us, zs2, zs, rfl, ab9.mono s913, aa9.mono s913, fb9.mono s913, fa9.mono s913, .inr ⟨rfl, ot, el, by omega, plU pl2, plU pz, fun H14 s14 => ?_⟩⟩
    have hpd14 := s14 _ _ hpd13
    refine ⟨_, rfl, pd, _, rfl, .inl (SqL.of hpd14), rfl, _, rfl, ?_⟩
    rw [decide_eq_true (show V.int (farS us zs2 zs) = V.int ((rs2.map V.ref).length : Int) by rw [List.length_map, lr2, far, farS_symm])]
    refine iteF ?_
    have s914 := s913.trans s14
    -- the distances
    have hq14 := s914 _ _ hq9
    have hD14 := s914 _ _ hD9
    have hl14 := s914 _ _ hl9
    refine ⟨_, rfl, pd, _, rfl, .inl (SqL.of hpd14), ?_⟩
    refine ⟨_, rfl, D, _, rfl, SqL.of hD14, fun L nL => ?_⟩
    refine lc_it walk_enum (fun j H' => Same H14 H' ∧ H' L = some (.lst (((List.range j).map fun i => distT t (zs.getD i "") (zs2.getD i "")).map V.int))) ⟨same_new nL, upd_same⟩ (fun j H' _ w => SqL.of (w.1 _ _ hD14)) ?_ ?_
    · intro j TT Hx Hy hj ⟨q1, hL⟩ ⟨T', y0, z0, eT, nT, eH, ey, ez⟩
      subst eT
      subst eH
      cases ey
      obtain ⟨b, hb, rfl⟩ := map_of (f := V.str) (l := zs) (show (zs.map V.str)[j]? = some z0 from ez)
      have jl := (List.getElem?_eq_some_iff.mp hb).1
      have sT := same_new (o := .tup [.int (j : Int), .str b]) nT
      obtain ⟨b2, hb2⟩ : ∃ b2, zs2[j]? = some b2 := ⟨_, List.getElem?_eq_getElem (by omega)⟩
      have g1 : zs.getD j "" = b := by rw [List.getD_eq_getElem?_getD, hb] <;> rfl
      have g2 : zs2.getD j "" = b2 := by rw [List.getD_eq_getElem?_getD, hb2] <;> rfl
      have kT := q1.trans sT
      refine ⟨T', [.int (j : Int), .str b], rfl, .inl (.inl upd_same), rfl, _, _, rfl, _, _, rfl, rfl, rfl, ?_⟩
      refine ⟨_, rfl, _, rfl, _, rfl, _, rfl, l2, _, _, _, rfl, rfl, SqL.of (kT _ _ hl14), atI_nat (by rw [List.getElem?_map, hb2] <;> rfl), q, b, b2, t, rfl, kT _ _ hq14, o, pz b (List.mem_of_getElem? hb), pl2 b2 (List.mem_of_getElem? hb2), fun H' s' => ?_⟩
      refine ⟨_, s' _ _ (sT _ _ hL), by rw [List.length_map, List.length_map, List.length_range]; omega, (kT.trans s').put nL, ?_⟩
      rw [upd_same, List.range_succ, List.map_append, List.map_append, List.map_cons, List.map_cons, List.map_nil, List.map_nil, g1, g2]
    intro H15 ⟨s15, hL15⟩
    rw [List.length_map] at hL15
    refine ⟨L, _, rfl, SqL.of hL15, rfl, _, rfl, ?_⟩
    rw [sum_dist o pz pl2, chT_perm ot pts zs zs2, ← er, decide_eq_true (show V.int ((rs2.map V.ref).length : Int) = V.int (rows.length : Int) by rw [List.length_map, lr2])]
    refine iteF ?_
    have s915 := s914.trans s15
    have s1115 : Same H11 H15 := ((s12.trans s13).trans s14).trans s15
    -- from path to path
    refine ⟨_, rfl, _, rfl, _, rfl, _, rfl, q, D, l2, D9, t, zs, zs2, rs, rfl, s915 _ _ hq9, o, s915 _ _ hD9, s915 _ _ hl9, el.symm, n60', pz, pl2, s1115 _ _ hT11, by rw [chT_perm ot pts zs zs2, ← er]; exact RowT.same s1115 pt11, fun H16 s16 => ⟨true, rfl, ?_⟩⟩
    refine iteF ?_
    have s916 := s915.trans s16
    refine ⟨_, rfl, _, rfl, y, y, x, x, us, us, zs, zs, rfl, aa9.mono s916, aa9.mono s916, fa9.mono s916, fa9.mono s916, .inr ⟨rfl, ot, rfl, by omega, plU pz, plU pz, fun H17 s17 => ⟨rfl, _, rfl, ?_⟩⟩⟩
    rw [decide_eq_true (show V.int (farS us zs zs) = V.int 0 by rw [farS_self])]
    refine iteF ?_
    have s917 := s916.trans s17
    have aa17 := aa9.mono s917
    have fa17 := fa9.mono s917
    have dr17 := dr9.mono s917
    have tb17 := tb9.ext s917
    have hq17 := s917 _ _ hq9
    have hD17 := s917 _ _ hD9
    clear s914 s915 s916 s1115 hpd13 hpd14 hT11 pt11 pr11 hT10 pr10 s911 s912 s913 s10 s11 s12 s13 s14 s15 s16 s17 hq14 hD14 hl14 hL15 hK12 pr12 aa9 ab9 fa9 fb9 dr9 tb9 hq9 hD9 hl9
    -- one flag more
    dsimp only [tAsg, tNext, tSeq]
    refine join_te (fun v H' => ∃ (pm : Addr) (tm : List (Str × Str)), v = .ref pm ∧ Same H17 H' ∧ H17 pm = none ∧ H' pm = some (.dK (prs tm)) ∧ tm.length ≤ 12 ∧ ("zzzz" : Str) ∉ tm.map Prod.fst ∧ TreeOk (tm ++ [(("zzzz" : Str), ("" : Str))]) ∧ tm.length + 1 ≠ t.length) (fun Q' kq => ?_) ?_
    · refine ⟨_, rfl, q, prs t, rfl, hq17, _, _, rfl, rfl, _, rfl, ?_⟩
      rw [prs_len]
      by_cases l12 : t.length < 12
      · rw [decide_eq_true (show ((t.length : Nat) : Int) < 12 by omega)]
        exact iteT ⟨_, rfl, q, _, rfl, .inl hq17, fun pm npm => kq _ _ ⟨pm, t, rfl, same_new npm, npm, upd_same, few, zz_new inp, zz_ok o l12 (zz_new inp), by omega⟩⟩
      · rw [decide_eq_false (show ¬ ((t.length : Nat) : Int) < 12 by omega)]
        exact iteF fun pm npm => kq _ _ ⟨pm, [], rfl, same_new npm, npm, upd_same, by decide, by simp, zz1_ok, by show 0 + 1 ≠ _; omega⟩
    rintro v H18 ⟨pm, tm, rfl, s1718, npm, hpm, lm12, nz, otm, lne⟩
    refine ⟨_, rfl, pm, _, rfl, DPut.k (k := Sum.inr "zzzz") hpm (by rw [prs_len]; omega), ?_⟩
    rw [put_new nz]
    obtain ⟨tz, etz⟩ : ∃ tz, tz = tm ++ [(("zzzz" : Str), ("" : Str))] := ⟨_, rfl⟩
    rw [← etz] at otm ⊢
    have lz1 : tz.length ≠ t.length := by rw [etz, List.length_append]; exact lne
    have noz : eqDK (prs tz) (prs t) = false := eqDK_len lz1
    obtain ⟨H19, e19⟩ : ∃ X, X = upd H18 pm (.dK (prs tz)) := ⟨_, rfl⟩
    have hpm19 : H19 pm = some (.dK (prs tz)) := by rw [e19]; exact upd_same
    have s1719 : Same H17 H19 := by rw [e19]; exact s1718.put npm
    rw [← e19]
    clear e19
    refine ⟨_, rfl, fun x3 dx3 nx3 ndx3 nxd3 => ?_⟩
    have sN4 : Same H19 (upd (upd H19 dx3 (.own x3)) x3 (.ins CF dx3 [])) := fun b u e => by
      rw [upd_ne (ne_of_none e nx3), upd_ne (ne_of_none e ndx3)]
      exact e
    refine ⟨x3, pm, dx3, tz, rfl, upd_same, sN4 _ _ hpm19, otm, fun H20 us3 pts3 asc3 fc20 oth5 => ⟨rfl, ?_⟩⟩
    have s1920 : Same H19 H20 := fun b u e => oth5 b u (ne_of_none e nx3) (sN4 _ _ e)
    have ot3 : TreeOk us3 := otm.perm pts3.symm
    refine ⟨by show 1 ≤ sizeLine; omega, fun pb npb => ⟨_, rfl, pb, n, _, rfl, rfl, upd_same, by omega, by omega, ?_, fun pw npw => ?_⟩⟩
    · show 1 * _ ≤ sizeLine
      omega
    rw [rep5]
    have sb1 := same_new (o := .lst [V.str ("" : Str)]) npb
    have sb2 := same_new (o := .lst ((List.replicate n.toNat ("" : Str)).map V.str)) npw
    obtain ⟨H21, e21⟩ : ∃ X, X = upd (upd H20 pb (.lst [V.str ("" : Str)])) pw (.lst ((List.replicate n.toNat ("" : Str)).map V.str)) := ⟨_, rfl⟩
    have s2021 : Same H20 H21 := e21 ▸ sb1.trans sb2
    have hw21 : H21 pw = some (.lst ((List.replicate n.toNat ("" : Str)).map V.str)) := by rw [e21]; exact upd_same
    rw [← e21]
    clear e21 sb1 sb2
    refine fun y3 dy3 ny3 ndy3 nyd3 => ?_
    have sN5 : Same H21 (upd (upd H21 dy3 (.own y3)) y3 (.ins CA dy3 [])) := fun b u e => by
      rw [upd_ne (ne_of_none e ny3), upd_ne (ne_of_none e ndy3)]
      exact e
    refine ⟨y3, x3, pw, dy3, us3, List.replicate n.toNat ("" : Str), rfl, upd_same, (fc20.mono s2021).mono sN5, ot3, sN5 _ _ hw21, by rw [List.length_replicate]; omega, by rw [List.length_replicate]; omega, fun z hz => .inl (List.eq_of_mem_replicate hz), fun H22 ac22 oth6 => ⟨rfl, ?_⟩⟩
    have s2122 : Same H21 H22 := fun b u e => oth6 b u (ne_of_none e ny3) (sN5 _ _ e)
    have s2022 := s2021.trans s2122
    have s1722 := (s1719.trans s1920).trans s2022
    obtain ⟨no1, no2⟩ := eqDK_no otm o pts3 pts noz
    have st3 : Str05 CF CA us zs H22 y3 := ⟨x3, us3, _, ac22, fc20.mono s2022, ot3, by rw [List.length_replicate]; omega, by unfold matB; rw [no2, Bool.false_and], by unfold matB; rw [no1, Bool.false_and]⟩
    have aa22 := aa17.mono s1722
    have fa22 := fa17.mono s1722
    have dr22 := dr17.mono s1722
    have tb22 := tb17.ext s1722
    have hq22 := s1722 _ _ hq17
    have hD22 := s1722 _ _ hD17
    clear aa17 fa17 dr17 tb17 hq17 hD17 sN4 sN5 oth5 oth6 s1719 s1718 s1920 s2021 s2122 s2022 hpm hpm19 hw21 ac22 fc20
    -- one user less
    refine ⟨_, rfl, fun x4 dx4 nx4 ndx4 nxd4 => ?_⟩
    have sN6 : Same H22 (upd (upd H22 dx4 (.own x4)) x4 (.ins CF dx4 [])) := fun b u e => by
      rw [upd_ne (ne_of_none e nx4), upd_ne (ne_of_none e ndx4)]
      exact e
    refine ⟨x4, q, dx4, t, rfl, upd_same, sN6 _ _ hq22, o, fun H23 us4 pts4 asc4 fd23 oth7 => ⟨rfl, ?_⟩⟩
    have s2223 : Same H22 H23 := fun b u e => oth7 b u (ne_of_none e nx4) (sN6 _ _ e)
    have evs4 : us = us4 := (asc_one ot (pts4.trans pts.symm) asc asc4).symm
    subst evs4
    have hD23 := s2223 _ _ hD22
    have lt1 : ((zs ++ ([("" : Str), ""] : List Str)).take (zs.length - 1)).length = zs.length - 1 := by
      rw [List.length_take, List.length_append]
      show min _ (_ + 2) = _
      omega
    refine chk_orV (fun v H' => ∃ (p : Addr) (vs : List Str), v = .ref p ∧ Same H23 H' ∧ H' p = some (.lst (vs.map V.str)) ∧ 1 ≤ vs.length ∧ vs.length ≤ 60 ∧ vs.length ≠ zs.length ∧ ∀ z ∈ vs, Pl us z) (fun v H' => ∃ p : Addr, v = .ref p ∧ Same H23 H' ∧ H' p = some (.lst (((zs ++ ([("" : Str), ""] : List Str)).take (zs.length - 1)).map V.str))) (fun Q' kq => ?_) ?_ ?_
    · refine ⟨_, rfl, by show 1 ≤ sizeLine; omega, fun pb npb => ⟨pb, 2, _, rfl, rfl, upd_same, by decide, by decide, by show 1 * 2 ≤ sizeLine; omega, fun pw npw => ?_⟩⟩
      have sb1 := same_new (o := .lst [V.str ("" : Str)]) npb
      have sb2 := same_new (o := .lst ((List.replicate (2 : Int).toNat [V.str ("" : Str)]).flatten)) npw
      refine ⟨D, pw, _, _, rfl, rfl, sb2 _ _ (sb1 _ _ hD23), upd_same, ?_, fun pc npc => ?_⟩
      · rw [List.length_map]
        show _ + 2 ≤ sizeLine
        omega
      have sb3 := same_new (o := .lst (zs.map V.str ++ (List.replicate (2 : Int).toNat [V.str ("" : Str)]).flatten)) npc
      refine ⟨_, rfl, _, _, rfl, rfl, _, rfl, pc, _, rfl, SqL.of upd_same, fun p np => kq _ _ ⟨p, rfl, ((sb1.trans sb2).trans sb3).trans (same_new np), ?_⟩⟩
      rw [upd_same, show zs.map V.str ++ (List.replicate (2 : Int).toNat [V.str ("" : Str)]).flatten = (zs ++ ([("" : Str), ""] : List Str)).map V.str by rw [List.map_append] <;> rfl, show n - 1 = ((zs.length - 1 : Nat) : Int) by omega, cut_take (by rw [List.length_map, List.length_append]; omega), List.map_take]
    · rintro v H1 ⟨p, rfl, s, hp⟩
      cases e : (zs ++ ([("" : Str), ""] : List Str)).take (zs.length - 1) with
      | nil =>
        rw [e] at hp lt1
        have z1 : zs.length = 1 := by
          have : (0 : Nat) = zs.length - 1 := lt1
          omega
        exact ⟨false, .inl ⟨_, SqL.of hp, rfl⟩, (fun h => by cases h), fun _ Q' kq => ⟨by show 2 ≤ sizeLine; omega, fun p2 np2 => kq _ _ ⟨p2, ["", ""], rfl, s.trans (same_new np2), upd_same, by decide, by decide, by rw [z1]; decide, fun z hz => .inl (by simpa using hz)⟩⟩⟩
      | cons y r =>
        rw [e] at hp lt1
        exact ⟨true, .inl ⟨_, SqL.of hp, rfl⟩, fun _ => ⟨p, y :: r, rfl, s, hp, by rw [List.length_cons]; omega, by omega, by omega, fun z hz => by
          rw [← e] at hz
          rcases List.mem_append.mp (List.mem_of_mem_take hz) with h | h
          · exact plU pz z h
          · exact .inl (by simpa using h)⟩, fun h => by cases h⟩
    rintro v H24 ⟨p4, vs, rfl, s2324, hp4, v1', v60, vne, vpl⟩
    refine fun y4 dy4 ny4 ndy4 nyd4 => ?_
    have sN7 : Same H24 (upd (upd H24 dy4 (.own y4)) y4 (.ins CA dy4 [])) := fun b u e => by
      rw [upd_ne (ne_of_none e ny4), upd_ne (ne_of_none e ndy4)]
      exact e
    refine ⟨y4, x4, p4, dy4, us, vs, rfl, upd_same, (fd23.mono s2324).mono sN7, ot, sN7 _ _ hp4, v1', v60, vpl, fun H25 ad25 oth8 => ⟨rfl, ?_⟩⟩
    have s2425 : Same H24 H25 := fun b u e => oth8 b u (ne_of_none e ny4) (sN7 _ _ e)
    have s2225 := (s2223.trans s2324).trans s2425
    have st4 : Str05 CF CA us zs H25 y4 := ⟨x4, us, vs, ad25, fd23.mono (s2324.trans s2425), ot, v60, by unfold matB; rw [decide_eq_false fun z => vne z.symm, Bool.and_false], by unfold matB; rw [decide_eq_false vne, Bool.and_false]⟩
    have st3 := st3.mono s2225
    refine ⟨_, rfl, by show 2 ≤ sizeLine; omega, fun ls nls => ?_⟩
    have aa25 := aa22.mono s2225
    have fa25 := fa22.mono s2225
    have dr25 := dr22.mono s2225
    have tb25 := tb22.ext s2225
    have hq25 := s2225 _ _ hq22
    have hD25 := s2225 _ _ hD22
    obtain ⟨lsd, lsc⟩ := dr25.apart nls
    have sls := same_new (o := .lst [V.ref y4, .ref y3]) nls
    obtain ⟨H26, e26⟩ : ∃ X, X = upd H25 ls (.lst [V.ref y4, .ref y3]) := ⟨_, rfl⟩
    have hls26 : H26 ls = some (.lst (([y4, y3] : List Addr).map V.ref)) := by rw [e26]; exact upd_same
    rw [← e26] at sls ⊢
    clear e26 aa22 fa22 dr22 tb22 hq22 hD22 sN6 sN7 oth7 oth8 s2223 s2324 s2425 s2225 hD23 fd23 ad25 hp4
    -- other parents
    dsimp only [gName, tAsg, tNext, tSeq]
    refine join_te (fun v H' => Same H26 H' ∧ (v = .non ∨ ∃ (p : Addr) (t' : List (Str × Str)), v = .ref p ∧ H' p = some (.dK (prs t')) ∧ TreeOk t' ∧ eqDK (prs t') (prs t) = false ∧ t'.map Prod.fst = t.map Prod.fst)) (fun Q' kq => ⟨_, rfl, q, t, rfl, sls _ _ hq25, o, fun H' s' => kq _ _ ⟨s', .inl rfl⟩, fun p t' H' s' np hp o' no ek => kq _ _ ⟨s', .inr ⟨p, t', rfl, hp, o', no, ek⟩⟩⟩) ?_
    rintro mv H27 ⟨s2627, hmv⟩
    have hls27 := s2627 _ _ hls26
    have s2527 := sls.trans s2627
    have fin : ∀ (rs : List Addr) (H' : Hp), Same H25 H' → H' ls = some (.lst (rs.map V.ref)) → (∀ r ∈ rs, Str05 CF CA us zs H' r) →
        (fun σ' H' => ∃ rs : List Addr, σ' = [some (.ref a), some (.ref d), some (.int (0 + ((jj : Nat) : Int))), some (.ref q), some (.int n), some (.ref ps), some (.ref D), some (.ref l2), some (.ref y), some (.ref y2), some (.ref D9), some (.ref pd), some (.ref pm), some (.ref y3), some (.ref ls), some mv, u16, none, none, none] ∧ Same H25 H' ∧ H' ls = some (.lst (rs.map V.ref)) ∧ ∀ r ∈ rs, Str05 CF CA us zs H' r) [some (.ref a), some (.ref d), some (.int (0 + ((jj : Nat) : Int))), some (.ref q), some (.int n), some (.ref ps), some (.ref D), some (.ref l2), some (.ref y), some (.ref y2), some (.ref D9), some (.ref pd), some (.ref pm), some (.ref y3), some (.ref ls), some mv, u16, none, none, none] H' := fun rs H' s1 h1 h2 => ⟨rs, rfl, s1, h1, h2⟩
    have two : ∀ r ∈ ([y4, y3] : List Addr), Str05 CF CA us zs H27 r := fun r hr => by
      rcases List.mem_cons.mp hr with h | h
      · rw [h]
        exact st4.mono s2527
      · rw [List.mem_singleton.mp h]
        exact st3.mono s2527
    refine join_ifT (fun b H' => H' = H27 ∧ (b = true → mv ≠ .non)) (fun σ' H' => ∃ rs : List Addr, σ' = [some (.ref a), some (.ref d), some (.int (0 + ((jj : Nat) : Int))), some (.ref q), some (.int n), some (.ref ps), some (.ref D), some (.ref l2), some (.ref y), some (.ref y2), some (.ref D9), some (.ref pd), some (.ref pm), some (.ref y3), some (.ref ls), some mv, u16, none, none, none] ∧ Same H25 H' ∧ H' ls = some (.lst (rs.map V.ref)) ∧ ∀ r ∈ rs, Str05 CF CA us zs H' r)
      (fun Q' kq => ⟨_, rfl, rfl, _, rfl, kq _ _ ⟨rfl, fun h z => by rw [z] at h; exact absurd h (by decide)⟩⟩) ?_ (fun H' z => by rw [z.1]; exact fin _ _ s2527 hls27 two) ?_
    · rintro H' ⟨rfl, nn⟩ D' kn
      obtain ⟨p5, t5, rfl, hp5, o5, no5, ek5⟩ := hmv.resolve_left (nn rfl)
      refine ⟨_, rfl, .inl ⟨rfl, _, SqL.of hls27⟩, _, rfl, fun x5 dx5 nx5 ndx5 nxd5 => ?_⟩
      have sN8 : Same H' (upd (upd H' dx5 (.own x5)) x5 (.ins CF dx5 [])) := fun b u e => by
        rw [upd_ne (ne_of_none e nx5), upd_ne (ne_of_none e ndx5)]
        exact e
      refine ⟨x5, p5, dx5, t5, rfl, upd_same, sN8 _ _ hp5, o5, fun H28 us5 pts5 asc5 fe28 oth9 => ⟨rfl, _, rfl, fun y5 dy5 ny5 ndy5 nyd5 => ?_⟩⟩
      have s2728 : Same H' H28 := fun b u e => oth9 b u (ne_of_none e nx5) (sN8 _ _ e)
      have ot5 : TreeOk us5 := o5.perm pts5.symm
      have pl5 : ∀ z ∈ zs, Pl us5 z := fun z hz => (pz z hz).imp id fun m => (pts5.map Prod.fst).mem_iff.mpr (by rw [ek5]; exact m)
      have sN9 : Same H28 (upd (upd H28 dy5 (.own y5)) y5 (.ins CA dy5 [])) := fun b u e => by
        rw [upd_ne (ne_of_none e ny5), upd_ne (ne_of_none e ndy5)]
        exact e
      refine ⟨y5, x5, D, dy5, us5, zs, rfl, upd_same, fe28.mono sN9, ot5, sN9 _ _ (s2728 _ _ (s2527 _ _ hD25)), n1', n60', pl5, fun H29 ae29 oth10 => ⟨rfl, ?_⟩⟩
      have s2829 : Same H28 H29 := fun b u e => oth10 b u (ne_of_none e ny5) (sN9 _ _ e)
      have s2729 := s2728.trans s2829
      obtain ⟨no3, no4⟩ := eqDK_no o5 o pts5 pts no5
      have st5 : Str05 CF CA us zs H29 y5 := ⟨x5, us5, zs, ae29, fe28.mono s2829, ot5, n60', by unfold matB; rw [no4, Bool.false_and], by unfold matB; rw [no3, Bool.false_and]⟩
      have hls29 := s2729 _ _ hls27
      refine ⟨ls, _, _, rfl, rfl, hls29, by show 2 < sizeLine; omega, kn _ _ ⟨[y4, y3, y5], rfl, (s2527.trans s2729).put nls, upd_same, fun r hr => ?_⟩⟩
      have off : ∀ {r : Addr}, Str05 CF CA us zs H29 r → Str05 CF CA us zs (upd H29 ls (.lst (([y4, y3] : List Addr).map V.ref ++ [V.ref y5]))) r := fun ⟨x', us', zs', ⟨dy, p, a1, a2⟩, ⟨dz, dq, f1, f2⟩, h3⟩ => by
        have pl : p ≠ ls := fun z => by
          rw [z, hls29] at a2
          cases zs' with
          | nil => cases a2
          | cons z0 zr => cases a2
        refine ⟨x', us', zs', ⟨dy, p, ?_, ?_⟩, ⟨dz, dq, ?_, ?_⟩, h3⟩
        · rw [upd_ne (ne_of a1 hls29 (by intro z; cases z))]
          exact a1
        · rw [upd_ne pl]
          exact a2
        · rw [upd_ne (ne_of f1 hls29 (by intro z; cases z))]
          exact f1
        · rw [upd_ne (ne_of f2 hls29 (by intro z; cases z))]
          exact f2
      rcases List.mem_cons.mp hr with h | h
      · rw [h]
        exact off (st4.mono (s2527.trans s2729))
      rcases List.mem_cons.mp h with h | h
      · rw [h]
        exact off (st3.mono (s2527.trans s2729))
      · rw [List.mem_singleton.mp h]
        exact off st5
    rintro σ' H30 ⟨rs, rfl, s2530, hls30, sts⟩
    have aa30 := aa25.mono s2530
    have fa30 := fa25.mono s2530
    have dr30 := dr25.mono s2530
    have tb30 := tb25.ext s2530
    refine ⟨_, rfl, ls, rfl, ⟨_, SqL.of hls30⟩, ?_⟩
    refine for_it walk_list (fun j σ' H' => (∃ u16, σ' = [some (.ref a), some (.ref d), some (.int (0 + ((jj : Nat) : Int))), some (.ref q), some (.int n), some (.ref ps), some (.ref D), some (.ref l2), some (.ref y), some (.ref y2), some (.ref D9), some (.ref pd), some (.ref pm), some (.ref y3), some (.ref ls), some mv, u16, none, none, none]) ∧ DrawAt H' d c ∧ Tabs T H' ∧ AAt CA H' y x zs ∧ FAt CF H' x us ∧ H' ls = some (.lst (rs.map V.ref)) ∧ ∀ r ∈ rs, Str05 CF CA us zs H' r)
      ⟨⟨_, rfl⟩, dr30, tb30, aa30, fa30, hls30, sts⟩ (fun j σ' H' _ z => SqL.of z.2.2.2.2.2.1) ?_ (fun σ' H' ⟨⟨u16, e⟩, dr', tb', _⟩ => by subst e; exact ⟨⟨_, _, _, _, _, _, _, _, _, _, _, _, _, _, _, rfl⟩, dr', tb'⟩)
    intro j yv σ' Hx Hy hj ⟨⟨w16, eσ⟩, drA, tbA, aaA, faA, hlsA, strA⟩ ⟨eb, ex⟩
    subst eσ
    subst eb
    obtain ⟨r, hr', rfl⟩ := map_of (f := V.ref) (l := rs) ex
    have mr := List.mem_of_getElem? hr'
    obtain ⟨x', us', zs', aB, fB, oB, lB, m1, m2⟩ := strA r mr
    refine ⟨tbA, fun H31 e31 tb31 => ⟨_, rfl, _, rfl, y, r, x, x', us, us', zs, zs', rfl, aaA.keepN drA (KeepN.of_ext e31), aB.keepN drA (KeepN.of_ext e31), faA.keepN drA (KeepN.of_ext e31), fB.keepN drA (KeepN.of_ext e31), .inl ⟨m1, fun H32 s32 => ⟨2, by decide, by rw [e2], .inl rfl, fun H33 s33 => ⟨rfl, _, rfl, ?_⟩⟩⟩⟩⟩
    refine iteF ?_
    have kx33 : KeepN d c Hy H33 := (KeepN.of_ext e31).trans (Keep.of_same (s32.trans s33)).n
    have dr33 := ((drA.ext e31).mono s32).mono s33
    have tb33 := (tb31.ext s32).ext s33
    have aa33 := aaA.keepN drA kx33
    have fa33 := faA.keepN drA kx33
    have aB33 := aB.keepN drA kx33
    have fB33 := fB.keepN drA kx33
    have hls33 := kx33 ls _ lsd lsc hlsA (fun ps z => nomatch z)
    have str33 : ∀ r ∈ rs, Str05 CF CA us zs H33 r := fun r hr => (strA r hr).keepN drA kx33
    refine ⟨tb33, fun H34 e34 tb34 => ⟨_, rfl, _, rfl, _, ⟨r, y, x', x, us', us, zs', zs, rfl, aB33.keepN dr33 (KeepN.of_ext e34), aa33.keepN dr33 (KeepN.of_ext e34), fB33.keepN dr33 (KeepN.of_ext e34), fa33.keepN dr33 (KeepN.of_ext e34), oB, lB, (fun z => by rw [m2] at z; cases z), rfl⟩, ?_⟩⟩
    rw [m2]
    refine lcg_raise ns fun H35 s35 => ⟨2, by decide, by rw [e2], .inl rfl, fun H36 s36 => ⟨rfl, _, rfl, ?_⟩⟩
    have kx36 : KeepN d c H33 H36 := (KeepN.of_ext e34).trans (Keep.of_same (s35.trans s36)).n
    have dr36 := ((dr33.ext e34).mono s35).mono s36
    exact iteF ⟨⟨_, rfl⟩, dr36, (tb34.ext s35).ext s36, aa33.keepN dr33 kx36, fa33.keepN dr33 kx36, kx36 ls _ lsd lsc hls33 (fun ps z => nomatch z), fun r hr => (str33 r hr).keepN dr33 kx36⟩
end
end FT


/-! what the module's top says of classes, of defs: the form that the row's end asks for. -/
namespace FT
open PySem L2 TL ClX
abbrev exTail : List Value := [.type "ValueError", .type "Exception", .type "BaseException", .type "object"]
/-- an own class at C, its chain behind it -/
def ClsAt (K : PySem.W.Frag) (C : Addr) (bm : List Value) : Prop := ∃ nm q N bs sn sub ab col dd k0 k1 k2 k3 k5, K.lookup C = some (excClassObj nm q C N bs bm true sn sub ab col dd k0 k1 k2 k3 k5 "ValueError.__new__")
section
variable {K : PySem.W.Frag} {C : Addr} {bm : List Value}
theorem ClsAt.cls (h : ClsAt K C bm) : ∃ cd : ClassData, PySem.W.clsIn K C = some cd ∧ cd.mro = .ref C :: bm ∧ cd.hasDict = true := by
  obtain ⟨nm, q, N, bs, sn, sub, ab, col, dd, k0, k1, k2, k3, k5, e⟩ := h
  refine ⟨{ name := nm, bases := bs, mro := .ref C :: bm, ns := N, qualname := q, hasDict := true, slotNames := sn, subclasses := sub, abstract := ab, collection := col }, ?_, rfl, rfl⟩
  unfold PySem.W.clsIn
  rw [e]
theorem ClsAt.ty (h : ClsAt K C bm) : PySem.W.typeIn K (.ref C) = some (.type "type") := by
  obtain ⟨nm, q, N, bs, sn, sub, ab, col, dd, k0, k1, k2, k3, k5, e⟩ := h
  show (K.lookup C).map (·.cls) = _
  rw [e] <;> rfl
theorem ClsAt.mroIs (h : ClsAt K C bm) (b : Value) : PySem.W.mroIn K C b = some ((Value.ref C :: bm).contains b) := by
  obtain ⟨cd, e1, e2, _⟩ := h.cls
  unfold PySem.W.mroIn
  rw [e1]
  show (if cd.mro.isEmpty then none else some (cd.mro.contains b)) = _
  rw [e2] <;> rfl
theorem ClsAt.sub (h : ClsAt K C bm) (b : Value) : PySem.W.subIn K (.ref C) b = some ((Value.ref C :: bm).contains b) := h.mroIs b
theorem ClsAt.hd (h : ClsAt K C bm) : PySem.W.hasDictIn K C = true := by
  obtain ⟨cd, e1, _, e3⟩ := h.cls
  show (PySem.W.clsIn K C).any (·.hasDict) = true
  rw [e1]
  exact e3
theorem ClsAt.isC (h : ClsAt K C bm) : (PySem.W.clsIn K C).isSome = true := by
  obtain ⟨cd, e1, _⟩ := h.cls
  rw [e1] <;> rfl
/-- isinstance of the class at C against the class at D -/
theorem ClsAt.kit {D : Addr} {bn : List Value} (h : ClsAt K C bm) (g : ClsAt K D bn) : PySem.W.kitOne K (.ref C) (.ref D) = some ((Value.ref C :: bm).contains (.ref D)) := by
  unfold PySem.W.kitOne
  by_cases e : (Value.ref C == Value.ref D) = true
  · rw [if_pos e, beq_iff_eq.mp e, List.contains_cons, beq_self_eq_true] <;> rfl
  · rw [if_neg e]
    have e2 : ((PySem.W.clsIn K D).isSome && PySem.W.typeIn K (.ref D) == some (.type "type")) = true := by rw [g.isC, g.ty] <;> rfl
    show (if _ then PySem.W.subIn K (.ref C) (.ref D) else none) = _
    rw [if_pos e2, h.sub]
theorem ClsAt.exm {D : Addr} {bn : List Value} (h : ClsAt K C bm) (g : ClsAt K D bn) (eD : (Value.ref D :: bn).contains (.type "BaseException") = true) : PySem.W.exmOne K (.ref C) (.ref D) = some ((Value.ref C :: bm).contains (.ref D)) :=
  PySem.W.exm_ref (by rw [g.sub, eD]) g.hd g.ty (h.sub _)
end
/-- what the top says of one error class -/
structure ClsF (K : PySem.W.Frag) (nm f : Str) (C I R : Addr) : Prop where
  nsn : PySem.W.nsIn K mainGlobals nm = some (some (.ref C))
  at_ : ClsAt K C (.ref R :: exTail)
  sa : PySem.W.findIn K (.ref C) "__setattr__" = some (some (.builtin "object.__setattr__"))
  ga : PySem.W.findIn K (.ref C) "__getattribute__" = some (some (.builtin "BaseException.__getattribute__"))
  gg : PySem.W.findIn K (.ref C) "__getattr__" = some none
  ha : PySem.W.findIn K (.ref C) "__class__" = some (some (.builtin "object.__class__"))
  kC : PySem.W.keepIn K (.ref C) = true
  no : PySem.W.findIn K (.ref C) f = some none
  ini : PySem.W.findIn K (.ref C) "__init__" = some (some (.ref I))
  ity : PySem.W.typeIn K (.ref I) = some (.type "function")
/-- and of what they share -/
structure RootF (K : PySem.W.Frag) (R : Addr) : Prop where
  nsn : PySem.W.nsIn K mainGlobals "RolloutError" = some (some (.ref R))
  at_ : ClsAt K R exTail
  rd : PySem.W.readsIn K R (.type "type") = true
  ga : PySem.W.specialIn K (.ref R) "__getattribute__" = some (some (.builtin "type.__getattribute__"))
  ini : PySem.W.findCls K (.ref R) (.type "type") "__init__" = some (.val (.builtin "ValueError.__init__"))
  hn : PySem.W.specialIn K (.builtin "object.__class__") "__get__" = some (some (.builtin "getset_descriptor.__get__"))
  ht : PySem.W.takesIn K (.builtin "object.__class__") = some true
theorem ClsF.x {K : PySem.W.Frag} {nm f : Str} {C I R : Addr} (c : ClsF K nm f C I R) (r : RootF K R) : XCls K C where
  cls := by
    obtain ⟨nm, q, N, bs, sn, sub, ab, col, dd, k0, k1, k2, k3, k5, e⟩ := c.at_
    exact ⟨nm, q, N, bs, _, sn, sub, ab, col, dd, k0, k1, k2, k3, k5, e, rfl⟩
  sa := c.sa
  exC := by rw [c.at_.sub] <;> rfl
  tyC := c.at_.ty
  kC := c.kC
  ga := c.ga
  gg := c.gg
  hdC := c.at_.hd
  ha := c.ha
  hn := r.hn
  ht := r.ht
  hm := by rw [c.at_.mroIs] <;> rfl
theorem has_cls {C R D : Addr} {b : Bool} (h : decide (C = D) = b) (n : R ≠ D) : (Value.ref C :: Value.ref R :: exTail).contains (.ref D) = b := by
  subst h
  by_cases e : C = D
  · subst e
    rw [List.contains_cons, beq_self_eq_true, decide_eq_true rfl] <;> rfl
  · have e1 : (Value.ref D == Value.ref C) = false := beq_eq_false_iff_ne.mpr fun z => e (Value.ref.inj z).symm
    have e2 : (Value.ref D == Value.ref R) = false := beq_eq_false_iff_ne.mpr fun z => n (Value.ref.inj z).symm
    rw [decide_eq_false e, List.contains_cons, e1, List.contains_cons, e2] <;> rfl
theorem has_root {C R : Addr} : (Value.ref C :: Value.ref R :: exTail).contains (.ref R) = true := by
  rw [List.contains_cons, List.contains_cons, beq_self_eq_true, Bool.true_or, Bool.or_true]
theorem kit_bt {K : PySem.W.Frag} {C R : Addr} (c : ClsAt K C (.ref R :: exTail)) : PySem.W.kitOne K (.ref C) (.type "ValueError") = some true := by
  unfold PySem.W.kitOne
  rw [if_neg (show ¬ (Value.ref C == Value.type "ValueError") = true from fun z => nomatch (show false = true from z))]
  have e2 : PySem.W.kitMeta "ValueError" = true := by decide +kernel
  show (if PySem.W.kitMeta "ValueError" = true then PySem.W.subIn K (.ref C) (.type "ValueError") else none) = _
  rw [if_pos e2, c.sub] <;> rfl
/-- what the top says of a class with a constant MOST -/
structure ClsK (K : PySem.W.Frag) (nm : Str) (C : Addr) (n : Int) (t : Nat) : Prop where
  nsn : PySem.W.nsIn K mainGlobals nm = some (some (.ref C))
  rd : PySem.W.readsIn K C (.type "type") = true
  ga : PySem.W.specialIn K (.ref C) "__getattribute__" = some (some (.builtin "type.__getattribute__"))
  most : PySem.W.findCls K (.ref C) (.type "type") "MOST" = some (.val (.int n t))
  pg : PySem.W.plainGet K C Str.empty = true
  hd : PySem.W.hasDictIn K C = true
  po : PySem.W.plainOver K C = true
  sa : PySem.W.findIn K (.ref C) "__setattr__" = some (some (.builtin "object.__setattr__"))
  mks : PySem.W.makesIn K C = true
  kp : PySem.W.keepIn K (.ref C) = true
  ha : PySem.W.findIn K (.ref C) "__class__" = some (some (.builtin "object.__class__"))
  hn : PySem.W.specialIn K (.builtin "object.__class__") "__get__" = some (some (.builtin "getset_descriptor.__get__"))
  ht : PySem.W.takesIn K (.builtin "object.__class__") = some true
  hm : PySem.W.mroIn K C (.type "object") = some true
/-- a method -/
structure MetK (K : PySem.W.Frag) (C : Addr) (m : Str) (f : Addr) : Prop where
  at_ : PySem.W.findIn K (.ref C) m = some (some (.ref f))
  fn : PySem.W.isFn K (.ref f) = true
/-- a property -/
structure PrK (K : PySem.W.Frag) (C : Addr) (m : Str) (p g : Addr) (rest : List Value) : Prop where
  at_ : PySem.W.findIn K (.ref C) m = some (some (.ref p))
  get : PySem.W.specialIn K (.ref p) "__get__" = some (some (.builtin "property.__get__"))
  tak : PySem.W.takesIn K (.ref p) = some true
  rec_ : PySem.W.recIn K p "property" = some (.ref g :: rest)
theorem ClsF.er {K : PySem.W.Frag} {h : Heap} {mg : Str → Option Value} {nm f : Str} {C I R : Addr} (X : K.In h) (G : h.Ns mainGlobals mg) (c : ClsF K nm f C I R) (r : RootF K R) : Er K mg nm f C I :=
  ⟨PySem.W.mg_of X G c.nsn, c.x r, c.ini, c.ity, c.no⟩
theorem RootF.rt {K : PySem.W.Frag} {h : Heap} {mg : Str → Option Value} {R : Addr} (X : K.In h) (G : h.Ns mainGlobals mg) (r : RootF K R) : Rt K mg R := ⟨PySem.W.mg_of X G r.nsn, ⟨r.rd, r.ga, r.ini⟩⟩
theorem ClsK.fc {K : PySem.W.Frag} {h : Heap} {mg : Str → Option Value} {CF : Addr} {t t2 : Nat} (X : K.In h) (G : h.Ns mainGlobals mg) (k : ClsK K "Forest" CF 12 t) (root : PySem.W.findCls K (.ref CF) (.type "type") "ROOT" = some (.val (.str "" t2))) : Fc K mg CF (.type "type") :=
  ⟨PySem.W.mg_of X G k.nsn, ⟨k.rd, k.ga⟩, ⟨_, k.most, ⟨_, rfl⟩⟩, ⟨_, root, ⟨_, rfl⟩⟩⟩
theorem ClsK.cls {K : PySem.W.Frag} {nm : Str} {C : Addr} {n : Int} {t : Nat} (k : ClsK K nm C n t) : Cls K C := ⟨k.pg, k.hd, k.po, k.sa⟩
/-- a def with its code object and the table of that -/
structure TabK (K : PySem.W.Frag) (x : Str) (c P : Addr) : Prop where
  at_ : PySem.W.tabIn K x = some (c, P)
  no : K.lookup P = none
end FT


/-! Own: C.m(..) where m is a staticmethod of the class. -/
namespace L2
open PySem PySem.Spec PyProof.Rows
/-- C.m is a staticmethod: its record at p, its def at f -/
structure SMet (K : PySem.W.Frag) (C : Addr) (mc : Value) (m : Str) (p f : Addr) : Prop where
  at_ : PySem.W.findCls K (.ref C) mc m = some (.get (.builtin "staticmethod.__get__") (.ref p) .none (.ref C))
  rc : ∃ rest, PySem.W.recIn K p "staticmethod" = some (.ref f :: rest)
def tSMeth (C : Addr) (sp : Sp) (dvs : List V) (E : XK) (ta : TE) (t : TA) : TE := fun σ H Q => ta σ H fun x H1 => x = .ref C ∧ t σ H1 fun vs H2 => sp (vs ++ dvs) H2 Q E
section
variable {X : Cx} {CX : CXT} {k : Nat} {C p f : Addr} {mc : Value} {fd : FuncData} {ps : List Str} {sp : Sp} {dvs : List V} {ds : List Value} {E : XK} {o e : Expr} {es : List Expr} {m : Str} {pos apos : Pos} {ta : TE} {t : TA} {pl : Sem Bool}
end
end L2


/-! what the top says of a class without a constant, of a static method -/
namespace FT
open PySem L2 TL ClX
structure ClsN (K : PySem.W.Frag) (nm : Str) (C : Addr) : Prop where
  nsn : PySem.W.nsIn K mainGlobals nm = some (some (.ref C))
  rd : PySem.W.readsIn K C (.type "type") = true
  ga : PySem.W.specialIn K (.ref C) "__getattribute__" = some (some (.builtin "type.__getattribute__"))
  pg : PySem.W.plainGet K C Str.empty = true
  hd : PySem.W.hasDictIn K C = true
  po : PySem.W.plainOver K C = true
  sa : PySem.W.findIn K (.ref C) "__setattr__" = some (some (.builtin "object.__setattr__"))
  mks : PySem.W.makesIn K C = true
  kp : PySem.W.keepIn K (.ref C) = true
theorem ClsN.cls {K : PySem.W.Frag} {nm : Str} {C : Addr} (k : ClsN K nm C) : Cls K C := ⟨k.pg, k.hd, k.po, k.sa⟩
/-- a static method -/
structure StK (K : PySem.W.Frag) (C : Addr) (m : Str) (p f : Addr) (rest : List Value) : Prop where
  at_ : PySem.W.findCls K (.ref C) (.type "type") m = some (.get (.builtin "staticmethod.__get__") (.ref p) .none (.ref C))
  rec_ : PySem.W.recIn K p "staticmethod" = some (.ref f :: rest)
theorem StK.sm {K : PySem.W.Frag} {C p f : Addr} {m : Str} {rest : List Value} (s : StK K C m p f rest) : SMet K C (.type "type") m p f := ⟨s.at_, _, s.rec_⟩
end FT


namespace FT
open PySem PySem.Spec PyProof.Rows L2 TL ClX LamX NdefX
section
variable {q : Program} {l : PySem.W.OpenLaw} {w : World} {K : PySem.W.Frag} {h : Heap} {mg : Str → Option Value} {fa : Addr}
theorem all_mk {f_bgA f_dtA f_dpA f_doA f_nmP f_paP f_phA f_faA f_duT f_prT f_opA f_isn f_isa f_nd f_fi f_ai f_af f_at f_feB f_nmE f_pd f_pi f_ap f_tgE f_uc f_cgE f_erA f_law p_af p_at p_ap C_InvalidUsers C_InvalidSizes C_Mismatch C_InvalidNumber C_NotBest I_InvalidUsers I_InvalidSizes I_Mismatch I_InvalidNumber I_NotBest R c_law t_law CF CA : Addr} {d_bgA d_dtA d_dpA d_doA d_nmP d_paP d_phA d_faA d_duT d_prT d_opA d_isn d_isa d_nd d_fi d_ai d_af d_at d_feB d_nmE d_pd d_pi d_ap d_tgE d_uc d_cgE d_erA d_law D_InvalidUsers D_InvalidSizes D_Mismatch D_InvalidNumber D_NotBest : FuncData} {tL tT tR tCF tCA : Nat} {r_af r_at r_ap : List Value} (X : K.In h) (G : h.Ns mainGlobals mg) (hfa : mg "law" = some (.ref fa)) (TO : TabsOf q K h)
    (kCF : ClsK K "Forest" CF 12 tCF)
    (noCF_above : PySem.W.findIn K (.ref CF) "above" = some none)
    (kCA : ClsK K "Assignment" CA 60 tCA)
    (noCA_own_forest : PySem.W.findIn K (.ref CA) "own_forest" = some none)
    (noCA_own_places : PySem.W.findIn K (.ref CA) "own_places" = some none)
    (root : PySem.W.findCls K (.ref CF) (.type "type") "ROOT" = some (.val (.str "" tR)))
    (cL : PySem.W.nsIn K mainGlobals "LONGEST" = some (some (.int 8 tL)))
    (cT : PySem.W.nsIn K mainGlobals "LETTERS" = some (some (.str letters tT)))
    (n_bgA : PySem.W.nsIn K mainGlobals "_law_begin" = some (some (.ref f_bgA)))
    (u_bgA : L2.Fun K "_law_begin" "_law_begin" s__law_begin f_bgA d_bgA)
    (n_dtA : PySem.W.nsIn K mainGlobals "_law_take" = some (some (.ref f_dtA)))
    (u_dtA : L2.Fun K "_law_take" "_law_take" s__law_take f_dtA d_dtA)
    (n_dpA : PySem.W.nsIn K mainGlobals "_law_pick" = some (some (.ref f_dpA)))
    (u_dpA : L2.Fun K "_law_pick" "_law_pick" s__law_pick f_dpA d_dpA)
    (n_doA : PySem.W.nsIn K mainGlobals "_law_order" = some (some (.ref f_doA)))
    (u_doA : L2.Fun K "_law_order" "_law_order" s__law_order f_doA d_doA)
    (n_nmP : PySem.W.nsIn K mainGlobals "_law_names" = some (some (.ref f_nmP)))
    (u_nmP : L2.Fun K "_law_names" "_law_names" s__law_names f_nmP d_nmP)
    (n_paP : PySem.W.nsIn K mainGlobals "_law_parents" = some (some (.ref f_paP)))
    (u_paP : L2.Fun K "_law_parents" "_law_parents" s__law_parents f_paP d_paP)
    (n_phA : PySem.W.nsIn K mainGlobals "_law_path" = some (some (.ref f_phA)))
    (u_phA : L2.Fun K "_law_path" "_law_path" s__law_path f_phA d_phA)
    (n_faA : PySem.W.nsIn K mainGlobals "_law_far" = some (some (.ref f_faA)))
    (u_faA : L2.Fun K "_law_far" "_law_far" s__law_far f_faA d_faA)
    (n_duT : PySem.W.nsIn K mainGlobals "_law_due" = some (some (.ref f_duT)))
    (u_duT : L2.Fun K "_law_due" "_law_due" s__law_due f_duT d_duT)
    (n_prT : PySem.W.nsIn K mainGlobals "_law_paths_right" = some (some (.ref f_prT)))
    (u_prT : L2.Fun K "_law_paths_right" "_law_paths_right" s__law_paths_right f_prT d_prT)
    (n_opA : PySem.W.nsIn K mainGlobals "_law_other_parents" = some (some (.ref f_opA)))
    (u_opA : L2.Fun K "_law_other_parents" "_law_other_parents" s__law_other_parents f_opA d_opA)
    (n_isn : PySem.W.nsIn K mainGlobals "is_name" = some (some (.ref f_isn)))
    (u_isn : L2.Fun K "is_name" "is_name" s_is_name f_isn d_isn)
    (n_isa : PySem.W.nsIn K mainGlobals "is_ancestor" = some (some (.ref f_isa)))
    (u_isa : L2.Fun K "is_ancestor" "is_ancestor" s_is_ancestor f_isa d_isa)
    (n_nd : PySem.W.nsIn K mainGlobals "need_parents" = some (some (.ref f_nd)))
    (u_nd : L2.Fun K "need_parents" "need_parents" s_need_parents f_nd d_nd)
    (n_nmE : PySem.W.nsIn K mainGlobals "need_match" = some (some (.ref f_nmE)))
    (u_nmE : L2.Fun K "need_match" "need_match" s_need_match f_nmE d_nmE)
    (n_pd : PySem.W.nsIn K mainGlobals "path_difference" = some (some (.ref f_pd)))
    (u_pd : L2.Fun K "path_difference" "path_difference" s_path_difference f_pd d_pd)
    (n_pi : PySem.W.nsIn K mainGlobals "path_in" = some (some (.ref f_pi)))
    (u_pi : L2.Fun K "path_in" "path_in" s_path_in f_pi d_pi)
    (n_tgE : PySem.W.nsIn K mainGlobals "toggles" = some (some (.ref f_tgE)))
    (u_tgE : L2.Fun K "toggles" "toggles" s_toggles f_tgE d_tgE)
    (n_uc : PySem.W.nsIn K mainGlobals "user_changes" = some (some (.ref f_uc)))
    (u_uc : L2.Fun K "user_changes" "user_changes" s_user_changes f_uc d_uc)
    (n_cgE : PySem.W.nsIn K mainGlobals "changes" = some (some (.ref f_cgE)))
    (u_cgE : L2.Fun K "changes" "changes" s_changes f_cgE d_cgE)
    (n_erA : PySem.W.nsIn K mainGlobals "_law_error" = some (some (.ref f_erA)))
    (u_erA : L2.Fun K "_law_error" "_law_error" s__law_error f_erA d_erA)
    (n_law : PySem.W.nsIn K mainGlobals "law" = some (some (.ref f_law)))
    (u_law : FunC K "law" "law" s_law f_law d_law c_law)
    (t1_law : PySem.W.tabIn K "law" = some (c_law, t_law))
    (t2_law : K.lookup t_law = none)
    (t3_law : ((recsOf q).find? (fun e => e.name == ("law" : Str))).isSome = true)
    (m_fi : MetK K CF "__init__" f_fi)
    (m_ai : MetK K CA "__init__" f_ai)
    (m_feB : MetK K CF "__eq__" f_feB)
    (m_af : PrK K CA "forest" p_af f_af r_af)
    (m_at : PrK K CA "total" p_at f_at r_at)
    (m_ap : PrK K CA "places" p_ap f_ap r_ap)
    (eF_CF : EqF K CF f_feB)
    (u_fi : L2.Fun K "__init__" "Forest.__init__" s_Forest___init__ f_fi d_fi)
    (u_ai : L2.Fun K "__init__" "Assignment.__init__" s_Assignment___init__ f_ai d_ai)
    (u_feB : L2.Fun K "__eq__" "Forest.__eq__" s_Forest___eq__ f_feB d_feB)
    (u_af : L2.Fun K "forest" "Assignment.forest" s_Assignment_forest f_af d_af)
    (u_at : L2.Fun K "total" "Assignment.total" s_Assignment_total f_at d_at)
    (u_ap : L2.Fun K "places" "Assignment.places" s_Assignment_places f_ap d_ap)
    (rt0 : RootF K R)
    (e_InvalidUsers : ClsF K "InvalidUsers" "" C_InvalidUsers I_InvalidUsers R)
    (i_InvalidUsers : L2.Fun K "__init__" "InvalidUsers.__init__" s_InvalidUsers___init__ I_InvalidUsers D_InvalidUsers)
    (e_InvalidSizes : ClsF K "InvalidSizes" "place" C_InvalidSizes I_InvalidSizes R)
    (i_InvalidSizes : L2.Fun K "__init__" "InvalidSizes.__init__" s_InvalidSizes___init__ I_InvalidSizes D_InvalidSizes)
    (e_Mismatch : ClsF K "Mismatch" "" C_Mismatch I_Mismatch R)
    (i_Mismatch : L2.Fun K "__init__" "Mismatch.__init__" s_Mismatch___init__ I_Mismatch D_Mismatch)
    (e_InvalidNumber : ClsF K "InvalidNumber" "" C_InvalidNumber I_InvalidNumber R)
    (i_InvalidNumber : L2.Fun K "__init__" "InvalidNumber.__init__" s_InvalidNumber___init__ I_InvalidNumber D_InvalidNumber)
    (e_NotBest : ClsF K "NotBest" "" C_NotBest I_NotBest R)
    (i_NotBest : L2.Fun K "__init__" "NotBest.__init__" s_NotBest___init__ I_NotBest D_NotBest)
    (apart : ∀ i : Fin 5, R ≠ ([C_InvalidUsers, C_InvalidSizes, C_Mismatch, C_InvalidNumber, C_NotBest] : List Nat).getD i.1 0)
    (dist : ∀ i j : Fin 5, decide (([C_InvalidUsers, C_InvalidSizes, C_Mismatch, C_InvalidNumber, C_NotBest] : List Nat).getD i.1 0 = ([C_InvalidUsers, C_InvalidSizes, C_Mismatch, C_InvalidNumber, C_NotBest] : List Nat).getD j.1 0) = decide (i.1 = j.1))
    (z_abs : PySem.W.nsIn K mainGlobals "abs" = some none)
    (z_len : PySem.W.nsIn K mainGlobals "len" = some none)
    (z_rng : PySem.W.nsIn K mainGlobals "range" = some none)
    (z_enu : PySem.W.nsIn K mainGlobals "enumerate" = some none)
    (z_zip : PySem.W.nsIn K mainGlobals "zip" = some none)
    (z_isi : PySem.W.nsIn K mainGlobals "isinstance" = some none)
    (z_all : PySem.W.nsIn K mainGlobals "all" = some none)
    (z_srt : PySem.W.nsIn K mainGlobals "sorted" = some none)
    (z_lst : PySem.W.nsIn K mainGlobals "list" = some none)
    (z_dct : PySem.W.nsIn K mainGlobals "dict" = some none)
    (z_str : PySem.W.nsIn K mainGlobals "str" = some none)
    (z_int : PySem.W.nsIn K mainGlobals "int" = some none)
    (z_tup : PySem.W.nsIn K mainGlobals "tuple" = some none)
    (z_sum : PySem.W.nsIn K mainGlobals "sum" = some none)
    (z_min : PySem.W.nsIn K mainGlobals "min" = some none)
    (z_max : PySem.W.nsIn K mainGlobals "max" = some none)
    (z_rep : PySem.W.nsIn K mainGlobals "repr" = some none)
    (z_bool : PySem.W.nsIn K mainGlobals "bool" = some none)
    (z_any : PySem.W.nsIn K mainGlobals "any" = some none)
    (z_vE : PySem.W.nsIn K mainGlobals "ValueError" = some none)
    : LawTG l w K 8 63 "_law_script" mg fa h := by
  cases hfa.symm.trans (PySem.W.mg_of X G n_law)
  have N : Nm mg := ⟨PySem.W.mg_none_of X G z_abs, PySem.W.mg_none_of X G z_len, PySem.W.mg_none_of X G z_rng, PySem.W.mg_none_of X G z_enu, PySem.W.mg_none_of X G z_zip, PySem.W.mg_none_of X G z_isi, PySem.W.mg_none_of X G z_all, PySem.W.mg_none_of X G z_srt, PySem.W.mg_none_of X G z_lst, PySem.W.mg_none_of X G z_dct, PySem.W.mg_none_of X G z_str, PySem.W.mg_none_of X G z_int, PySem.W.mg_none_of X G z_tup, PySem.W.mg_none_of X G z_sum, PySem.W.mg_none_of X G z_min, PySem.W.mg_none_of X G z_max, PySem.W.mg_none_of X G z_rep, PySem.W.mg_none_of X G z_bool, PySem.W.mg_none_of X G z_any, PySem.W.mg_none_of X G z_vE⟩
  have Cs_ : Cs mg := ⟨⟨_, PySem.W.mg_of X G cL⟩, ⟨_, PySem.W.mg_of X G cT⟩⟩
  have SF : IsF K CF := ⟨kCF.ha, kCF.hn, kCF.ht, kCF.hm⟩
  have O : FoC K CF := ⟨kCF.cls, noCF_above⟩
  have Z : Fc K mg CF (.type "type") := kCF.fc X G root
  have B : Ac K mg CA (.type "type") := ⟨PySem.W.mg_of X G kCA.nsn, ⟨kCA.rd, kCA.ga⟩, ⟨_, kCA.most, ⟨_, rfl⟩⟩, kCA.cls, noCA_own_forest, noCA_own_places⟩
  have b_bgA := u_bgA.binds (ps := ["_law_script"]) fun _ _ _ _ _ _ us hl => match us, hl with | [_], _ => rfl
  have b_dtA := u_dtA.binds (ps := ["_law_draw", "_law_size"]) fun _ _ _ _ _ _ us hl => match us, hl with | [_, _], _ => rfl
  have b_dpA := u_dpA.binds (ps := ["_law_draw", "_law_some"]) fun _ _ _ _ _ _ us hl => match us, hl with | [_, _], _ => rfl
  have b_doA := u_doA.binds (ps := ["_law_draw", "_law_some"]) fun _ _ _ _ _ _ us hl => match us, hl with | [_, _], _ => rfl
  have b_nmP := u_nmP.binds (ps := ["_law_draw", "_law_many"]) fun _ _ _ _ _ _ us hl => match us, hl with | [_, _], _ => rfl
  have b_paP := u_paP.binds (ps := ["_law_draw", "_law_many"]) fun _ _ _ _ _ _ us hl => match us, hl with | [_, _], _ => rfl
  have b_phA := u_phA.binds (ps := ["_law_above", "_law_spot"]) fun _ _ _ _ _ _ us hl => match us, hl with | [_, _], _ => rfl
  have b_faA := u_faA.binds (ps := ["_law_above", "_law_spot", "_law_goal"]) fun _ _ _ _ _ _ us hl => match us, hl with | [_, _, _], _ => rfl
  have b_duT := u_duT.binds (ps := ["_law_above", "_law_here", "_law_there"]) fun _ _ _ _ _ _ us hl => match us, hl with | [_, _, _], _ => rfl
  have b_prT := u_prT.binds (ps := ["_law_above", "_law_here", "_law_there", "_law_told"]) fun _ _ _ _ _ _ us hl => match us, hl with | [_, _, _, _], _ => rfl
  have b_opA := u_opA.binds (ps := ["_law_above"]) fun _ _ _ _ _ _ us hl => match us, hl with | [_], _ => rfl
  have b_isn := u_isn.binds (ps := ["value"]) fun _ _ _ _ _ _ us hl => match us, hl with | [_], _ => rfl
  have b_isa := u_isa.binds (ps := ["parents", "name"]) fun _ _ _ _ _ _ us hl => match us, hl with | [_, _], _ => rfl
  have b_nd := u_nd.binds (ps := ["parents"]) fun _ _ _ _ _ _ us hl => match us, hl with | [_], _ => rfl
  have b_fi := u_fi.binds (ps := ["self", "parents"]) fun _ _ _ _ _ _ us hl => match us, hl with | [_, _], _ => rfl
  have b_ai := u_ai.binds (ps := ["self", "forest", "places"]) fun _ _ _ _ _ _ us hl => match us, hl with | [_, _, _], _ => rfl
  have b_af := u_af.binds (ps := ["self"]) fun _ _ _ _ _ _ us hl => match us, hl with | [_], _ => rfl
  have b_at := u_at.binds (ps := ["self"]) fun _ _ _ _ _ _ us hl => match us, hl with | [_], _ => rfl
  have b_feB := u_feB.binds (ps := ["self", "other"]) fun _ _ _ _ _ _ us hl => match us, hl with | [_, _], _ => rfl
  have b_nmE := u_nmE.binds (ps := ["one", "other"]) fun _ _ _ _ _ _ us hl => match us, hl with | [_, _], _ => rfl
  have b_pd := u_pd.binds (ps := ["one", "other"]) fun _ _ _ _ _ _ us hl => match us, hl with | [_, _], _ => rfl
  have b_pi := u_pi.binds (ps := ["above", "place"]) fun _ _ _ _ _ _ us hl => match us, hl with | [_, _], _ => rfl
  have b_ap := u_ap.binds (ps := ["self"]) fun _ _ _ _ _ _ us hl => match us, hl with | [_], _ => rfl
  have b_tgE := u_tgE.binds (ps := ["one", "other"]) fun _ _ _ _ _ _ us hl => match us, hl with | [_, _], _ => rfl
  have b_uc := u_uc.binds (ps := ["user", "path", "goal"]) fun _ _ _ _ _ _ us hl => match us, hl with | [_, _, _], _ => rfl
  have b_cgE := u_cgE.binds (ps := ["one", "other"]) fun _ _ _ _ _ _ us hl => match us, hl with | [_, _], _ => rfl
  have b_erA := u_erA.binds (ps := ["_law_work"]) fun _ _ _ _ _ _ us hl => match us, hl with | [_], _ => rfl
  have g_bgA := PySem.W.mg_of X G n_bgA
  have g_dtA := PySem.W.mg_of X G n_dtA
  have g_dpA := PySem.W.mg_of X G n_dpA
  have g_doA := PySem.W.mg_of X G n_doA
  have g_nmP := PySem.W.mg_of X G n_nmP
  have g_paP := PySem.W.mg_of X G n_paP
  have g_phA := PySem.W.mg_of X G n_phA
  have g_faA := PySem.W.mg_of X G n_faA
  have g_duT := PySem.W.mg_of X G n_duT
  have g_prT := PySem.W.mg_of X G n_prT
  have g_opA := PySem.W.mg_of X G n_opA
  have g_isn := PySem.W.mg_of X G n_isn
  have g_isa := PySem.W.mg_of X G n_isa
  have g_nd := PySem.W.mg_of X G n_nd
  have g_nmE := PySem.W.mg_of X G n_nmE
  have g_pd := PySem.W.mg_of X G n_pd
  have g_pi := PySem.W.mg_of X G n_pi
  have g_tgE := PySem.W.mg_of X G n_tgE
  have g_uc := PySem.W.mg_of X G n_uc
  have g_cgE := PySem.W.mg_of X G n_cgE
  have g_erA := PySem.W.mg_of X G n_erA
  have rt := rt0.rt X G
  have at_ : ∀ i, i < 5 → ClsAt K (([C_InvalidUsers, C_InvalidSizes, C_Mismatch, C_InvalidNumber, C_NotBest] : List Nat).getD i 0) (.ref R :: exTail) := fun i hi => match i, hi with
    | 0, _ => e_InvalidUsers.at_
    | 1, _ => e_InvalidSizes.at_
    | 2, _ => e_Mismatch.at_
    | 3, _ => e_InvalidNumber.at_
    | 4, _ => e_NotBest.at_
  have xs_ : ∀ i, i < 5 → XCls K (([C_InvalidUsers, C_InvalidSizes, C_Mismatch, C_InvalidNumber, C_NotBest] : List Nat).getD i 0) := fun i hi => match i, hi with
    | 0, _ => e_InvalidUsers.x rt0
    | 1, _ => e_InvalidSizes.x rt0
    | 2, _ => e_Mismatch.x rt0
    | 3, _ => e_InvalidNumber.x rt0
    | 4, _ => e_NotBest.x rt0
  have kits : ∀ i j, i < 5 → j < 5 → PySem.W.kitOne K (.ref (([C_InvalidUsers, C_InvalidSizes, C_Mismatch, C_InvalidNumber, C_NotBest] : List Nat).getD i 0)) (.ref (([C_InvalidUsers, C_InvalidSizes, C_Mismatch, C_InvalidNumber, C_NotBest] : List Nat).getD j 0)) = some (decide (i = j)) := fun i j hi hj => by rw [(at_ i hi).kit (at_ j hj), has_cls (dist ⟨i, hi⟩ ⟨j, hj⟩) (apart ⟨j, hj⟩)]
  have exs : ∀ i j, i < 5 → j < 5 → PySem.W.exmOne K (.ref (([C_InvalidUsers, C_InvalidSizes, C_Mismatch, C_InvalidNumber, C_NotBest] : List Nat).getD i 0)) (.ref (([C_InvalidUsers, C_InvalidSizes, C_Mismatch, C_InvalidNumber, C_NotBest] : List Nat).getD j 0)) = some (decide (i = j)) := fun i j hi hj => by rw [(at_ i hi).exm (at_ j hj) rfl, has_cls (dist ⟨i, hi⟩ ⟨j, hj⟩) (apart ⟨j, hj⟩)]
  obtain ⟨T, eT⟩ : ∃ T : List (Addr × Str), T = [(t_law, lamQ "law")] := ⟨_, rfl⟩
  have m_law : (t_law, lamQ "law") ∈ T := by rw [eT]; simp
  have un_law : ∀ p ∈ T, p.1 = t_law → p.2 = lamQ "law" := fun p hp e => by
    rw [eT] at hp
    simp only [List.mem_cons, List.not_mem_nil, or_false] at hp
    rcases hp with rfl
    · rfl
  refine ⟨d_law, ([(c_law, t_law)] : List (Addr × Addr)), spLaw05 K T, fun p hp => ?_, fun s u => ?_, fun H a ns hl hts hS => ?_, fun base KB GB TBs => ?_⟩
  · simp only [List.mem_cons, List.not_mem_nil, or_false] at hp
    rcases hp with rfl
    · exact ⟨(TO _ _ _ t3_law t1_law).1, (TO _ _ _ t3_law t1_law).2, t2_law⟩
  · obtain ⟨oc, od, kV, doc, pm, an, cdv, ct, osl, rfl, lk, hcd⟩ := u_law.fun.ex
    exact .of_eq rfl
  · refine ⟨a, ns, rfl, hS, hl, ?_, fun _ => rfl⟩
    intro p hp
    rw [eT] at hp
    simp only [List.mem_cons, List.not_mem_nil, or_false] at hp
    rcases hp with rfl
    · exact TabS.nil (hts (c_law, t_law) (by simp))
  have E_Mismatch : Er0 l.prog w K mg base "Mismatch" C_Mismatch I_Mismatch D_Mismatch := ⟨e_Mismatch.er X G rt0, ok_Mismatch i_Mismatch rt (e_Mismatch.er X G rt0), i_Mismatch.binds (ps := ["self"]) fun _ _ _ _ _ _ us hl => match us, hl with | [_], _ => rfl⟩
  have D_bgA : Dn l.prog w K mg base CX0 1 "_law_begin" ["_law_script"] (spBegin K) f_bgA d_bgA := ⟨ok_begin u_bgA N, u_bgA.kp, b_bgA, g_bgA⟩
  have D_dtA : Dn l.prog w K mg base CX0 1 "_law_take" ["_law_draw", "_law_size"] (spDraw) f_dtA d_dtA := ⟨ok_draw u_dtA N, u_dtA.kp, b_dtA, g_dtA⟩
  have D_dpA : Dn l.prog w K mg base CX0 2 "_law_pick" ["_law_draw", "_law_some"] (spPick K) f_dpA d_dpA := ⟨ok_pick u_dpA N u_dtA b_dtA g_dtA, u_dpA.kp, b_dpA, g_dpA⟩
  have D_doA : Dn l.prog w K mg base CX0 2 "_law_order" ["_law_draw", "_law_some"] (spOrder K) f_doA d_doA := ⟨ok_order u_doA N u_dtA b_dtA g_dtA, u_doA.kp, b_doA, g_doA⟩
  have D_nmP : Dn l.prog w K mg base CX0 3 "_law_names" ["_law_draw", "_law_many"] (spNamesP) f_nmP d_nmP := ⟨ok_namesP u_nmP N u_dtA b_dtA g_dtA u_doA b_doA g_doA, u_nmP.kp, b_nmP, g_nmP⟩
  have D_paP : Dn l.prog w K mg base CX0 4 "_law_parents" ["_law_draw", "_law_many"] (spParentsP) f_paP d_paP := ⟨ok_parentsP u_paP N D_dtA D_dpA D_doA D_nmP, u_paP.kp, b_paP, g_paP⟩
  have D_phA : Dn l.prog w K mg base CX0 1 "_law_path" ["_law_above", "_law_spot"] (spPath) f_phA d_phA := ⟨ok_path u_phA, u_phA.kp, b_phA, g_phA⟩
  have D_faA : Dn l.prog w K mg base CX0 2 "_law_far" ["_law_above", "_law_spot", "_law_goal"] (spFar) f_faA d_faA := ⟨ok_far u_faA N D_phA, u_faA.kp, b_faA, g_faA⟩
  have D_duT : Dn l.prog w K mg base CX0 2 "_law_due" ["_law_above", "_law_here", "_law_there"] (spDue) f_duT d_duT := ⟨ok_dueT u_duT N D_phA, u_duT.kp, b_duT, g_duT⟩
  have D_prT : Dn l.prog w K mg base CX0 2 "_law_paths_right" ["_law_above", "_law_here", "_law_there", "_law_told"] (spPathsR) f_prT d_prT := ⟨ok_pathsR u_prT N D_phA, u_prT.kp, b_prT, g_prT⟩
  have D_opA : Dn l.prog w K mg base CX0 1 "_law_other_parents" ["_law_above"] (spOtherP) f_opA d_opA := ⟨ok_otherP u_opA N, u_opA.kp, b_opA, g_opA⟩
  have D_isn : Dn l.prog w K mg base CX0 1 "is_name" ["value"] (spIsName) f_isn d_isn := ⟨ok_isName u_isn N Cs_, u_isn.kp, b_isn, g_isn⟩
  have D_isa : Dn l.prog w K mg base CX0 1 "is_ancestor" ["parents", "name"] (spIsAnc) f_isa d_isa := ⟨ok_isAnc u_isa, u_isa.kp, b_isa, g_isa⟩
  have D_nd : Dn l.prog w K mg base CX0 2 "need_parents" ["parents"] (spNeed) f_nd d_nd := ⟨ok_need u_nd N Cs_ Z D_isn D_isa, u_nd.kp, b_nd, g_nd⟩
  have F_fi : FnOk l.prog w K mg base CX0 3 f_fi d_fi ["self", "parents"] (spFInit CF) := ok_finit u_fi N O D_nd
  have MK_fi : Mk K CF f_fi := ⟨kCF.mks, m_fi.at_, m_fi.fn, kCF.kp⟩
  have F_ai : FnOk l.prog w K mg base CX0 1 f_ai d_ai ["self", "forest", "places"] (spAInit CF CA) := ok_ainit u_ai N O Z B
  have MK_ai : Mk K CA f_ai := ⟨kCA.mks, m_ai.at_, m_ai.fn, kCA.kp⟩
  have P_af : PrN l.prog w K mg base 1 CA "forest" (spAForest CA) p_af f_af d_af := ⟨⟨m_af.at_, m_af.get, m_af.tak, ⟨_, m_af.rec_⟩⟩, ok_aforest u_af B, b_af⟩
  have P_at : PrN l.prog w K mg base 1 CA "total" (spATotal CA) p_at f_at d_at := ⟨⟨m_at.at_, m_at.get, m_at.tak, ⟨_, m_at.rec_⟩⟩, ok_atotal u_at N B, b_at⟩
  have F_feB : FnOk l.prog w K mg base CX0 1 f_feB d_feB ["self", "other"] (spEqB (RFoB CF)) := ok_feqB u_feB N O Z SF
  have M_feB : Mt l.prog w K mg base CX0 1 CF "__eq__" ["self", "other"] (spEqB (RFoB CF)) f_feB d_feB := ⟨⟨m_feB.at_, m_feB.fn, u_feB.kp⟩, F_feB, b_feB⟩
  have D_nmE : Dn l.prog w K mg base (L2.CX l.prog w) 3 "need_match" ["one", "other"] (spMatchE CF CA C_Mismatch) f_nmE d_nmE := ⟨ok_matchE u_nmE B P_af P_at F_feB eF_CF b_feB E_Mismatch, u_nmE.kp, b_nmE, g_nmE⟩
  have D_pd : Dn l.prog w K mg base CX0 1 "path_difference" ["one", "other"] (spDiff) f_pd d_pd := ⟨ok_diff u_pd N, u_pd.kp, b_pd, g_pd⟩
  have D_pi : Dn l.prog w K mg base CX0 1 "path_in" ["above", "place"] (spPathIn) f_pi d_pi := ⟨ok_pathIn u_pi N, u_pi.kp, b_pi, g_pi⟩
  have P_ap : PrN l.prog w K mg base 1 CA "places" (spAPlaces CA) p_ap f_ap d_ap := ⟨⟨m_ap.at_, m_ap.get, m_ap.tak, ⟨_, m_ap.rec_⟩⟩, ok_aplaces u_ap N B, b_ap⟩
  have D_tgE : Dn l.prog w K mg base (L2.CX l.prog w) 4 "toggles" ["one", "other"] (spTogglesE CF CA C_Mismatch) f_tgE d_tgE := ⟨ok_togglesE u_tgE N O B D_nmE D_pd D_pi P_af P_ap, u_tgE.kp, b_tgE, g_tgE⟩
  have D_uc : Dn l.prog w K mg base CX0 1 "user_changes" ["user", "path", "goal"] (spUserCh) f_uc d_uc := ⟨ok_userCh u_uc, u_uc.kp, b_uc, g_uc⟩
  have G_cgE : Sg.GFn2 l.prog w K mg base 4 f_cgE d_cgE ["one", "other"] (spCh CF CA C_Mismatch) := ok_changes u_cgE N O B D_nmE D_uc D_pi P_af P_ap
  have GE : Ge K mg "_law_error" s__law_error f_erA d_erA := ⟨u_erA, b_erA, g_erA⟩
  have C5 : Cl5 K mg R (fun i => ([C_InvalidUsers, C_InvalidSizes, C_Mismatch, C_InvalidNumber, C_NotBest] : List Nat).getD i 0) := ⟨rt.g, fun i hi => match i, hi with
    | 0, _ => PySem.W.mg_of X G e_InvalidUsers.nsn
    | 1, _ => PySem.W.mg_of X G e_InvalidSizes.nsn
    | 2, _ => PySem.W.mg_of X G e_Mismatch.nsn
    | 3, _ => PySem.W.mg_of X G e_InvalidNumber.nsn
    | 4, _ => PySem.W.mg_of X G e_NotBest.nsn, xs_, kits, fun i hi => kit_bt (at_ i hi), fun i hi => by rw [(at_ i hi).exm rt0.at_ rfl, has_root]⟩
  have noS : PySem.W.subIn K (.ref C_Mismatch) (.type "StopIteration") = some false := (e_Mismatch.at_.sub _).trans rfl
  have W : W05 l.prog w K mg base CF CA C_Mismatch (.type "type") (.type "type") (fun i => ([f_bgA, f_dtA, f_dpA, f_paP, f_faA, f_duT, f_prT, f_opA, f_fi, f_ai, f_tgE, f_cgE] : List Nat).getD i 0) (fun i => ([d_bgA, d_dtA, d_dpA, d_paP, d_faA, d_duT, d_prT, d_opA, d_fi, d_ai, d_tgE, d_cgE] : List FuncData).getD i d_ai) := { Z := Z, B := B, bg := D_bgA, dt := D_dtA, dp := D_dpA, pa := D_paP, far := D_faA, due := D_duT, pr := D_prT, op := D_opA, fi := F_fi, fim := MK_fi, fib := b_fi, ai := F_ai, aim := MK_ai, aib := b_ai, to := D_tgE, tok := kw2 u_tgE fun _ _ _ _ _ _ _ _ => rfl, ch := G_cgE, chp := u_cgE.kp, chb := b_cgE, chg := g_cgE, chk := kw2 u_cgE fun _ _ _ _ _ _ _ _ => rfl }
  exact ok_law05 u_law N W GE C5 rfl noS (TBs (c_law, t_law) (by simp)) m_law un_law
end
theorem walk {l : PySem.W.OpenLaw} {q : Program} {loose : List Str} {XP : (Str → Option Value) → Heap → Prop} {YP : World → Heap → Prop} {d : DefRec} {K : Params → PySem.W.Frag} (hn : l.most = some 63) (hdf : d.params.defaults = [])
    (hY : ∀ (w : World) (h : Heap), YP w h → (K w.params).In h)
    (F : ∀ (w : World) (mg : Str → Option Value) (fa : Addr) (h : Heap), (K w.params).In h → h.Ns mainGlobals mg → mg d.name = some (.ref fa) → TabsOf q (K w.params) h → XP mg h → LawTG l w (K w.params) 8 63 "_law_script" mg fa h) :
    PySem.W.WalkO q loose XP YP l.row.toRowW d [] (fun f vs => PySem.call f vs) :=
  walk_tabG (n := 63) (k := 8) (x := "_law_script") hn (by decide) hdf ⟨rfl, by decide, by decide⟩ hY F
end FT


open PySem PySem.W PyProof.Rows
set_option maxRecDepth 100000 in
set_option maxHeartbeats 0 in
theorem PySem.Challenge.cw_flagtrees_k05_toggles_holds : PySem.Challenge.rw_flagtrees_k05_toggles.Holds := by
  w_on; o_law; k_head; (case hw => w_witness2)
  k_fill
  refine FT.walk (l := PySem.Challenge.rw_flagtrees_k05_toggles) rfl rfl (fun w h Y => PySem.W.km_in_of Y) ?F
  case F =>
    intro w mg fa h KX G hm TO XX
    have hmg : mg "law" = some (.ref fa) := hm
    clear hm
    refine' FT.all_mk KX G hmg TO ?kCF ?noCF_above ?kCA ?noCA_own_forest ?noCA_own_places ?root ?cL ?cT ?n_bgA ?u_bgA ?n_dtA ?u_dtA ?n_dpA ?u_dpA ?n_doA ?u_doA ?n_nmP ?u_nmP ?n_paP ?u_paP ?n_phA ?u_phA ?n_faA ?u_faA ?n_duT ?u_duT ?n_prT ?u_prT ?n_opA ?u_opA ?n_isn ?u_isn ?n_isa ?u_isa ?n_nd ?u_nd ?n_nmE ?u_nmE ?n_pd ?u_pd ?n_pi ?u_pi ?n_tgE ?u_tgE ?n_uc ?u_uc ?n_cgE ?u_cgE ?n_erA ?u_erA ?n_law ?u_law ?t1_law ?t2_law ?t3_law ?m_fi ?m_ai ?m_feB ?m_af ?m_at ?m_ap ?eF_CF ?u_fi ?u_ai ?u_feB ?u_af ?u_at ?u_ap ?rt0 ?e_InvalidUsers ?i_InvalidUsers ?e_InvalidSizes ?i_InvalidSizes ?e_Mismatch ?i_Mismatch ?e_InvalidNumber ?i_InvalidNumber ?e_NotBest ?i_NotBest ?apart ?dist ?z_abs ?z_len ?z_rng ?z_enu ?z_zip ?z_isi ?z_all ?z_srt ?z_lst ?z_dct ?z_str ?z_int ?z_tup ?z_sum ?z_min ?z_max ?z_rep ?z_bool ?z_any ?z_vE
    (case kCF => (refine' ⟨?nsn, ?rd, ?ga, ?most, ?pg, ?hd, ?po, ?sa, ?mks, ?kp, ?ha, ?hn, ?ht, ?hm⟩; (case nsn => k_is); (case rd => k_is); (case ga => k_is); (case most => k_is); (case pg => k_is); (case hd => k_is); (case po => k_is); (case sa => k_is); (case mks => k_is); (case kp => k_is); (case ha => k_is); (case hn => k_is); (case ht => k_is); (case hm => k_is)))
    (case noCF_above => k_is)
    (case kCA => (refine' ⟨?nsn, ?rd, ?ga, ?most, ?pg, ?hd, ?po, ?sa, ?mks, ?kp, ?ha, ?hn, ?ht, ?hm⟩; (case nsn => k_is); (case rd => k_is); (case ga => k_is); (case most => k_is); (case pg => k_is); (case hd => k_is); (case po => k_is); (case sa => k_is); (case mks => k_is); (case kp => k_is); (case ha => k_is); (case hn => k_is); (case ht => k_is); (case hm => k_is)))
    (case noCA_own_forest => k_is)
    (case noCA_own_places => k_is)
    (case root => k_is)
    (case cL => k_is)
    (case cT => k_is)
    (case n_bgA => k_is)
    (case u_bgA => (refine' L2.fun_mk ?l ?c ?k; (case l => k_is); (case c => k_is); (case k => k_is)))
    (case n_dtA => k_is)
    (case u_dtA => (refine' L2.fun_mk ?l ?c ?k; (case l => k_is); (case c => k_is); (case k => k_is)))
    (case n_dpA => k_is)
    (case u_dpA => (refine' L2.fun_mk ?l ?c ?k; (case l => k_is); (case c => k_is); (case k => k_is)))
    (case n_doA => k_is)
    (case u_doA => (refine' L2.fun_mk ?l ?c ?k; (case l => k_is); (case c => k_is); (case k => k_is)))
    (case n_nmP => k_is)
    (case u_nmP => (refine' L2.fun_mk ?l ?c ?k; (case l => k_is); (case c => k_is); (case k => k_is)))
    (case n_paP => k_is)
    (case u_paP => (refine' L2.fun_mk ?l ?c ?k; (case l => k_is); (case c => k_is); (case k => k_is)))
    (case n_phA => k_is)
    (case u_phA => (refine' L2.fun_mk ?l ?c ?k; (case l => k_is); (case c => k_is); (case k => k_is)))
    (case n_faA => k_is)
    (case u_faA => (refine' L2.fun_mk ?l ?c ?k; (case l => k_is); (case c => k_is); (case k => k_is)))
    (case n_duT => k_is)
    (case u_duT => (refine' L2.fun_mk ?l ?c ?k; (case l => k_is); (case c => k_is); (case k => k_is)))
    (case n_prT => k_is)
    (case u_prT => (refine' L2.fun_mk ?l ?c ?k; (case l => k_is); (case c => k_is); (case k => k_is)))
    (case n_opA => k_is)
    (case u_opA => (refine' L2.fun_mk ?l ?c ?k; (case l => k_is); (case c => k_is); (case k => k_is)))
    (case n_isn => k_is)
    (case u_isn => (refine' L2.fun_mk ?l ?c ?k; (case l => k_is); (case c => k_is); (case k => k_is)))
    (case n_isa => k_is)
    (case u_isa => (refine' L2.fun_mk ?l ?c ?k; (case l => k_is); (case c => k_is); (case k => k_is)))
    (case n_nd => k_is)
    (case u_nd => (refine' L2.fun_mk ?l ?c ?k; (case l => k_is); (case c => k_is); (case k => k_is)))
    (case n_nmE => k_is)
    (case u_nmE => (refine' L2.fun_mk ?l ?c ?k; (case l => k_is); (case c => k_is); (case k => k_is)))
    (case n_pd => k_is)
    (case u_pd => (refine' L2.fun_mk ?l ?c ?k; (case l => k_is); (case c => k_is); (case k => k_is)))
    (case n_pi => k_is)
    (case u_pi => (refine' L2.fun_mk ?l ?c ?k; (case l => k_is); (case c => k_is); (case k => k_is)))
    (case n_tgE => k_is)
    (case u_tgE => (refine' L2.fun_mk ?l ?c ?k; (case l => k_is); (case c => k_is); (case k => k_is)))
    (case n_uc => k_is)
    (case u_uc => (refine' L2.fun_mk ?l ?c ?k; (case l => k_is); (case c => k_is); (case k => k_is)))
    (case n_cgE => k_is)
    (case u_cgE => (refine' L2.fun_mk ?l ?c ?k; (case l => k_is); (case c => k_is); (case k => k_is)))
    (case n_erA => k_is)
    (case u_erA => (refine' L2.fun_mk ?l ?c ?k; (case l => k_is); (case c => k_is); (case k => k_is)))
    (case n_law => k_is)
    (case u_law => (refine' L2.funC_mk ?l ?e ?k; (case l => k_is); (case e => k_is); (case k => k_is)))
    (case t1_law => rfl)
    (case t2_law => rfl)
    (case t3_law => rfl)
    (case m_fi => (refine' ⟨?at_, ?fn⟩; (case at_ => k_is); (case fn => k_is)))
    (case m_ai => (refine' ⟨?at_, ?fn⟩; (case at_ => k_is); (case fn => k_is)))
    (case m_feB => (refine' ⟨?at_, ?fn⟩; (case at_ => k_is); (case fn => k_is)))
    (case m_af => (refine' ⟨?at_, ?get, ?tak, ?rec_⟩; (case at_ => k_is); (case get => k_is); (case tak => k_is); (case rec_ => k_is)))
    (case m_at => (refine' ⟨?at_, ?get, ?tak, ?rec_⟩; (case at_ => k_is); (case get => k_is); (case tak => k_is); (case rec_ => k_is)))
    (case m_ap => (refine' ⟨?at_, ?get, ?tak, ?rec_⟩; (case at_ => k_is); (case get => k_is); (case tak => k_is); (case rec_ => k_is)))
    (case eF_CF => exact ⟨⟨_, _, _, _, _, _, _, _, _, _, _, _, _, _, _, rfl, _, _, _, _, _, rfl, rfl, rfl, rfl⟩, ⟨_, rfl, rfl⟩⟩)
    (case u_fi => (refine' L2.fun_mk ?l ?c ?k; (case l => k_is); (case c => k_is); (case k => k_is)))
    (case u_ai => (refine' L2.fun_mk ?l ?c ?k; (case l => k_is); (case c => k_is); (case k => k_is)))
    (case u_feB => (refine' L2.fun_mk ?l ?c ?k; (case l => k_is); (case c => k_is); (case k => k_is)))
    (case u_af => (refine' L2.fun_mk ?l ?c ?k; (case l => k_is); (case c => k_is); (case k => k_is)))
    (case u_at => (refine' L2.fun_mk ?l ?c ?k; (case l => k_is); (case c => k_is); (case k => k_is)))
    (case u_ap => (refine' L2.fun_mk ?l ?c ?k; (case l => k_is); (case c => k_is); (case k => k_is)))
    (case rt0 => (refine' ⟨?nsn, ?at_, ?rd, ?ga, ?ini, ?hn, ?ht⟩; (case nsn => k_is); (case at_ => (refine' ⟨_, _, _, _, _, _, _, _, _, _, _, _, _, _, ?xl⟩; (case xl => rfl))); (case rd => k_is); (case ga => k_is); (case ini => k_is); (case hn => k_is); (case ht => k_is)))
    (case e_InvalidUsers => (refine' ⟨?nsn, ?at_, ?sa, ?ga, ?gg, ?ha, ?kC, ?no, ?ini, ?ity⟩; (case nsn => k_is); (case at_ => (refine' ⟨_, _, _, _, _, _, _, _, _, _, _, _, _, _, ?xl⟩; (case xl => rfl))); (case sa => k_is); (case ga => k_is); (case gg => k_is); (case ha => k_is); (case kC => k_is); (case no => k_is); (case ini => k_is); (case ity => k_is)))
    (case i_InvalidUsers => (refine' L2.fun_mk ?l ?c ?k; (case l => k_is); (case c => k_is); (case k => k_is)))
    (case e_InvalidSizes => (refine' ⟨?nsn, ?at_, ?sa, ?ga, ?gg, ?ha, ?kC, ?no, ?ini, ?ity⟩; (case nsn => k_is); (case at_ => (refine' ⟨_, _, _, _, _, _, _, _, _, _, _, _, _, _, ?xl⟩; (case xl => rfl))); (case sa => k_is); (case ga => k_is); (case gg => k_is); (case ha => k_is); (case kC => k_is); (case no => k_is); (case ini => k_is); (case ity => k_is)))
    (case i_InvalidSizes => (refine' L2.fun_mk ?l ?c ?k; (case l => k_is); (case c => k_is); (case k => k_is)))
    (case e_Mismatch => (refine' ⟨?nsn, ?at_, ?sa, ?ga, ?gg, ?ha, ?kC, ?no, ?ini, ?ity⟩; (case nsn => k_is); (case at_ => (refine' ⟨_, _, _, _, _, _, _, _, _, _, _, _, _, _, ?xl⟩; (case xl => rfl))); (case sa => k_is); (case ga => k_is); (case gg => k_is); (case ha => k_is); (case kC => k_is); (case no => k_is); (case ini => k_is); (case ity => k_is)))
    (case i_Mismatch => (refine' L2.fun_mk ?l ?c ?k; (case l => k_is); (case c => k_is); (case k => k_is)))
    (case e_InvalidNumber => (refine' ⟨?nsn, ?at_, ?sa, ?ga, ?gg, ?ha, ?kC, ?no, ?ini, ?ity⟩; (case nsn => k_is); (case at_ => (refine' ⟨_, _, _, _, _, _, _, _, _, _, _, _, _, _, ?xl⟩; (case xl => rfl))); (case sa => k_is); (case ga => k_is); (case gg => k_is); (case ha => k_is); (case kC => k_is); (case no => k_is); (case ini => k_is); (case ity => k_is)))
    (case i_InvalidNumber => (refine' L2.fun_mk ?l ?c ?k; (case l => k_is); (case c => k_is); (case k => k_is)))
    (case e_NotBest => (refine' ⟨?nsn, ?at_, ?sa, ?ga, ?gg, ?ha, ?kC, ?no, ?ini, ?ity⟩; (case nsn => k_is); (case at_ => (refine' ⟨_, _, _, _, _, _, _, _, _, _, _, _, _, _, ?xl⟩; (case xl => rfl))); (case sa => k_is); (case ga => k_is); (case gg => k_is); (case ha => k_is); (case kC => k_is); (case no => k_is); (case ini => k_is); (case ity => k_is)))
    (case i_NotBest => (refine' L2.fun_mk ?l ?c ?k; (case l => k_is); (case c => k_is); (case k => k_is)))
    (case apart => decide +kernel)
    (case dist => decide +kernel)
    (case z_abs => k_is)
    (case z_len => k_is)
    (case z_rng => k_is)
    (case z_enu => k_is)
    (case z_zip => k_is)
    (case z_isi => k_is)
    (case z_all => k_is)
    (case z_srt => k_is)
    (case z_lst => k_is)
    (case z_dct => k_is)
    (case z_str => k_is)
    (case z_int => k_is)
    (case z_tup => k_is)
    (case z_sum => k_is)
    (case z_min => k_is)
    (case z_max => k_is)
    (case z_rep => k_is)
    (case z_bool => k_is)
    (case z_any => k_is)
    (case z_vE => k_is)
